import PyProof.Rows.All
import Wide.All
import OpenK.AllK
import Wide.FinOn
import PySem.Challenge.RW_pq0162_01
open PySem PySem.W PyProof.Rows PySem.Calls
set_option Elab.async false
set_option maxRecDepth 100000
set_option rowWalk.seconds 0
namespace Mine
set_option maxRecDepth 100000 in
set_option maxHeartbeats 8000000 in
open_top hd for PySem.Challenge.rw_pq0162_01
noncomputable section
section
variable {prog : Program} {w : World} {A₀ A : Around} {s : Shared} {base h₀ : Heap} {outer : List Env} {L : Addr} {m : Str → Option Value} {env : Env} {K : Frag} {p : Program} {loose : List Str} {mean : ExcName → Option Value} {mg mb : Str → Option Value}
  {R : Result → Shared → Prop} {name qual : Str} {params : Arguments} {body : List Stmt} {scope : Scope} {dV kV doc pm cdv ct oc : Value} {an od : Option Addr} {osl : Array (Option Value)} {f : Addr} {args : Args} {binds : List (Str × Value)}

/-- the end of a pure def: what came back, handed to the caller -/
def Done (R : Result → Shared → Prop) (v : Value) (s' : Shared) : Prop := R (.ok (.ret v)) s'

theorem enter_pure (B : Below A₀ base outer h₀) (F : Fr h₀ L s.heap m) (X₀ : K.In h₀) (T : Top p loose mean mg mb h₀) (hA : A.frames = some (env :: outer)) (hf : env.frame = some L) (hke : env.scope.kind = .function)
    (ho : K.lookup f = some ⟨oc, od, .func (fnOf name qual params body scope dV kV doc pm an cdv ct), osl⟩) (hcd : codeIn K cdv qual = true) (hroom : A.depth < recursionLimit)
    (hbind : BindsTo s (fnOf name qual params body scope dV kV doc pm an cdv ct) args binds) (hloc : ∀ y ∈ binds, scope.names.lookup y.1 = some .local)
    (h : ∀ L' h₁, Fr s.heap L' h₁ (fun y => binds.reverse.lookup y) → News s.heap L' h₁ [] → Below A base (env :: outer) s.heap → K.In s.heap → Top p loose mean mg mb s.heap →
      wpAny (model prog w) (A.deeper (envOf qual scope L' f cdv)) (execs body (envOf qual scope L' f cdv))
        (fun fl s' => Done R (match fl with | .ret v => v | _ => .none) s')
        (fun e s' => wpAny (model prog w) (A.deeper (envOf qual scope L' f cdv)) (leaving (envOf qual scope L' f cdv) e) (fun _ s'' => R (.error e) s'') (fun e' s'' => R (.error e') s'') s')
        { s with heap := h₁, toks := s.toks + binds.length })
    (hco : scope.isCoroutine = false) (hgen : scope.isGenerator = false) (hk : scope.kind = .function)
    (hcell : ∀ x ∈ scope.names, x.2 ≠ .cell) : codeAny (model prog w) A (.call (.ref f) args) R s := by
  obtain ⟨FG, BG, st, _⟩ := groundX (R := R) (news := []) B F News.nil hA hf hke
  have X := X₀.keeps F.keep
  refine codeAny_call_def (fd := fnX name qual params body scope [] dV kV doc pm an cdv ct) (body := body) (binds := binds) hroom (X _ _ ho) rfl (T.nolimit.keeps F.keep) (codeRec_of X hcd) rfl hbind hcell hloc (fun h₁ hns hk₁ => ?_) hco hgen hk
  exact h s.heap.objs.size h₁ ⟨hns, hk₁, Nat.le_refl _⟩ News.nil BG X (T.keeps F.keep)
end

def Grow (h h' : Heap) : Prop := ∀ b o, h.get? b = some o → h'.get? b = some o
def Dec (h : Heap) (a : Addr) (x e : Int) : Prop := ∃ t u, IsTup h a #[.int x t, .int e u]
theorem Dec.grow {h h' : Heap} {a : Addr} {x e : Int} (d : Dec h a x e) (g : Grow h h') : Dec h' a x e := let ⟨t, u, i⟩ := d; ⟨t, u, i.keeps g⟩
abbrev tup2 (x : Int) (t : Tok) (e : Int) (u : Tok) : Obj := { cls := .type "tuple", data := .seq #[.int x t, .int e u] }
abbrev tup3 (x : Int) (t : Tok) (y : Int) (u : Tok) (e : Int) (v : Tok) : Obj := { cls := .type "tuple", data := .seq #[.int x t, .int y u, .int e v] }

/-- a def called from any frame of the call's: the frame, the room, the top -/
abbrev Calls (w : World) (mean : ExcName → Option Value) (mg mb : Str → Option Value) (f : Addr) (dep : Nat) (vs : List Value) (pre : Heap → Prop) (ret : Heap → (Value → Heap → Prop) → Prop) : Prop :=
  ∀ (dp un : Nat) (gd : Option (List Code)) (cn : Str) (cs : Scope) (a : Addr) (ccd : Value) (cl : List (Str × Addr)) (outer : List Env) (A₀ : Around) (base h₀ : Heap) (L : Addr) (m : Str → Option Value) (s : Shared) (Q E : Value → Shared → Prop),
    Below A₀ base outer h₀ → Fr h₀ L s.heap m → (hd.heap_39 w.params).In h₀ → Top hd.view_39 (looseW hd.view_39 [Str.ofString "BasicError"]) mean mg mb h₀ → cs.kind = .function → dp + dep < recursionLimit → un + 8 * dep < cLine → pre s.heap →
    ret s.heap (fun v h' => ∀ tk', Q v { s with heap := h', toks := tk' }) →
    wpAny (model PySem.Challenge.rw_pq0162_01.row.prog w) (ktrTop dp un gd cn cs L a ccd cl outer) (call (.ref f) vs) Q E s

abbrev RetI (x : Int) (h : Heap) (Q : Value → Heap → Prop) : Prop := ∀ t h', Grow h h' → Q (.int x t) h'
abbrev RetB (x : Bool) (h : Heap) (Q : Value → Heap → Prop) : Prop := ∀ h', Grow h h' → Q (.bool x) h'
abbrev RetF (x e : Int) (h : Heap) (Q : Value → Heap → Prop) : Prop := ∀ D t u h', Grow h h' → h.get? D = none → h'.get? D = some (tup2 x t e u) → Q (.ref D) h'
abbrev RetF3 (x y e : Int) (h : Heap) (Q : Value → Heap → Prop) : Prop := ∀ D t u v h', Grow h h' → h.get? D = none → h'.get? D = some (tup3 x t y u e v) → Q (.ref D) h'
abbrev RetA (x e : Int) (h : Heap) (Q : Value → Heap → Prop) : Prop := ∀ D h', Grow h h' → Dec h' D x e → Q (.ref D) h'

section
variable {R : Result → Shared → Prop} {g h' : Heap} {L D : Addr} {m : Str → Option Value} {news : List (Addr × Obj)} {s : Shared} {Q : Value → Shared → Prop} {t u v : Tok} {tk' : Nat}
theorem done_I {x y : Int} (ret : RetI x g (fun v h' => ∀ tk', Q v { s with heap := h', toks := tk' })) (F : Fr g L h' m) (e : y = x) : Q (.int y t) { s with heap := h', toks := tk' } := by
  subst e; exact ret t h' F.keep tk'
theorem done_B {x y : Bool} (ret : RetB x g (fun v h' => ∀ tk', Q v { s with heap := h', toks := tk' })) (F : Fr g L h' m) (e : y = x) : Q (.bool y) { s with heap := h', toks := tk' } := by
  subst e; exact ret h' F.keep tk'
theorem done_F {x y x' y' : Int} (ret : RetF x y g (fun v h' => ∀ tk', Q v { s with heap := h', toks := tk' })) (F : Fr g L h' m) (N : News g L h' news) (hm : (D, tup2 x' t y' u) ∈ news) (e : x' = x) (e' : y' = y) : Q (.ref D) { s with heap := h', toks := tk' } := by
  subst e; subst e'; exact ret D t u h' F.keep (N _ hm).2.2 (N _ hm).1 tk'
theorem done_F3 {x y z x' y' z' : Int} (ret : RetF3 x y z g (fun v h' => ∀ tk', Q v { s with heap := h', toks := tk' })) (F : Fr g L h' m) (N : News g L h' news) (hm : (D, tup3 x' t y' u z' v) ∈ news) (e : x' = x) (e' : y' = y) (e'' : z' = z) : Q (.ref D) { s with heap := h', toks := tk' } := by
  subst e; subst e'; subst e''; exact ret D t u v h' F.keep (N _ hm).2.2 (N _ hm).1 tk'
theorem done_A {x y : Int} (ret : RetA x y g (fun v h' => ∀ tk', Q v { s with heap := h', toks := tk' })) (F : Fr g L h' m) (d : Dec h' D x y) : Q (.ref D) { s with heap := h', toks := tk' } := ret D h' F.keep d tk'
theorem news_fresh {h : Heap} {o : Obj} (F : Fr g L h m) (N : News g L h news) (hg : Grow h h') (hn : h.get? D = none) (ho : h'.get? D = some o) : News g L h' ((D, o) :: news) := by
  intro p hp
  rcases List.mem_cons.mp hp with rfl | hp
  · refine ⟨ho, ?_, ?_⟩
    · rintro rfl
      obtain ⟨oL, _, _, hL, _⟩ := F.ns
      rw [hL] at hn; cases hn
    · cases q : g.get? D with
      | none => rfl
      | some o' => have := F.keep _ _ q; rw [hn] at this; cases this
  · exact ⟨hg _ _ (N p hp).1, (N p hp).2⟩
theorem news_ne {h : Heap} (N : News g L h news) (hn : h.get? D = none) : ∀ p ∈ news, p.1 ≠ D := fun p hp e => by
  have := (N p hp).1; rw [e, hn] at this; cases this
end
end
noncomputable section
section
variable {w : World} {mean : ExcName → Option Value} {mg mb : Str → Option Value} {f : Addr} {dep : Nat} {vs : List Value} {pre : Heap → Prop}
  {dp un : Nat} {gd : Option (List Code)} {cn : Str} {cs : Scope} {a : Addr} {ccd : Value} {cl : List (Str × Addr)} {outer : List Env} {A₀ : Around} {base h₀ : Heap} {L : Addr} {m : Str → Option Value} {s : Shared} {Q E : Value → Shared → Prop} {news : List (Addr × Obj)}

/-- a new address is none of the ledger's -/
def NeAll (D : Addr) (news : List (Addr × Obj)) : Prop := ∀ p ∈ news, @Ne Nat p.1 D
theorem ne_all {D a : Addr} {o : Obj} {news : List (Addr × Obj)} (h : NeAll D news) (hm : (a, o) ∈ news) : @Ne Nat a D := h _ hm
theorem ne_all' {D a : Addr} {o : Obj} {news : List (Addr × Obj)} (h : NeAll D news) (hm : (a, o) ∈ news) : @Ne Nat D a := fun e => h _ hm e.symm
theorem use_I {x : Int} (C : Calls w mean mg mb f dep vs pre (RetI x)) (B : Below A₀ base outer h₀) (F : Fr h₀ L s.heap m) (X : (hd.heap_39 w.params).In h₀) (N : News h₀ L s.heap news)
    (T : Top hd.view_39 (looseW hd.view_39 [Str.ofString "BasicError"]) mean mg mb h₀) (hk : cs.kind = .function) (hd : dp + dep < recursionLimit) (hu : un + 8 * dep < cLine) (hp : pre s.heap)
    (ret : ∀ t h' tk', Fr h₀ L h' m → News h₀ L h' news → Q (.int x t) { s with heap := h', toks := tk' }) :
    wpAny (model PySem.Challenge.rw_pq0162_01.row.prog w) (ktrTop dp un gd cn cs L a ccd cl outer) (call (.ref f) vs) Q E s :=
  C _ _ _ _ _ _ _ _ _ _ _ _ _ _ _ _ _ B F X T hk hd hu hp fun t h' g tk' => ret t h' tk' (F.grownK g) (N.grown g)
theorem use_B {x : Bool} (C : Calls w mean mg mb f dep vs pre (RetB x)) (B : Below A₀ base outer h₀) (F : Fr h₀ L s.heap m) (X : (hd.heap_39 w.params).In h₀) (N : News h₀ L s.heap news)
    (T : Top hd.view_39 (looseW hd.view_39 [Str.ofString "BasicError"]) mean mg mb h₀) (hk : cs.kind = .function) (hd : dp + dep < recursionLimit) (hu : un + 8 * dep < cLine) (hp : pre s.heap)
    (ret : ∀ h' tk', Fr h₀ L h' m → News h₀ L h' news → Q (.bool x) { s with heap := h', toks := tk' }) :
    wpAny (model PySem.Challenge.rw_pq0162_01.row.prog w) (ktrTop dp un gd cn cs L a ccd cl outer) (call (.ref f) vs) Q E s :=
  C _ _ _ _ _ _ _ _ _ _ _ _ _ _ _ _ _ B F X T hk hd hu hp fun h' g tk' => ret h' tk' (F.grownK g) (N.grown g)
theorem use_F {x e : Int} (C : Calls w mean mg mb f dep vs pre (RetF x e)) (B : Below A₀ base outer h₀) (F : Fr h₀ L s.heap m) (X : (hd.heap_39 w.params).In h₀) (N : News h₀ L s.heap news)
    (T : Top hd.view_39 (looseW hd.view_39 [Str.ofString "BasicError"]) mean mg mb h₀) (hk : cs.kind = .function) (hd : dp + dep < recursionLimit) (hu : un + 8 * dep < cLine) (hp : pre s.heap)
    (ret : ∀ D t u h' tk', Fr h₀ L h' m → News h₀ L h' ((D, tup2 x t e u) :: news) → NeAll D news → Q (.ref D) { s with heap := h', toks := tk' }) :
    wpAny (model PySem.Challenge.rw_pq0162_01.row.prog w) (ktrTop dp un gd cn cs L a ccd cl outer) (call (.ref f) vs) Q E s :=
  C _ _ _ _ _ _ _ _ _ _ _ _ _ _ _ _ _ B F X T hk hd hu hp fun D t u h' g hn ho tk' => ret D t u h' tk' (F.grownK g) (news_fresh F N g hn ho) (news_ne N hn)
theorem use_F3 {x y e : Int} (C : Calls w mean mg mb f dep vs pre (RetF3 x y e)) (B : Below A₀ base outer h₀) (F : Fr h₀ L s.heap m) (X : (hd.heap_39 w.params).In h₀) (N : News h₀ L s.heap news)
    (T : Top hd.view_39 (looseW hd.view_39 [Str.ofString "BasicError"]) mean mg mb h₀) (hk : cs.kind = .function) (hd : dp + dep < recursionLimit) (hu : un + 8 * dep < cLine) (hp : pre s.heap)
    (ret : ∀ D t u v h' tk', Fr h₀ L h' m → News h₀ L h' ((D, tup3 x t y u e v) :: news) → NeAll D news → Q (.ref D) { s with heap := h', toks := tk' }) :
    wpAny (model PySem.Challenge.rw_pq0162_01.row.prog w) (ktrTop dp un gd cn cs L a ccd cl outer) (call (.ref f) vs) Q E s :=
  C _ _ _ _ _ _ _ _ _ _ _ _ _ _ _ _ _ B F X T hk hd hu hp fun D t u v h' g hn ho tk' => ret D t u v h' tk' (F.grownK g) (news_fresh F N g hn ho) (news_ne N hn)
end

theorem dec_news {g h : Heap} {L D : Addr} {news : List (Addr × Obj)} {x e : Int} {t u : Tok} (N : News g L h news) (hm : (D, tup2 x t e u) ∈ news) : Dec h D x e := ⟨t, u, N.isTup hm⟩
theorem dec_base {g h : Heap} {L D : Addr} {m : Str → Option Value} {x e : Int} (F : Fr g L h m) (d : Dec g D x e) : Dec h D x e := d.grow F.keep

noncomputable def figsN (n : Nat) : Nat := if n < 10 then 1 else figsN (n / 10) + 1
def figs (n : Int) : Int := (figsN n.toNat : Int)

def rb (n p : Int) : Int :=
  if p ≤ 0 then n else if p > figs n + 1 then 0 else
    if 2 * n.fmod (10 ^ p.toNat) > 10 ^ p.toNat ∨ (2 * n.fmod (10 ^ p.toNat) = 10 ^ p.toNat ∧ (n.fdiv (10 ^ p.toNat)).fmod 2 = 1) then n.fdiv (10 ^ p.toNat) + 1 else n.fdiv (10 ^ p.toNat)

theorem figsN_pos (n : Nat) : 1 ≤ figsN n := by unfold figsN; split <;> lia
theorem figsN_spec (n : Nat) : n < 10 ^ figsN n ∧ (figsN n = 1 ∨ 10 ^ (figsN n - 1) ≤ n) := by
  induction n using Nat.strongRecOn with
  | ind n ih =>
    unfold figsN
    split
    · exact ⟨by simpa using ‹n < 10›, .inl rfl⟩
    · have h := ih (n / 10) (by lia)
      have hp := figsN_pos (n / 10)
      refine ⟨?_, .inr ?_⟩
      · rw [Nat.pow_succ]; have := h.1; lia
      · rw [Nat.add_sub_cancel]
        rcases h.2 with h2 | h2
        · rw [h2]; lia
        · have e : figsN (n / 10) = figsN (n / 10) - 1 + 1 := by lia
          rw [e, Nat.pow_succ]; lia
theorem figsN_unique {n k : Nat} (h0 : 1 ≤ k) (h1 : n < 10 ^ k) (h2 : k = 1 ∨ 10 ^ (k - 1) ≤ n) : figsN n = k := by
  have s := figsN_spec n
  have p := figsN_pos n
  rcases Nat.lt_trichotomy (figsN n) k with h | h | h
  · exfalso
    have h2' : 10 ^ (k - 1) ≤ n := h2.resolve_left (by lia)
    have : 10 ^ figsN n ≤ 10 ^ (k - 1) := Nat.pow_le_pow_right (by decide) (by lia)
    lia
  · exact h
  · exfalso
    have h2' : 10 ^ (figsN n - 1) ≤ n := s.2.resolve_left (by lia)
    have : 10 ^ k ≤ 10 ^ (figsN n - 1) := Nat.pow_le_pow_right (by decide) (by lia)
    lia
theorem figs_pos (n : Int) : 1 ≤ figs n := by have := figsN_pos n.toNat; unfold figs; lia

/-- what stands between the turns of figures_of -/
def FigInv (n many bound : Int) : Prop := 1 ≤ many ∧ bound = 10 ^ many.toNat ∧ (many = 1 ∨ 10 ^ (many.toNat - 1) ≤ n)
theorem figInv0 {n : Int} : FigInv n 1 10 := ⟨by lia, by decide, .inl rfl⟩
theorem figInv1 {n many bound : Int} (h : FigInv n many bound) (hb : bound ≤ n) : FigInv n (many + 1) (bound * 10) := by
  obtain ⟨h1, h2, h3⟩ := h
  have e : (many + 1).toNat = many.toNat + 1 := by lia
  refine ⟨by lia, ?_, .inr ?_⟩
  · rw [e, Int.pow_succ, h2]
  · rw [e, Nat.add_sub_cancel, ← h2]; exact hb
theorem figInv_pos {n many bound : Int} (h : FigInv n many bound) : 0 < bound := by
  rw [h.2.1]; exact Int.pow_pos (by decide)
theorem pow_cast (k : Nat) : ((10 : Int) ^ k) = ((10 ^ k : Nat) : Int) := by
  rw [Int.natCast_pow]; rfl
theorem figInv_end {n many bound : Int} (h : FigInv n many bound) (hb : ¬ bound ≤ n) : many = figs n := by
  obtain ⟨h1, h2, h3⟩ := h
  rw [pow_cast] at h2
  have hp : 0 < 10 ^ many.toNat := Nat.pow_pos (by decide)
  have := figsN_unique (n := n.toNat) (k := many.toNat) (by omega) (by omega) (by
    rcases h3 with h3 | h3
    · exact .inl (by omega)
    · rw [pow_cast] at h3; exact .inr (by omega))
  unfold figs; omega

theorem pow10_pos (k : Nat) : (0 : Int) < 10 ^ k := Int.pow_pos (by decide)
theorem pow10_ne (k : Nat) : (10 : Int) ^ k ≠ 0 := Int.ne_of_gt (pow10_pos k)
theorem py_of {y : Int} {k : Nat} (hk : k ≤ 2000) (h : y.natAbs ≤ 10 ^ k) : y.natAbs.log2 < 9000 := by
  by_cases h0 : y.natAbs = 0
  · rw [h0]; decide
  · rw [Nat.log2_lt h0]
    have h1 : (10 : Nat) ^ k ≤ 16 ^ k := Nat.pow_le_pow_left (by decide) k
    have h2 : (16 : Nat) ^ k = 2 ^ (4 * k) := by rw [Nat.pow_mul]
    have h3 : (2 : Nat) ^ (4 * k) < 2 ^ 9000 := Nat.pow_lt_pow_right (by decide) (by lia)
    lia
theorem py_pow {p : Int} (h : p ≤ 2000) : ((10 : Int) ^ p.toNat).natAbs.log2 < 9000 := py_of (k := p.toNat) (by lia) (by rw [pow_cast, Int.natAbs_natCast]; exact Nat.le_refl _)
end
noncomputable section
abbrev absI (c : Int) : Int := if c < 0 then -c else c
noncomputable def stripN (n : Nat) : Nat × Nat := if n = 0 then (0, 0) else if n % 10 = 0 then ((stripN (n / 10)).1, (stripN (n / 10)).2 + 1) else (n, 0)
def stripS (s : Int) : Int := ((stripN s.toNat).1 : Int)
def stripE (s e : Int) : Int := e + ((stripN s.toNat).2 : Int)
def mkS (c d : Int) : Int := if figs (absI c) - d > 0 then rb (absI c) (figs (absI c) - d) else absI c
def mkP (c e d : Int) : Int := if figs (absI c) - d > 0 then e + (figs (absI c) - d) else e
def mkX (c d : Int) : Int := if mkS c d = 0 then 0 else if c < 0 then -stripS (mkS c d) else stripS (mkS c d)
def mkE (c e d : Int) : Int := if mkS c d = 0 then 0 else stripE (mkS c d) (mkP c e d)

theorem fdiv_pos (a : Int) {b : Int} (hb : 0 < b) : a.fdiv b = a / b := Int.fdiv_eq_ediv_of_nonneg _ (by lia)
theorem fmod_pos (a : Int) {b : Int} (hb : 0 < b) : a.fmod b = a % b := Int.fmod_eq_emod_of_nonneg _ (by lia)
theorem strip_step {s : Int} (h0 : 0 < s) (h : s % 10 = 0) : stripS (s / 10) = stripS s ∧ ∀ e, stripE (s / 10) (e + 1) = stripE s e := by
  have e1 : (s / 10).toNat = s.toNat / 10 := by lia
  have e2 : stripN s.toNat = ((stripN (s.toNat / 10)).1, (stripN (s.toNat / 10)).2 + 1) := by
    rw [stripN, if_neg (by lia), if_pos (by lia)]
  unfold stripS stripE
  rw [e1, e2]
  refine ⟨rfl, fun e => ?_⟩
  show e + 1 + ((stripN (s.toNat / 10)).2 : Int) = e + (((stripN (s.toNat / 10)).2 + 1 : Nat) : Int)
  lia
theorem strip_end {s : Int} (h0 : 0 < s) (h : ¬ s % 10 = 0) : stripS s = s ∧ ∀ e, stripE s e = e := by
  have e2 : stripN s.toNat = (s.toNat, 0) := by rw [stripN, if_neg (by lia), if_neg (by lia)]
  unfold stripS stripE
  rw [e2]
  refine ⟨?_, fun e => ?_⟩
  · show ((s.toNat : Nat) : Int) = s
    lia
  · show e + ((0 : Nat) : Int) = e
    lia
theorem figs_step {s : Int} (h : 10 ≤ s) : figs (s / 10) + 1 = figs s := by
  have e1 : (s / 10).toNat = s.toNat / 10 := by lia
  unfold figs
  rw [e1]
  have : figsN s.toNat = figsN (s.toNat / 10) + 1 := by rw [figsN, if_neg (by lia)]
  lia
theorem figs_le {n : Int} {k : Nat} (hk : 1 ≤ k) (h : n < 10 ^ k) : figs n ≤ k := by
  have s := figsN_spec n.toNat
  unfold figs
  rcases s.2 with s2 | s2
  · omega
  · by_cases q : figsN n.toNat ≤ k
    · omega
    · exfalso
      have : 10 ^ k ≤ 10 ^ (figsN n.toNat - 1) := Nat.pow_le_pow_right (by decide) (by omega)
      have hq : 0 < 10 ^ k := Nat.pow_pos (by decide)
      rw [pow_cast] at h
      omega
theorem figs_lt {n : Int} (h : 0 ≤ n) : n < 10 ^ (figs n).toNat := by
  have s := (figsN_spec n.toNat).1
  unfold figs
  rw [pow_cast]
  have : ((figsN n.toNat : Int)).toNat = figsN n.toNat := by lia
  rw [this]
  lia
theorem rb_le {n p : Int} (h0 : 0 ≤ n) (hp : 0 < p) : rb n p ≤ n / 10 ^ p.toNat + 1 ∧ 0 ≤ rb n p := by
  have hq := pow10_pos p.toNat
  have hd : 0 ≤ n / 10 ^ p.toNat := Int.ediv_nonneg h0 (by lia)
  unfold rb
  rw [if_neg (by lia), fdiv_pos _ hq]
  (repeat' split) <;> lia
theorem figs_rb {n d : Int} (h0 : 0 ≤ n) (hd : 1 ≤ d) (hp : 0 < figs n - d) : figs (rb n (figs n - d)) ≤ d + 1 := by
  have hr := rb_le h0 hp
  have hl := figs_lt h0
  have e : (figs n).toNat = d.toNat + (figs n - d).toNat := by lia
  rw [e, Int.pow_add] at hl
  have hq := pow10_pos (figs n - d).toNat
  have : n / 10 ^ (figs n - d).toNat < 10 ^ d.toNat := Int.ediv_lt_of_lt_mul hq hl
  have h2 := figs_le (n := rb n (figs n - d)) (k := d.toNat + 1) (by lia) (by
    rw [Int.pow_succ]
    have := pow10_pos d.toNat
    lia)
  lia

/-- between the turns of made's loop -/
def StripInv (s0 e0 s e : Int) : Prop := 0 < s ∧ stripS s = stripS s0 ∧ stripE s e = stripE s0 e0
theorem strip_start {s e : Int} (h : 0 < s) (h1 : -90 ≤ e + figs s) (h2 : e + figs s ≤ 90) : StripInv s e s e ∧ -90 ≤ e + figs s ∧ e + figs s ≤ 90 := ⟨⟨h, rfl, rfl⟩, h1, h2⟩
theorem strip_turn {s0 e0 s e : Int} (h : StripInv s0 e0 s e) (h4 : -90 ≤ e + figs s) (h5 : e + figs s ≤ 90) (hm : s.fmod 10 = 0) :
    StripInv s0 e0 (s.fdiv 10) (e + 1) ∧ -90 ≤ e + 1 + figs (s.fdiv 10) ∧ e + 1 + figs (s.fdiv 10) ≤ 90 := by
  obtain ⟨h1, h2, h3⟩ := h
  rw [fmod_pos _ (by decide)] at hm
  rw [fdiv_pos _ (by decide)]
  have q := strip_step h1 hm
  have f := figs_step (s := s) (by lia)
  exact ⟨⟨by lia, q.1.trans h2, (q.2 e).trans h3⟩, by lia, by lia⟩
theorem strip_less {s0 e0 s e : Int} (h : StripInv s0 e0 s e) : (s.fdiv 10).toNat < s.toNat := by
  have := h.1
  rw [fdiv_pos _ (by decide)]; lia
theorem strip_out {s0 e0 s e : Int} (h : StripInv s0 e0 s e) (hm : s.fmod 10 ≠ 0) : s = stripS s0 ∧ e = stripE s0 e0 := by
  rw [fmod_pos _ (by decide)] at hm
  obtain ⟨h1, h2, h3⟩ := h
  have q := strip_end h1 hm
  exact ⟨q.1.symm.trans h2, (q.2 e).symm.trans h3⟩
/-- made's room -/
def Room (c e d : Int) : Prop := figs (absI c) ≤ 50 ∧ -40 ≤ e ∧ e ≤ 30 ∧ 1 ≤ d
theorem absI_nonneg (c : Int) : 0 ≤ absI c := by unfold absI; split <;> lia
theorem made_startA {c e d : Int} (r : Room c e d) (h : 0 < figs (absI c) - d) (h0 : ¬ rb (absI c) (figs (absI c) - d) = 0) :
    StripInv (rb (absI c) (figs (absI c) - d)) (e + (figs (absI c) - d)) (rb (absI c) (figs (absI c) - d)) (e + (figs (absI c) - d)) ∧
      -90 ≤ e + (figs (absI c) - d) + figs (rb (absI c) (figs (absI c) - d)) ∧ e + (figs (absI c) - d) + figs (rb (absI c) (figs (absI c) - d)) ≤ 90 := by
  obtain ⟨r1, r2, r3, r4⟩ := r
  have q := (rb_le (absI_nonneg c) h).2
  have f := figs_rb (absI_nonneg c) r4 h
  have g := figs_pos (rb (absI c) (figs (absI c) - d))
  exact strip_start (by lia) (by lia) (by lia)
theorem made_startB {c e d : Int} (r : Room c e d) (h0 : ¬ absI c = 0) :
    StripInv (absI c) e (absI c) e ∧ -90 ≤ e + figs (absI c) ∧ e + figs (absI c) ≤ 90 := by
  obtain ⟨r1, r2, r3, r4⟩ := r
  have g := figs_pos (absI c)
  have n := absI_nonneg c
  exact strip_start (by lia) (by lia) (by lia)

section
variable {c e d s0 e0 s' e' : Int}
theorem mkS_A (h : 0 < figs (absI c) - d) : mkS c d = rb (absI c) (figs (absI c) - d) := by unfold mkS; rw [if_pos h]
theorem mkS_B (h : ¬ 0 < figs (absI c) - d) : mkS c d = absI c := by unfold mkS; rw [if_neg h]
theorem mkP_A (h : 0 < figs (absI c) - d) : mkP c e d = e + (figs (absI c) - d) := by unfold mkP; rw [if_pos h]
theorem mkP_B (h : ¬ 0 < figs (absI c) - d) : mkP c e d = e := by unfold mkP; rw [if_neg h]
theorem mkX_z (hS : mkS c d = s0) (h0 : s0 = 0) : 0 = mkX c d := by unfold mkX; rw [if_pos (hS.trans h0)]
theorem mkE_z (hS : mkS c d = s0) (h0 : s0 = 0) : 0 = mkE c e d := by unfold mkE; rw [if_pos (hS.trans h0)]
theorem mkX_n (hS : mkS c d = s0) (h0 : s0 ≠ 0) (hc : c < 0) (S : StripInv s0 e0 s' e') (hm : s'.fmod 10 ≠ 0) : -s' = mkX c d := by
  unfold mkX; rw [hS, if_neg h0, if_pos hc, (strip_out S hm).1]
theorem mkX_p (hS : mkS c d = s0) (h0 : s0 ≠ 0) (hc : ¬ c < 0) (S : StripInv s0 e0 s' e') (hm : s'.fmod 10 ≠ 0) : s' = mkX c d := by
  unfold mkX; rw [hS, if_neg h0, if_neg hc, (strip_out S hm).1]
theorem mkE_p (hS : mkS c d = s0) (hP : mkP c e d = e0) (h0 : s0 ≠ 0) (S : StripInv s0 e0 s' e') (hm : s'.fmod 10 ≠ 0) : e' = mkE c e d := by
  unfold mkE; rw [hS, hP, if_neg h0, (strip_out S hm).2]
end
end
noncomputable section
abbrev mn (e f : Int) : Int := if f < e then f else e
abbrev sh (x e l : Int) : Int := x * 10 ^ (e - l).toNat
/-- the numbers of a decimal of the call's are small -/
def Sm (x e : Int) : Prop := -1000000000000000 ≤ x ∧ x ≤ 1000000000000000 ∧ -100 ≤ e ∧ e ≤ 100
theorem mn_le (e f : Int) : mn e f ≤ e ∧ mn e f ≤ f ∧ (mn e f = e ∨ mn e f = f) := by
  unfold mn; split <;> omega
theorem Sm.neg {x e : Int} (h : Sm x e) : Sm (0 - x) e := by
  unfold Sm at *; omega
def wrW (q r : Int) : Int := if r = 0 then q else q * 10 + 1
def wrE (r e : Int) : Int := if r = 0 then e else e - 1
def cmp (x y : Int) : Int := (if x > y then 1 else 0) - (if x < y then 1 else 0)
theorem cmp_b2i (x y : Int) : b2i (decide (y < x)) - b2i (decide (x < y)) = cmp x y := by
  unfold cmp b2i
  by_cases h : x > y <;> by_cases h2 : x < y <;> simp_all
theorem sm_lit {x e : Int} (h1 : -1000000000000000 ≤ x) (h2 : x ≤ 1000000000000000) (h3 : -100 ≤ e) (h4 : e ≤ 100) : Sm x e := ⟨h1, h2, h3, h4⟩
end
noncomputable section
abbrev mx0 (t : Int) : Int := if t > 0 then t else 0
/-- d_div -/
abbrev dvP (x1 x2 d : Int) : Int := d + 2 + mx0 (figs (absI x2) - figs (absI x1))
abbrev dvS (x1 x2 d : Int) : Int := absI x1 * 10 ^ (dvP x1 x2 d).toNat
abbrev dvW (x1 x2 d : Int) : Int := wrW ((dvS x1 x2 d).fdiv (absI x2)) ((dvS x1 x2 d).fmod (absI x2))
abbrev dvE (x1 e1 x2 e2 d : Int) : Int := wrE ((dvS x1 x2 d).fmod (absI x2)) (e1 - e2 - dvP x1 x2 d)
abbrev dvC (x1 x2 d : Int) : Int := if decide (x1 < 0) = decide (x2 < 0) then dvW x1 x2 d else 0 - dvW x1 x2 d

theorem figs_abs {x : Int} {e : Int} (h : Sm x e) : figs (absI x) ≤ 16 := by
  have := figs_le (n := absI x) (k := 16) (by decide) (by
    obtain ⟨h1, h2, _⟩ := h
    unfold absI
    split <;> omega)
  omega

/-- floor_of, d_whole -/
def flo (x e : Int) : Int := if e ≥ 0 then x * 10 ^ e.toNat else x.fdiv (10 ^ (0 - e).toNat)
def whX (x e d : Int) : Int := if e < 0 then mkX (flo x e) d else x
def whE (x e d : Int) : Int := if e < 0 then mkE (flo x e) 0 d else e

/-- d_round -/
def half (n u : Int) : Int := if 2 * n.fmod u > u ∨ (2 * n.fmod u = u ∧ (n.fdiv u).fmod 2 = 1) then n.fdiv u + 1 else n.fdiv u
abbrev rdM (x more : Int) : Int := mn more (figs (absI x) + 1)
abbrev rdF (x more : Int) : Int := half (absI x) (10 ^ (rdM x more).toNat)
abbrev rdC (x more : Int) : Int := if x > 0 then rdF x more else 0 - rdF x more
def rdX (x e p d : Int) : Int := if 0 - p - e ≤ 0 ∨ x = 0 then x else if rdF x (0 - p - e) = 0 then 0 else mkX (rdC x (0 - p - e)) d
def rdE (x e p d : Int) : Int := if 0 - p - e ≤ 0 ∨ x = 0 then e else if rdF x (0 - p - e) = 0 then 0 else mkE (rdC x (0 - p - e)) (e + (0 - p - e)) d

/-- the whole root -/
noncomputable def isqN : Nat → Nat
  | 0 => 0
  | n + 1 => if (isqN n + 1) * (isqN n + 1) ≤ n + 1 then isqN n + 1 else isqN n
def isq (n : Int) : Int := (isqN n.toNat : Int)
theorem isqN_spec (n : Nat) : isqN n * isqN n ≤ n ∧ n < (isqN n + 1) * (isqN n + 1) := by
  induction n with
  | zero => exact ⟨Nat.le_refl _, by decide⟩
  | succ n ih =>
    unfold isqN
    split
    · rename_i h
      refine ⟨h, ?_⟩
      have e : (isqN n + 1 + 1) * (isqN n + 1 + 1) = (isqN n + 1) * (isqN n + 1) + 2 * (isqN n + 1) + 1 := by
        rw [Nat.add_mul, Nat.mul_add]; lia
      lia
    · rename_i h
      exact ⟨Nat.le_succ_of_le ih.1, by lia⟩
theorem isqN_unique {n r : Nat} (h1 : r * r ≤ n) (h2 : n < (r + 1) * (r + 1)) : isqN n = r := by
  have s := isqN_spec n
  rcases Nat.lt_trichotomy (isqN n) r with h | h | h
  · exfalso
    have : (isqN n + 1) * (isqN n + 1) ≤ r * r := Nat.mul_le_mul h h
    omega
  · exact h
  · exfalso
    have : (r + 1) * (r + 1) ≤ isqN n * isqN n := Nat.mul_le_mul h h
    omega
/-- between the turns of root_of's loop -/
def RootInv (n g : Int) : Prop := 2 ≤ n ∧ 0 < g ∧ g ≤ 10 ^ 60 ∧ n < (g + 1) * (g + 1)
theorem root_later {n g : Int} (h : RootInv n g) : n < ((g + n / g) / 2 + 1) * ((g + n / g) / 2 + 1) := by
  obtain ⟨h1, h2, h3, h4⟩ := h
  have hq0 : 0 ≤ n / g := Int.ediv_nonneg (by lia) (by lia)
  have hm := Int.mul_ediv_add_emod n g
  have hr := Int.emod_lt_of_pos n h2
  have hr0 := Int.emod_nonneg n (by lia : g ≠ 0)
  generalize n / g = q at *
  generalize n % g = r at *
  generalize hl : (g + q) / 2 = l
  have e1 : g + q ≤ 2 * l + 1 := by lia
  -- n < g * q + g ≤ (l + 1)^2 : 4 g (q + 1) ≤ (g + q + 1)^2 ≤ (2 l + 2)^2
  have e2 : n < g * (q + 1) := by rw [Int.mul_add]; lia
  have e0 : ∃ q1, q1 = q + 1 := ⟨_, rfl⟩
  obtain ⟨q1, hq1⟩ := e0
  rw [← hq1] at e2
  have e1' : g + q1 ≤ 2 * l + 2 := by lia
  have sq : 0 ≤ (g - q1) * (g - q1) := by
    rcases Int.le_total 0 (g - q1) with h | h
    · exact Int.mul_nonneg h h
    · exact Int.mul_nonneg_of_nonpos_of_nonpos h h
  have e3 : 4 * (g * q1) ≤ (g + q1) * (g + q1) := by
    have x1 : (g - q1) * (g - q1) = g * g - 2 * (g * q1) + q1 * q1 := by
      rw [Int.sub_mul, Int.mul_sub, Int.mul_sub, Int.mul_comm q1 g]; lia
    have x2 : (g + q1) * (g + q1) = g * g + 2 * (g * q1) + q1 * q1 := by
      rw [Int.add_mul, Int.mul_add, Int.mul_add, Int.mul_comm q1 g]; lia
    lia
  have e4 : (g + q1) * (g + q1) ≤ (2 * l + 2) * (2 * l + 2) := Int.mul_le_mul (by lia) (by lia) (by lia) (by lia)
  have e5 : (2 * l + 2) * (2 * l + 2) = 4 * ((l + 1) * (l + 1)) := by
    have : 2 * l + 2 = 2 * (l + 1) := by lia
    rw [this, Int.mul_assoc, Int.mul_left_comm (l + 1) 2, ← Int.mul_assoc]
    lia
  lia
theorem root_turn {n g : Int} (h : RootInv n g) (hl : ¬ g ≤ (g + n.fdiv g).fdiv 2) : RootInv n ((g + n.fdiv g).fdiv 2) := by
  have k := root_later h
  obtain ⟨h1, h2, h3, h4⟩ := h
  rw [fdiv_pos _ h2, fdiv_pos _ (by decide)] at *
  have hq0 : 0 ≤ n / g := Int.ediv_nonneg (by lia) (by lia)
  refine ⟨h1, ?_, by lia, k⟩
  -- were it nought, n < 1
  generalize hl' : (g + n / g) / 2 = l at *
  have : 0 ≤ l := by lia
  by_cases h0 : l = 0
  · rw [h0] at k; lia
  · lia
theorem root_less {n g : Int} (h : RootInv n g) (hl : ¬ g ≤ (g + n.fdiv g).fdiv 2) : ((g + n.fdiv g).fdiv 2).toNat < g.toNat := by
  have := h.2.1; omega
theorem root_out {n g : Int} (h : RootInv n g) (hl : g ≤ (g + n.fdiv g).fdiv 2) : g = isq n := by
  obtain ⟨h1, h2, h3, h4⟩ := h
  rw [fdiv_pos _ h2, fdiv_pos _ (by decide)] at hl
  have hg : g ≤ n / g := by lia
  have hg2 : g * g ≤ n := by
    have := Int.mul_le_of_le_ediv h2 hg
    exact this
  have e1 : ((g.toNat : Nat) : Int) = g := by lia
  have e2 : ((n.toNat : Nat) : Int) = n := by lia
  have q := isqN_unique (n := n.toNat) (r := g.toNat) (by
    rw [← Int.ofNat_le, Int.natCast_mul, e1, e2]; exact hg2) (by
    rw [← Int.ofNat_lt, Int.natCast_mul, Int.natCast_add, e1, e2]; exact h4)
  unfold isq; lia
theorem isq_small {n : Int} (h0 : 0 ≤ n) (h : n < 2) : n = isq n := by
  by_cases h1 : n = 1
  · rw [h1]; rfl
  · have : n = 0 := by lia
    rw [this]; rfl
theorem root_start {n : Int} (h : ¬ n < 2) (hf : figs n ≤ 60) : RootInv n (10 ^ (((figs n).fdiv 2) + 1).toNat) := by
  have p := figs_pos n
  rw [fdiv_pos _ (by decide)]
  have hl := figs_lt (n := n) (by lia)
  have hp := pow10_pos (figs n / 2 + 1).toNat
  refine ⟨by lia, hp, ?_, ?_⟩
  · rw [pow_cast, pow_cast]
    have : (10 : Nat) ^ (figs n / 2 + 1).toNat ≤ 10 ^ 60 := Nat.pow_le_pow_right (by decide) (by lia)
    lia
  · have h1 : (10 : Int) ^ (figs n).toNat ≤ 10 ^ ((figs n / 2 + 1).toNat + (figs n / 2 + 1).toNat) := by
      rw [pow_cast, pow_cast]
      have : (10 : Nat) ^ (figs n).toNat ≤ 10 ^ ((figs n / 2 + 1).toNat + (figs n / 2 + 1).toNat) := Nat.pow_le_pow_right (by decide) (by lia)
      lia
    rw [Int.pow_add] at h1
    generalize (10 : Int) ^ (figs n / 2 + 1).toNat = g at *
    have : (g + 1) * (g + 1) = g * g + 2 * g + 1 := by rw [Int.add_mul, Int.mul_add]; lia
    lia
/-- d_root -/
abbrev rtP (e d : Int) : Int := if (e - (2 * d + 4)).fmod 2 ≠ 0 then 2 * d + 4 + 1 else 2 * d + 4
abbrev rtS (x P : Int) : Int := x * 10 ^ P.toNat
abbrev rtW (x P : Int) : Int := wrW (isq (rtS x P)) (rtS x P - isq (rtS x P) * isq (rtS x P))
abbrev rtE (x e P : Int) : Int := wrE (rtS x P - isq (rtS x P) * isq (rtS x P)) ((e - P).fdiv 2)
theorem isq_le {n k : Int} (h0 : 0 ≤ k) (h : n < k * k) : 0 ≤ isq n ∧ isq n ≤ k := by
  have s := (isqN_spec n.toNat).1
  have e1 : ((k.toNat : Nat) : Int) = k := by lia
  refine ⟨by unfold isq; lia, ?_⟩
  rcases Nat.lt_or_ge k.toNat (isqN n.toNat) with hk | hk
  · exfalso
    have q : (k.toNat + 1) * (k.toNat + 1) ≤ isqN n.toNat * isqN n.toNat := Nat.mul_le_mul (by lia) (by lia)
    have : ((k.toNat * k.toNat : Nat) : Int) = k * k := by rw [Int.natCast_mul, e1]
    have e3 : (k.toNat + 1) * (k.toNat + 1) = k.toNat * k.toNat + 2 * k.toNat + 1 := by rw [Nat.add_mul, Nat.mul_add]; lia
    lia
  · unfold isq; lia

theorem rt_bd {x P : Int} (h0 : 0 ≤ x) (h1 : x ≤ 1000000) (hP : P ≤ 15) : 0 ≤ rtS x P ∧ figs (rtS x P) ≤ 60 ∧ 0 ≤ isq (rtS x P) ∧ isq (rtS x P) ≤ 1000000000000 := by
  have hp := pow10_pos P.toNat
  have hq : (10 : Int) ^ P.toNat ≤ 10 ^ 15 := by
    rw [pow_cast]
    have : (10 : Nat) ^ P.toNat ≤ 10 ^ 15 := Nat.pow_le_pow_right (by decide) (by lia)
    lia
  have h2 : x * 10 ^ P.toNat ≤ 1000000 * 10 ^ 15 := Int.mul_le_mul h1 hq (by lia) (by decide)
  have h3 : 0 ≤ x * 10 ^ P.toNat := Int.mul_nonneg h0 (by lia)
  have h4 := figs_le (n := rtS x P) (k := 60) (by decide) (by show x * 10 ^ P.toNat < _; lia)
  have h5 := isq_le (n := rtS x P) (k := 1000000000000) (by decide) (by show x * 10 ^ P.toNat < _; lia)
  exact ⟨h3, h4, h5.1, h5.2⟩
theorem rtP_odd {e d : Int} (h : (e - (2 * d + 4)).fmod 2 ≠ 0) : rtP e d = 2 * d + 4 + 1 := if_pos h
theorem rtP_even {e d : Int} (h : (e - (2 * d + 4)).fmod 2 = 0) : rtP e d = 2 * d + 4 := if_neg (by rw [h]; exact fun q => q rfl)
theorem rt_Xo {x e d d' : Int} (h : (e - (2 * d + 4)).fmod 2 ≠ 0) : mkX (rtW x (2 * d + 4 + 1)) d' = mkX (rtW x (rtP e d)) d' := by rw [rtP_odd h]
theorem rt_Xe {x e d d' : Int} (h : (e - (2 * d + 4)).fmod 2 = 0) : mkX (rtW x (2 * d + 4)) d' = mkX (rtW x (rtP e d)) d' := by rw [rtP_even h]
theorem rt_Eo {x e d d' : Int} (h : (e - (2 * d + 4)).fmod 2 ≠ 0) : mkE (rtW x (2 * d + 4 + 1)) (rtE x e (2 * d + 4 + 1)) d' = mkE (rtW x (rtP e d)) (rtE x e (rtP e d)) d' := by rw [rtP_odd h]
theorem rt_Ee {x e d d' : Int} (h : (e - (2 * d + 4)).fmod 2 = 0) : mkE (rtW x (2 * d + 4)) (rtE x e (2 * d + 4)) d' = mkE (rtW x (rtP e d)) (rtE x e (rtP e d)) d' := by rw [rtP_even h]
def xo (a b : Int) : Int := if a < b then -1 else if a > b then 1 else 0
theorem xo_1 {a b : Int} (h : a < b) : -1 = xo a b := by unfold xo; rw [if_pos h]
theorem xo_2 {a b : Int} (h : ¬ a < b) (h2 : b < a) : 1 = xo a b := by unfold xo; rw [if_neg h, if_pos h2]
theorem xo_3 {a b : Int} (h : ¬ a < b) (h2 : ¬ b < a) : 0 = xo a b := by unfold xo; rw [if_neg h, if_neg h2]
theorem io_1 {a b : Int} (h : ¬ cmp a b ≤ 0) : false = decide (a ≤ b) := by
  unfold cmp at h
  symm; rw [decide_eq_false_iff_not]
  intro q
  apply h
  rw [if_neg (by lia)]; split <;> lia
theorem io_3 {a b : Int} (h : ¬ cmp a b ≤ 0) : decide (cmp a b ≤ 0) = decide (a ≤ b) := by rw [decide_eq_false h]; exact io_1 h
theorem io_2 {a b : Int} (h : cmp a b ≤ 0) : decide (xo a b ≤ 0) = decide (a ≤ b) := by
  unfold cmp at h; unfold xo
  by_cases q : a ≤ b
  · rw [decide_eq_true q]; simp only [decide_eq_true_eq]; split
    · lia
    · rw [if_neg (by lia)]; lia
  · exfalso; rw [if_pos (by lia), if_neg (by lia)] at h; lia
theorem half_gt {n u : Int} (h : u < 2 * n.fmod u) : half n u = n.fdiv u + 1 := by unfold half; rw [if_pos (.inl h)]
theorem half_tie {n u : Int} (h : 2 * n.fmod u = u) (h2 : (n.fdiv u).fmod 2 = 1) : half n u = n.fdiv u + 1 := by unfold half; rw [if_pos (.inr ⟨h, h2⟩)]
theorem half_lt {n u : Int} (h : ¬ u < 2 * n.fmod u) (h2 : 2 * n.fmod u ≠ u) : half n u = n.fdiv u := by unfold half; rw [if_neg (by omega)]
theorem half_even {n u : Int} (h : ¬ u < 2 * n.fmod u) (h2 : (n.fdiv u).fmod 2 ≠ 1) : half n u = n.fdiv u := by
  unfold half; rw [if_neg]; rintro (q | ⟨_, q⟩)
  · exact h q
  · exact h2 q
def RdF (x more f : Int) : Prop := f = (absI x).fdiv (10 ^ (rdM x more).toNat) ∨ f = (absI x).fdiv (10 ^ (rdM x more).toNat) + 1
section
variable {x e p d f : Int}
theorem rd_sameX (h : 0 - p - e ≤ 0 ∨ x = 0) : rdX x e p d = x := by unfold rdX; rw [if_pos h]
theorem rd_sameE (h : 0 - p - e ≤ 0 ∨ x = 0) : rdE x e p d = e := by unfold rdE; rw [if_pos h]
theorem rd_zero (h1 : ¬ 0 - p - e ≤ 0) (h2 : x ≠ 0) (h3 : rdF x (0 - p - e) = f) (h4 : f = 0) : rdX x e p d = 0 ∧ rdE x e p d = 0 := by
  have h : ¬ (0 - p - e ≤ 0 ∨ x = 0) := fun q => q.elim h1 h2
  unfold rdX rdE; rw [if_neg h, if_neg h, if_pos (h3.trans h4), if_pos (h3.trans h4)]; exact ⟨rfl, rfl⟩
theorem rd_pos (h1 : ¬ 0 - p - e ≤ 0) (h2 : x ≠ 0) (h3 : rdF x (0 - p - e) = f) (h4 : f ≠ 0) (h5 : 0 < x) : rdX x e p d = mkX f d ∧ rdE x e p d = mkE f (e + (0 - p - e)) d := by
  have h : ¬ (0 - p - e ≤ 0 ∨ x = 0) := fun q => q.elim h1 h2
  have h6 : rdF x (0 - p - e) ≠ 0 := by rw [h3]; exact h4
  unfold rdX rdE rdC; rw [if_neg h, if_neg h, if_neg h6, if_neg h6, if_pos h5, h3]; exact ⟨rfl, rfl⟩
theorem rd_neg (h1 : ¬ 0 - p - e ≤ 0) (h2 : x ≠ 0) (h3 : rdF x (0 - p - e) = f) (h4 : f ≠ 0) (h5 : ¬ 0 < x) : rdX x e p d = mkX (0 - f) d ∧ rdE x e p d = mkE (0 - f) (e + (0 - p - e)) d := by
  have h : ¬ (0 - p - e ≤ 0 ∨ x = 0) := fun q => q.elim h1 h2
  have h6 : rdF x (0 - p - e) ≠ 0 := by rw [h3]; exact h4
  unfold rdX rdE rdC; rw [if_neg h, if_neg h, if_neg h6, if_neg h6, if_neg h5, h3]; exact ⟨rfl, rfl⟩
theorem wh_neg (h : e < 0) : whX x e d = mkX (flo x e) d ∧ whE x e d = mkE (flo x e) 0 d := by unfold whX whE; rw [if_pos h, if_pos h]; exact ⟨rfl, rfl⟩
theorem wh_pos (h : ¬ e < 0) : whX x e d = x ∧ whE x e d = e := by unfold whX whE; rw [if_neg h, if_neg h]; exact ⟨rfl, rfl⟩
theorem dec_eq {h : Heap} {D : Addr} {x' e' : Int} (d : Dec h D x' e') (q : x = x' ∧ e = e') : Dec h D x e := by rw [q.1, q.2]; exact d
end
theorem dvC_p {x1 x2 d : Int} (h : (decide (x1 < 0) == decide (x2 < 0)) = true) : dvW x1 x2 d = dvC x1 x2 d := by unfold dvC; rw [if_pos (by simpa using h)]
theorem dvC_n {x1 x2 d : Int} (h : (decide (x1 < 0) == decide (x2 < 0)) = false) : 0 - dvW x1 x2 d = dvC x1 x2 d := by unfold dvC; rw [if_neg (by simpa using h)]
theorem dv_Xp {x1 x2 d d' : Int} (h : (decide (x1 < 0) == decide (x2 < 0)) = true) : mkX (dvW x1 x2 d) d' = mkX (dvC x1 x2 d) d' := by rw [dvC_p h]
theorem dv_Xn {x1 x2 d d' : Int} (h : (decide (x1 < 0) == decide (x2 < 0)) = false) : mkX (0 - dvW x1 x2 d) d' = mkX (dvC x1 x2 d) d' := by rw [dvC_n h]
theorem dv_Ep {x1 x2 d e d' : Int} (h : (decide (x1 < 0) == decide (x2 < 0)) = true) : mkE (dvW x1 x2 d) e d' = mkE (dvC x1 x2 d) e d' := by rw [dvC_p h]
theorem dv_En {x1 x2 d e d' : Int} (h : (decide (x1 < 0) == decide (x2 < 0)) = false) : mkE (0 - dvW x1 x2 d) e d' = mkE (dvC x1 x2 d) e d' := by rw [dvC_n h]
theorem rd_room1 {x more E d f : Int} (H : 0 < more → x ≠ 0 → ∀ f, RdF x more f → Room f E d ∧ Room (0 - f) E d) (h1 : ¬ more ≤ 0) (h2 : x ≠ 0) (h3 : RdF x more f) : Room f E d := (H (by lia) h2 f h3).1
theorem rd_room2 {x more E d f : Int} (H : 0 < more → x ≠ 0 → ∀ f, RdF x more f → Room f E d ∧ Room (0 - f) E d) (h1 : ¬ more ≤ 0) (h2 : x ≠ 0) (h3 : RdF x more f) : Room (0 - f) E d := (H (by lia) h2 f h3).2
theorem root_ne {n g : Int} (h : RootInv n g) : g ≠ 0 := by have := h.2.1; lia
theorem root_py {n g : Int} (h : RootInv n g) : g.natAbs.log2 < 9000 := by
  have h1 := h.2.1
  have h2 := h.2.2.1
  exact py_of (k := 60) (by decide) (by omega)
end
noncomputable section
/-- the hand: its dict, its cards, how many were dealt at most -/
def HandN (w : World) (o : Obj) (C : Addr) (n : Int) : Prop :=
  ∃ (k : Int) (u : Tok), 0 ≤ k ∧ k ≤ n ∧ o.IsDictOf (PySem.strKind PySem.Challenge.rw_pq0162_01.row.prog w) [(Str.ofString "cards", .ref C), (Str.ofString "next", .int k u)]
/-- a list of ints stands at C -/
def Cards (h : Heap) (C : Addr) : Prop := ∃ (vs : List Value) (ns : List Int), h.IsList C vs.toArray ∧ IntsAre vs ns ∧ ns.length ≤ 1000
/-- all but H stands as it stood -/
def GrowBut (H : Addr) (h h' : Heap) : Prop := ∀ b o, b ≠ H → h.get? b = some o → h'.get? b = some o

theorem HandN.more {w : World} {o : Obj} {C : Addr} {n n' : Int} (h : HandN w o C n) (hn : n ≤ n') : HandN w o C n' := let ⟨k, u, a, b, c⟩ := h; ⟨k, u, a, Int.le_trans b hn, c⟩
theorem HandN.set {w : World} {o' : Obj} {C : Addr} {n k : Int} {u : Tok} {kvs : List (Str × Value)} (h0 : 0 ≤ k) (h1 : k ≤ n) (hd : o'.IsDictOf (PySem.strKind PySem.Challenge.rw_pq0162_01.row.prog w) kvs)
    (e : kvs = [(Str.ofString "cards", .ref C), (Str.ofString "next", .int k u)]) : HandN w o' C n := by
  subst e; exact ⟨k, u, h0, h1, hd⟩

section
variable {prog : Program} {w : World} {A₀ A : Around} {s : Shared} {base h₀ : Heap} {outer : List Env} {L H : Addr} {o : Obj} {m : Str → Option Value} {env : Env} {K : Frag} {p : Program} {loose : List Str} {mean : ExcName → Option Value} {mg mb : Str → Option Value}
  {R : Result → Shared → Prop} {name qual : Str} {params : Arguments} {body : List Stmt} {scope : Scope} {dV kV doc pm cdv ct oc : Value} {an od : Option Addr} {osl : Array (Option Value)} {f : Addr} {args : Args} {binds : List (Str × Value)}

theorem enter_hand (B : Below A₀ base outer h₀) (F : Fr h₀ L s.heap m) (N : News h₀ L s.heap [(H, o)]) (X₀ : K.In h₀) (T : Top p loose mean mg mb h₀) (hA : A.frames = some (env :: outer)) (hf : env.frame = some L) (hke : env.scope.kind = .function)
    (ho : K.lookup f = some ⟨oc, od, .func (fnOf name qual params body scope dV kV doc pm an cdv ct), osl⟩) (hcd : codeIn K cdv qual = true) (hroom : A.depth < recursionLimit)
    (hbind : BindsTo s (fnOf name qual params body scope dV kV doc pm an cdv ct) args binds) (hloc : ∀ y ∈ binds, scope.names.lookup y.1 = some .local)
    (h : ∀ g L' h₁, GrowBut H s.heap g → (∀ b x, g.get? b = some x → s.heap.get? b = some x) → Fr g L' h₁ (fun y => binds.reverse.lookup y) → News g L' h₁ [(H, o)] → Below A base (env :: outer) g → K.In g → Top p loose mean mg mb g →
      wpAny (model prog w) (A.deeper (envOf qual scope L' f cdv)) (execs body (envOf qual scope L' f cdv))
        (fun fl s' => Done R (match fl with | .ret v => v | _ => .none) s')
        (fun e s' => wpAny (model prog w) (A.deeper (envOf qual scope L' f cdv)) (leaving (envOf qual scope L' f cdv) e) (fun _ s'' => R (.error e) s'') (fun e' s'' => R (.error e') s'') s')
        { s with heap := h₁, toks := s.toks + binds.length })
    (hco : scope.isCoroutine = false) (hgen : scope.isGenerator = false) (hk : scope.kind = .function)
    (hcell : ∀ x ∈ scope.names, x.2 ≠ .cell) : codeAny (model prog w) A (.call (.ref f) args) R s := by
  obtain ⟨FG, BG, st, _⟩ := groundX (R := R) B F N hA hf hke
  have X := X₀.keeps F.keep
  have gb : GrowBut H s.heap (hideAll s.heap (List.map (·.1) [(H, o)])) := fun b x hb e => hideAll_get _ e (by simpa using hb)
  have gi : ∀ b x, (hideAll s.heap (List.map (·.1) [(H, o)])).get? b = some x → s.heap.get? b = some x := fun b x e => of_hideAll _ e
  refine codeAny_call_def (fd := fnX name qual params body scope [] dV kV doc pm an cdv ct) (body := body) (binds := binds) hroom (X _ _ ho) rfl (T.nolimit.keeps F.keep) (codeRec_of X hcd) rfl hbind hcell hloc (fun h₁ hns hk₁ => ?_) hco hgen hk
  refine h _ s.heap.objs.size h₁ gb gi ⟨hns, fun b x e => hk₁ b x (of_hideAll _ e), Nat.le_of_eq (hideAll_size _ _)⟩ (fun q hq => ⟨hk₁ _ _ (N q hq).1, Nat.ne_of_lt (Heap.lt_size (N q hq).1), hideAll_none _ (List.mem_map_of_mem hq)⟩) BG (X₀.keeps st) (T.keeps st)
end

/-- a def that deals from the hand -/
abbrev CallsH (w : World) (mean : ExcName → Option Value) (mg mb : Str → Option Value) (f : Addr) (dep : Nat) (H : Addr) (o : Obj) (vs : List Value) (pre : Heap → Prop) (ret : Heap → (Value → Heap → Prop) → Prop) : Prop :=
  ∀ (dp un : Nat) (gd : Option (List Code)) (cn : Str) (cs : Scope) (a : Addr) (ccd : Value) (cl : List (Str × Addr)) (outer : List Env) (A₀ : Around) (base h₀ : Heap) (L : Addr) (m : Str → Option Value) (s : Shared) (Q E : Value → Shared → Prop),
    Below A₀ base outer h₀ → Fr h₀ L s.heap m → News h₀ L s.heap [(H, o)] → (hd.heap_39 w.params).In h₀ → Top hd.view_39 (looseW hd.view_39 [Str.ofString "BasicError"]) mean mg mb h₀ → cs.kind = .function → dp + dep < recursionLimit → un + 8 * dep < cLine → pre s.heap →
    ret s.heap (fun v h' => ∀ tk', Q v { s with heap := h', toks := tk' }) →
    wpAny (model PySem.Challenge.rw_pq0162_01.row.prog w) (ktrTop dp un gd cn cs L a ccd cl outer) (call (.ref f) vs) Q E s

/-- a card below many; one more is dealt -/
abbrev RetH (w : World) (H C : Addr) (n many : Int) (h : Heap) (Q : Value → Heap → Prop) : Prop := ∀ x t o' h', 0 ≤ x → x < many → HandN w o' C (n + 1) → GrowBut H h h' → h'.get? H = some o' → Q (.int x t) h'
/-- the numbers of a dealt decimal -/
def Dealt (x e : Int) : Prop := -399 ≤ x ∧ x ≤ 399 ∧ -3 ≤ e ∧ e ≤ 4
abbrev RetHF (w : World) (H C : Addr) (n : Int) (h : Heap) (Q : Value → Heap → Prop) : Prop := ∀ x e D t u o' h', Dealt x e → HandN w o' C (n + 3) → GrowBut H h h' → h'.get? H = some o' → h.get? D = none → h'.get? D = some (tup2 x t e u) → Q (.ref D) h'

theorem fr_but {h₀ h h' : Heap} {L H : Addr} {m : Str → Option Value} (F : Fr h₀ L h m) (g : GrowBut H h h') (hL : H ≠ L) (hn : h₀.get? H = none) : Fr h₀ L h' m := by
  obtain ⟨⟨oL, a1, a2, hL', a3⟩, k, ab⟩ := F
  refine ⟨⟨oL, a1, a2, g _ _ (fun e => hL e.symm) hL', a3⟩, fun b x e => g b x ?_ (k b x e), ab⟩
  rintro rfl
  rw [hn] at e; cases e
theorem news_but {h₀ h h' : Heap} {L H : Addr} {o o' : Obj} {news : List (Addr × Obj)} {gn : Obj → List (Addr × Obj)} (N : News h₀ L h news) (U : UpdF H o news gn) (g : GrowBut H h h') (ho : h'.get? H = some o') : News h₀ L h' (gn o') := by
  obtain ⟨pre, post, e1, e2, h1, h2⟩ := U.split
  rw [e2]; subst e1
  intro q hq
  rcases List.mem_append.mp hq with hq | hq
  · have Z := N q (List.mem_append_left _ hq)
    exact ⟨g _ _ (h1 q hq) Z.1, Z.2⟩
  · rcases List.mem_cons.mp hq with rfl | hq
    · have Z := N (H, o) (List.mem_append_right _ (.head _))
      exact ⟨ho, Z.2⟩
    · have Z := N q (List.mem_append_right _ (.tail _ hq))
      exact ⟨g _ _ (h2 q hq) Z.1, Z.2⟩
theorem news_one {h₀ h : Heap} {L H : Addr} {o : Obj} {news : List (Addr × Obj)} {gn : Obj → List (Addr × Obj)} (N : News h₀ L h news) (U : UpdF H o news gn) : News h₀ L h [(H, o)] := by
  obtain ⟨pre, post, e1, _⟩ := U.split
  subst e1
  intro q hq
  rw [List.mem_singleton.mp hq]
  exact N _ (List.mem_append_right _ (.head _))
theorem cards_grow {h h' : Heap} {H C : Addr} {o : Obj} (c : Cards h C) (g : GrowBut H h h') (hH : h.get? H = some o) (hd : o.cls = .type "dict") : Cards h' C := by
  obtain ⟨vs, ns, ⟨x, hx, hc, hr⟩, r⟩ := c
  refine ⟨vs, ns, ⟨x, g C x ?_ hx, hc, hr⟩, r⟩
  rintro rfl
  rw [hH] at hx; cases hx; exact absurd (Value.type.inj (hd.symm.trans hc)) (by decide)
theorem cards_keep {h h' : Heap} {C : Addr} (c : Cards h C) (g : Grow h h') : Cards h' C := let ⟨vs, ns, ⟨x, hx, r⟩, q⟩ := c; ⟨vs, ns, ⟨x, g _ _ hx, r⟩, q⟩
theorem HandN.cls {w : World} {o : Obj} {C : Addr} {n : Int} (h : HandN w o C n) : o.cls = .type "dict" := by
  obtain ⟨_, _, _, _, es, ep, q, _⟩ := h
  exact q.1

section
variable {w : World} {mean : ExcName → Option Value} {mg mb : Str → Option Value} {f H C : Addr} {o : Obj} {dep : Nat} {vs : List Value} {pre : Heap → Prop}
  {dp un : Nat} {gd : Option (List Code)} {cn : Str} {cs : Scope} {a : Addr} {ccd : Value} {cl : List (Str × Addr)} {outer : List Env} {A₀ : Around} {base h₀ : Heap} {L : Addr} {m : Str → Option Value} {s : Shared} {Q E : Value → Shared → Prop} {news : List (Addr × Obj)} {gn : Obj → List (Addr × Obj)}

theorem use_H {n many : Int} (C' : CallsH w mean mg mb f dep H o vs pre (RetH w H C n many)) (B : Below A₀ base outer h₀) (F : Fr h₀ L s.heap m) (X : (hd.heap_39 w.params).In h₀) (N : News h₀ L s.heap news) (U : UpdF H o news gn)
    (T : Top hd.view_39 (looseW hd.view_39 [Str.ofString "BasicError"]) mean mg mb h₀) (hk : cs.kind = .function) (hd : dp + dep < recursionLimit) (hu : un + 8 * dep < cLine) (hp : pre s.heap)
    (ret : ∀ x t o' h' tk', 0 ≤ x → x < many → HandN w o' C (n + 1) → Fr h₀ L h' m → News h₀ L h' (gn o') → Q (.int x t) { s with heap := h', toks := tk' }) :
    wpAny (model PySem.Challenge.rw_pq0162_01.row.prog w) (ktrTop dp un gd cn cs L a ccd cl outer) (call (.ref f) vs) Q E s := by
  have N1 := news_one N U
  have Z := N1 (H, o) (.head _)
  exact C' _ _ _ _ _ _ _ _ _ _ _ _ _ _ _ _ _ B F N1 X T hk hd hu hp fun x t o' h' h0 h1 hh g ho tk' => ret x t o' h' tk' h0 h1 hh (fr_but F g Z.2.1 Z.2.2) (news_but N U g ho)
theorem use_HF {n : Int} (C' : CallsH w mean mg mb f dep H o vs pre (RetHF w H C n)) (B : Below A₀ base outer h₀) (F : Fr h₀ L s.heap m) (X : (hd.heap_39 w.params).In h₀) (N : News h₀ L s.heap news) (U : UpdF H o news gn)
    (T : Top hd.view_39 (looseW hd.view_39 [Str.ofString "BasicError"]) mean mg mb h₀) (hk : cs.kind = .function) (hd : dp + dep < recursionLimit) (hu : un + 8 * dep < cLine) (hp : pre s.heap)
    (ret : ∀ x e D t u o' h' tk', Dealt x e → HandN w o' C (n + 3) → Fr h₀ L h' m → News h₀ L h' ((D, tup2 x t e u) :: gn o') → NeAll D news → Q (.ref D) { s with heap := h', toks := tk' }) :
    wpAny (model PySem.Challenge.rw_pq0162_01.row.prog w) (ktrTop dp un gd cn cs L a ccd cl outer) (call (.ref f) vs) Q E s := by
  have N1 := news_one N U
  have Z := N1 (H, o) (.head _)
  refine C' _ _ _ _ _ _ _ _ _ _ _ _ _ _ _ _ _ B F N1 X T hk hd hu hp fun x e D t u o' h' hb hh g ho hn hD tk' => ret x e D t u o' h' tk' hb hh (fr_but F g Z.2.1 Z.2.2) ?_ (news_ne N hn)
  have N2 := news_but N U g ho
  intro q hq
  rcases List.mem_cons.mp hq with rfl | hq
  · refine ⟨hD, ?_, ?_⟩
    · rintro rfl
      obtain ⟨oL, _, _, hL, _⟩ := F.ns
      rw [hL] at hn; cases hn
    · cases q : h₀.get? D with
      | none => rfl
      | some x => have := F.keep _ _ q; rw [hn] at this; cases this
  · exact N2 q hq
theorem done_H {g h' : Heap} {L : Addr} {m : Str → Option Value} {news : List (Addr × Obj)} {s : Shared} {Q : Value → Shared → Prop} {t : Tok} {tk' : Nat} {n many x : Int} {o' : Obj}
    (ret : RetH w H C n many s.heap (fun v h' => ∀ tk', Q v { s with heap := h', toks := tk' })) (gb : GrowBut H s.heap g) (F : Fr g L h' m) (N : News g L h' news) (hm : (H, o') ∈ news) (hh : HandN w o' C (n + 1)) (h0 : 0 ≤ x) (h1 : x < many) : Q (.int x t) { s with heap := h', toks := tk' } :=
  ret x t o' h' h0 h1 hh (fun b y hb e => F.keep b y (gb b y hb e)) (N _ hm).1 tk'
theorem done_HF {g h' : Heap} {L D : Addr} {m : Str → Option Value} {news : List (Addr × Obj)} {s : Shared} {Q : Value → Shared → Prop} {t u : Tok} {tk' : Nat} {n x e : Int} {o' : Obj}
    (ret : RetHF w H C n s.heap (fun v h' => ∀ tk', Q v { s with heap := h', toks := tk' })) (gb : GrowBut H s.heap g) (F : Fr g L h' m) (N : News g L h' news) (hm : (H, o') ∈ news) (hD : (D, tup2 x t e u) ∈ news) (hh : HandN w o' C (n + 3)) (hb : Dealt x e) (hne : D ≠ H) : Q (.ref D) { s with heap := h', toks := tk' } := by
  refine ret x e D t u o' h' hb hh (fun b y hb e => F.keep b y (gb b y hb e)) (N _ hm).1 ?_ (N _ hD).1 tk'
  cases q : s.heap.get? D with
  | none => rfl
  | some y => have := gb D y hne q; rw [(N _ hD).2.2] at this; cases this
end
theorem fm_0 (a : Int) {b : Int} (h : 0 < b) : 0 ≤ a.fmod b := by rw [fmod_pos _ h]; exact Int.emod_nonneg _ (by omega)
theorem fm_1 (a : Int) {b : Int} (h : 0 < b) : a.fmod b < b := by rw [fmod_pos _ h]; exact Int.emod_lt_of_pos _ h
/-- between the turns of _law_decimal's loop -/
def DecInv (x e : Int) : Prop := 0 ≤ x ∧ x ≤ 399 ∧ -3 ≤ e ∧ (e ≤ 2 ∨ x ≤ 39 ∧ e ≤ 3 ∨ x ≤ 3 ∧ e ≤ 4)
theorem dec_start {x e : Int} (h0 : 0 ≤ x) (h1 : x < 400) (h2 : 0 ≤ e) (h3 : e < 6) : DecInv x (e - 3) := by unfold DecInv; omega
theorem dec_turn {x e : Int} (h : DecInv x e) (h0 : 0 < x) (h1 : x.fmod 10 = 0) : DecInv (x.fdiv 10) (e + 1) := by
  rw [fmod_pos _ (by decide)] at h1
  rw [fdiv_pos _ (by decide)]
  unfold DecInv at *; omega
theorem dec_less {x : Int} (h0 : 0 < x) : (x.fdiv 10).toNat < x.toNat := by rw [fdiv_pos _ (by decide)]; omega
theorem dec_zero : Dealt 0 0 := by unfold Dealt; omega
theorem dec_p {x e : Int} (h : DecInv x e) : Dealt x e := by unfold DecInv at h; unfold Dealt; omega
theorem dec_n {x e : Int} (h : DecInv x e) : Dealt (0 - x) e := by unfold DecInv at h; unfold Dealt; omega
end
noncomputable section
open PySem.Spec
theorem Dealt.e7 {x e : Int} (h : Dealt x e) : -7 ≤ e := by unfold Dealt at h; omega
theorem Dealt.sm {x e : Int} (h : Dealt x e) : Sm x e := by unfold Dealt at h; unfold Sm; omega
theorem Dealt.neg {x e : Int} (h : Dealt x e) : Dealt (0 - x) e := by unfold Dealt at *; omega
theorem absI_le {c k : Int} (h1 : -k ≤ c) (h2 : c ≤ k) : absI c ≤ k := by unfold absI; split <;> lia
theorem room_of {c e d : Int} (h1 : -(10 ^ 40) ≤ c) (h2 : c ≤ 10 ^ 40) (h3 : -40 ≤ e) (h4 : e ≤ 30) (h5 : 1 ≤ d) : Room c e d := by
  have := figs_le (n := absI c) (k := 50) (by decide) (by have := absI_le h1 h2; omega)
  exact ⟨by omega, h3, h4, h5⟩
theorem pow_le10 {k n : Nat} (h : k ≤ n) : (10 : Int) ^ k ≤ 10 ^ n := by
  rw [pow_cast, pow_cast]
  have : (10 : Nat) ^ k ≤ 10 ^ n := Nat.pow_le_pow_right (by decide) h
  lia
theorem mul_bd {x y a b : Int} (h1 : -a ≤ x) (h2 : x ≤ a) (h3 : -b ≤ y) (h4 : y ≤ b) : -(a * b) ≤ x * y ∧ x * y ≤ a * b := by
  have e : (x * y).natAbs ≤ (a * b).natAbs := by
    rw [Int.natAbs_mul, Int.natAbs_mul]
    exact Nat.mul_le_mul (by lia) (by lia)
  have : 0 ≤ a * b := Int.mul_nonneg (by lia) (by lia)
  lia
theorem sh_bd {x e l : Int} (h : Dealt x e) (hl : -3 ≤ l) : -(399 * 10 ^ 7) ≤ sh x e l ∧ sh x e l ≤ 399 * 10 ^ 7 := by
  obtain ⟨h1, h2, h3, h4⟩ := h
  have hp := pow10_pos (e - l).toNat
  have hq := pow_le10 (k := (e - l).toNat) (n := 7) (by lia)
  exact mul_bd (by lia) h2 (by lia) hq
theorem room_add {x1 e1 x2 e2 d : Int} (h1 : Dealt x1 e1) (h2 : Dealt x2 e2) (hd : 1 ≤ d) : Room (sh x1 e1 (mn e1 e2) + sh x2 e2 (mn e1 e2)) (mn e1 e2) d := by
  have m := mn_le e1 e2
  have q1 := h1; have q2 := h2
  obtain ⟨_, _, a3, a4⟩ := q1
  obtain ⟨_, _, b3, b4⟩ := q2
  have s1 := sh_bd (l := mn e1 e2) h1 (by omega)
  have s2 := sh_bd (l := mn e1 e2) h2 (by omega)
  exact room_of (by omega) (by omega) (by omega) (by omega) hd
theorem room_mul {x1 e1 x2 e2 d : Int} (h1 : Dealt x1 e1) (h2 : Dealt x2 e2) (hd : 1 ≤ d) : Room (x1 * x2) (e1 + e2) d := by
  obtain ⟨a1, a2, a3, a4⟩ := h1
  obtain ⟨b1, b2, b3, b4⟩ := h2
  have := mul_bd a1 a2 b1 b2
  exact room_of (by lia) (by lia) (by lia) (by lia) hd
theorem wr_bd {q r e : Int} {k : Int} (h0 : 0 ≤ q) (h1 : q ≤ k) : 0 ≤ wrW q r ∧ wrW q r ≤ 10 * k + 1 ∧ e - 1 ≤ wrE r e ∧ wrE r e ≤ e := by
  unfold wrW wrE; split <;> lia
theorem figs_dealt {x e : Int} (h : Dealt x e) : figs (absI x) ≤ 3 := by
  obtain ⟨h1, h2, _⟩ := h
  exact figs_le (n := absI x) (k := 3) (by decide) (by have := absI_le h1 h2; omega)
theorem mx0_bd {t : Int} (h : t ≤ 2) : 0 ≤ mx0 t ∧ mx0 t ≤ 2 := by unfold mx0; split <;> lia
theorem dv_bd {x1 e1 x2 e2 d : Int} (h1 : Dealt x1 e1) (h2 : Dealt x2 e2) (hn : x2 ≠ 0) (hd : 1 ≤ d) (hd2 : d ≤ 5) :
    0 ≤ dvW x1 x2 d ∧ dvW x1 x2 d ≤ 10 ^ 20 ∧ -20 ≤ dvE x1 e1 x2 e2 d ∧ dvE x1 e1 x2 e2 d ≤ 10 := by
  have f1 := figs_dealt h1
  have f2 := figs_dealt h2
  have f3 := figs_pos (absI x1)
  have hm := mx0_bd (t := figs (absI x2) - figs (absI x1)) (by omega)
  obtain ⟨a1, a2, a3, a4⟩ := h1
  obtain ⟨b1, b2, b3, b4⟩ := h2
  have n1 := absI_nonneg x1
  have l1 := absI_le a1 a2
  have p2 : 0 < absI x2 := by unfold absI; split <;> omega
  have hp := pow10_pos (dvP x1 x2 d).toNat
  have hq := pow_le10 (k := (dvP x1 x2 d).toNat) (n := 9) (by show (d + 2 + mx0 _).toNat ≤ 9; omega)
  have hs0 : 0 ≤ dvS x1 x2 d := Int.mul_nonneg n1 (by omega)
  have hs1 : dvS x1 x2 d ≤ 399 * 10 ^ 9 := Int.mul_le_mul l1 hq (by omega) (by decide)
  have hd0 : 0 ≤ (dvS x1 x2 d).fdiv (absI x2) := by rw [fdiv_pos _ p2]; exact Int.ediv_nonneg hs0 (by omega)
  have hd1 : (dvS x1 x2 d).fdiv (absI x2) ≤ 399 * 10 ^ 9 := by
    rw [fdiv_pos _ p2]
    exact Int.le_trans (Int.ediv_le_self _ hs0) hs1
  have w := wr_bd (r := (dvS x1 x2 d).fmod (absI x2)) (e := e1 - e2 - dvP x1 x2 d) hd0 hd1
  have pe : dvP x1 x2 d ≤ 9 ∧ 0 ≤ dvP x1 x2 d := ⟨by show d + 2 + mx0 _ ≤ 9; omega, by show 0 ≤ d + 2 + mx0 _; omega⟩
  exact ⟨w.1, Int.le_trans w.2.1 (by decide), Int.le_trans (by omega) w.2.2.1, Int.le_trans w.2.2.2 (by omega)⟩
theorem room_div1 {x1 e1 x2 e2 d : Int} (h1 : Dealt x1 e1) (h2 : Dealt x2 e2) (hn : x2 ≠ 0) (hd : 1 ≤ d) (hd2 : d ≤ 5) : Room (dvW x1 x2 d) (dvE x1 e1 x2 e2 d) d := by
  have h := dv_bd h1 h2 hn hd hd2
  exact room_of (by omega) (by omega) (by omega) (by omega) hd
theorem room_div2 {x1 e1 x2 e2 d : Int} (h1 : Dealt x1 e1) (h2 : Dealt x2 e2) (hn : x2 ≠ 0) (hd : 1 ≤ d) (hd2 : d ≤ 5) : Room (0 - dvW x1 x2 d) (dvE x1 e1 x2 e2 d) d := by
  have h := dv_bd h1 h2 hn hd hd2
  exact room_of (by omega) (by omega) (by omega) (by omega) hd
theorem room_dvC {x1 e1 x2 e2 d : Int} (h1 : Dealt x1 e1) (h2 : Dealt x2 e2) (hn : x2 ≠ 0) (hd : 1 ≤ d) (hd2 : d ≤ 5) : Room (dvC x1 x2 d) (dvE x1 e1 x2 e2 d) d := by
  unfold dvC; split
  · exact room_div1 h1 h2 hn hd hd2
  · exact room_div2 h1 h2 hn hd hd2
theorem room_wh {x e d : Int} (h : Dealt x e) (hd : 1 ≤ d) : e < 0 → Room (flo x e) 0 d := fun he => by
  obtain ⟨a1, a2, a3, a4⟩ := h
  have hp := pow10_pos (0 - e).toNat
  have h1 : flo x e = x / 10 ^ (0 - e).toNat := by unfold flo; rw [if_neg (by lia), fdiv_pos _ hp]
  have h2 : -400 ≤ x / 10 ^ (0 - e).toNat := by
    apply Int.le_ediv_of_mul_le hp
    have : -400 * (10 : Int) ^ (0 - e).toNat ≤ -400 * 1 := Int.mul_le_mul_of_nonpos_left (by lia) (by lia)
    lia
  have h3 : x / 10 ^ (0 - e).toNat ≤ 400 := by
    rcases Int.le_total 0 x with h | h
    · exact Int.le_trans (Int.ediv_le_self _ h) (by lia)
    · have : x / 10 ^ (0 - e).toNat ≤ 0 := by
        have := Int.ediv_le_ediv hp h
        simpa using this
      lia
  rw [← h1] at h2 h3
  exact room_of (by lia) (by lia) (by lia) (by lia) hd
theorem rdf_bd {x e more f : Int} (h : Dealt x e) (hf : RdF x more f) : 0 ≤ f ∧ f ≤ 400 := by
  obtain ⟨a1, a2, a3, a4⟩ := h
  have hp := pow10_pos (rdM x more).toNat
  have n1 := absI_nonneg x
  have l1 := absI_le a1 a2
  have q0 : 0 ≤ absI x / 10 ^ (rdM x more).toNat := Int.ediv_nonneg n1 (by omega)
  have q1 : absI x / 10 ^ (rdM x more).toNat ≤ 399 := Int.le_trans (Int.ediv_le_self _ n1) l1
  unfold RdF at hf
  rw [fdiv_pos _ hp] at hf
  omega
theorem room_rd {x e p d : Int} (h : Dealt x e) (hp1 : -2 ≤ p) (hp2 : p ≤ 2) (hd : 1 ≤ d) : 0 < 0 - p - e → x ≠ 0 → ∀ f, RdF x (0 - p - e) f → Room f (e + (0 - p - e)) d ∧ Room (0 - f) (e + (0 - p - e)) d := fun _ _ f hf => by
  have b := rdf_bd h hf
  exact ⟨room_of (by lia) (by lia) (by lia) (by lia) hd, room_of (by lia) (by lia) (by lia) (by lia) hd⟩
theorem rt_room {x e P d : Int} (h : Dealt x e) (h0 : 0 ≤ x) (hP : 0 ≤ P) (hP2 : P ≤ 15) (hd : 1 ≤ d) : Room (rtW x P) (rtE x e P) d := by
  have b := rt_bd (x := x) (P := P) h0 (by have := h.2.1; omega) hP2
  obtain ⟨a1, a2, a3, a4⟩ := h
  have hf : (e - P).fdiv 2 = (e - P) / 2 := fdiv_pos _ (by decide)
  have w := wr_bd (r := rtS x P - isq (rtS x P) * isq (rtS x P)) (e := (e - P).fdiv 2) b.2.2.1 b.2.2.2
  exact room_of (by show _ ≤ wrW _ _; omega) (by show wrW _ _ ≤ _; omega) (by show _ ≤ wrE _ _; omega) (by show wrE _ _ ≤ _; omega) hd

theorem stripN_bd (n : Nat) : (stripN n).1 ≤ n ∧ ∀ k, n < 10 ^ k → (stripN n).2 ≤ k := by
  induction n using Nat.strongRecOn with
  | ind n ih =>
    unfold stripN
    split
    · exact ⟨by lia, fun k _ => Nat.zero_le _⟩
    · split
      · have h := ih (n / 10) (by lia)
        refine ⟨by have := h.1; show (stripN (n / 10)).1 ≤ n; lia, fun k hk => ?_⟩
        cases k with
        | zero => exfalso; simp at hk; lia
        | succ k =>
          have := h.2 k (by rw [Nat.pow_succ] at hk; lia)
          show (stripN (n / 10)).2 + 1 ≤ k + 1
          lia
      · exact ⟨Nat.le_refl _, fun k _ => Nat.zero_le _⟩
theorem mkS_bd (c : Int) {d : Int} (hd : 1 ≤ d) : 0 ≤ mkS c d ∧ mkS c d ≤ 10 ^ d.toNat := by
  have n := absI_nonneg c
  have hl := figs_lt n
  unfold mkS
  split
  · rename_i h
    have hr := rb_le n h
    have e : (figs (absI c)).toNat = d.toNat + (figs (absI c) - d).toNat := by lia
    rw [e, Int.pow_add] at hl
    have hq := pow10_pos (figs (absI c) - d).toNat
    have := Int.ediv_lt_of_lt_mul hq hl
    lia
  · have := pow_le10 (k := (figs (absI c)).toNat) (n := d.toNat) (by lia)
    lia
theorem mk_sm {c e d : Int} (r : Room c e d) (hd : d ≤ 5) : Sm (mkX c d) (mkE c e d) := by
  obtain ⟨r1, r2, r3, r4⟩ := r
  have b := mkS_bd c r4
  have hq := pow_le10 (k := d.toNat) (n := 5) (by lia)
  have f := figs_pos (absI c)
  have s := stripN_bd (mkS c d).toNat
  have s2 := s.2 6 (by lia)
  have p1 : e ≤ mkP c e d ∧ mkP c e d ≤ e + 50 := by unfold mkP; split <;> lia
  unfold mkX mkE
  split
  · exact sm_lit (by decide) (by decide) (by decide) (by decide)
  · have x1 : 0 ≤ stripS (mkS c d) ∧ stripS (mkS c d) ≤ 100000 := by unfold stripS; lia
    have x2 : -40 ≤ stripE (mkS c d) (mkP c e d) ∧ stripE (mkS c d) (mkP c e d) ≤ 90 := by unfold stripE; lia
    refine sm_lit ?_ ?_ ?_ ?_
    · split <;> lia
    · split <;> lia
    · lia
    · lia
theorem wh_sm {x e d : Int} (h : Dealt x e) (hd : 1 ≤ d) (hd2 : d ≤ 5) : Sm (whX x e d) (whE x e d) := by
  unfold whX whE
  split
  · exact mk_sm (room_wh h hd ‹_›) hd2
  · exact h.sm
theorem rd_sm {x e p d : Int} (h : Dealt x e) (hp1 : -2 ≤ p) (hp2 : p ≤ 2) (hd : 1 ≤ d) (hd2 : d ≤ 5) : Sm (rdX x e p d) (rdE x e p d) := by
  unfold rdX rdE
  by_cases q : 0 - p - e ≤ 0 ∨ x = 0
  · rw [if_pos q, if_pos q]; exact h.sm
  · rw [if_neg q, if_neg q]
    by_cases q2 : rdF x (0 - p - e) = 0
    · rw [if_pos q2, if_pos q2]; exact sm_lit (by decide) (by decide) (by decide) (by decide)
    · rw [if_neg q2, if_neg q2]
      have hr : RdF x (0 - p - e) (rdF x (0 - p - e)) := by
        unfold RdF rdF half; split
        · exact .inr rfl
        · exact .inl rfl
      have r := room_rd (d := d) h hp1 hp2 hd (by lia) (by lia) _ hr
      unfold rdC
      split
      · exact mk_sm r.1 hd2
      · exact mk_sm r.2 hd2
end
noncomputable section
open PySem.Spec
/-- a decimal that came back: it stands in the base, or the ledger bears it -/
def RepA (h₀ : Heap) (D : Addr) (q : Addr) (o : Obj) (x e : Int) : Prop := Dec h₀ D x e ∨ (q = D ∧ ∃ t u n, o.cls = .type "tuple" ∧ o.data = .seq #[.int x t, .int e u] n)
def NotAt (q : Addr) (news : List (Addr × Obj)) : Prop := ∀ p ∈ news, p.2.cls ≠ .type "tuple" → @Ne Nat p.1 q
theorem not_at {q a : Addr} {o : Obj} {news : List (Addr × Obj)} (h : NotAt q news) (hm : (a, o) ∈ news) (hc : o.cls ≠ .type "tuple") : @Ne Nat a q := h _ hm hc
theorem not_at' {q a : Addr} {o : Obj} {news : List (Addr × Obj)} (h : NotAt q news) (hm : (a, o) ∈ news) (hc : o.cls ≠ .type "tuple") : @Ne Nat q a := fun e => h _ hm hc e.symm
theorem dec_rep {h₀ h : Heap} {L D q : Addr} {m : Str → Option Value} {o : Obj} {news : List (Addr × Obj)} {x e : Int} (r : RepA h₀ D q o x e) (F : Fr h₀ L h m) (N : News h₀ L h news) (hm : (q, o) ∈ news) : Dec h D x e := by
  rcases r with r | ⟨rfl, t, u, n, hc, hd⟩
  · exact dec_base F r
  · exact ⟨t, u, o, (N _ hm).1, hc, n, hd⟩

section
variable {w : World} {mean : ExcName → Option Value} {mg mb : Str → Option Value} {f : Addr} {dep : Nat} {vs : List Value} {pre : Heap → Prop}
  {dp un : Nat} {gd : Option (List Code)} {cn : Str} {cs : Scope} {a : Addr} {ccd : Value} {cl : List (Str × Addr)} {outer : List Env} {A₀ : Around} {base h₀ : Heap} {L : Addr} {m : Str → Option Value} {s : Shared} {Q E : Value → Shared → Prop} {news : List (Addr × Obj)}
theorem use_A {x e : Int} {Dq : Addr} {xq yq : Int} {tq uq : Tok} (C : Calls w mean mg mb f dep vs pre (RetA x e)) (B : Below A₀ base outer h₀) (F : Fr h₀ L s.heap m) (X : (hd.heap_39 w.params).In h₀) (N : News h₀ L s.heap news)
    (T : Top hd.view_39 (looseW hd.view_39 [Str.ofString "BasicError"]) mean mg mb h₀) (hk : cs.kind = .function) (hd : dp + dep < recursionLimit) (hu : un + 8 * dep < cLine) (hp : pre s.heap) (hq : (Dq, tup2 xq tq yq uq) ∈ news)
    (ret : ∀ D qa qo h' tk', RepA h₀ D qa qo x e → Fr h₀ L h' m → News h₀ L h' ((qa, qo) :: news) → NotAt qa news → Q (.ref D) { s with heap := h', toks := tk' }) :
    wpAny (model PySem.Challenge.rw_pq0162_01.row.prog w) (ktrTop dp un gd cn cs L a ccd cl outer) (call (.ref f) vs) Q E s := by
  refine C _ _ _ _ _ _ _ _ _ _ _ _ _ _ _ _ _ B F X T hk hd hu hp fun D h' g d tk' => ?_
  have F' := F.grownK g
  have N' := N.grown g
  have key : ∀ qa qo, h'.get? qa = some qo → qo.cls = .type "tuple" → NotAt qa news := by
    intro qa qo hq hc p hp hn e
    have := (N' p hp).1
    rw [e, hq] at this
    cases this
    exact hn hc
  obtain ⟨t, u, o, ho, hc, n, hdat⟩ := d
  cases hb : h₀.get? D with
  | some o' =>
    have e1 := F'.keep _ _ hb
    rw [ho] at e1
    cases e1
    refine ret D Dq (tup2 xq tq yq uq) h' tk' (.inl ⟨t, u, o, hb, hc, n, hdat⟩) F' (fun p hp => ?_) (key _ _ (N' _ hq).1 rfl)
    rcases List.mem_cons.mp hp with rfl | hp
    · exact N' _ hq
    · exact N' p hp
  | none =>
    refine ret D D o h' tk' (.inr ⟨rfl, t, u, n, hc, hdat⟩) F' (fun p hp => ?_) (key _ _ ho hc)
    rcases List.mem_cons.mp hp with rfl | hp
    · refine ⟨ho, ?_, hb⟩
      rintro rfl
      obtain ⟨oL, es, ep, hL, hLd, _⟩ := F'.ns
      rw [hL] at ho
      cases ho
      rw [hdat] at hLd
      cases hLd
    · exact N' p hp
theorem cmp_ne {prog : Program} {A : Around} {D D' : Addr} {x e x' e' : Int} {Q : Value → Shared → Prop} (d : Dec s.heap D x e) (d' : Dec s.heap D' x' e') (q : x = x' ∧ e = e') (hu : A.units + 64 < cLine) (h : Q (.bool false) s) :
    wpAny (model prog w) A (compareOp .NotEq (.ref D) (.ref D')) Q E s := by
  obtain ⟨rfl, rfl⟩ := q
  obtain ⟨t, u, o, ho, hc, n, hd⟩ := d
  obtain ⟨t', u', o', ho', hc', n', hd'⟩ := d'
  refine ne_dataH (da := .tuple [.int x, .int e]) (db := .tuple [.int x, .int e]) (reads_tuple_at ho hc hd (ReadsAll.cons (Reads.int _ _) (ReadsAll.cons (Reads.int _ _) ReadsAll.nil))) (reads_tuple_at ho' hc' hd' (ReadsAll.cons (Reads.int _ _) (ReadsAll.cons (Reads.int _ _) ReadsAll.nil))) rfl rfl hu ?_
  simpa [PyData.eqv, PyData.eqvAll] using h
theorem calls_true {x : Bool} (C : Calls w mean mg mb f dep vs pre (RetB x)) (hx : x = true) : Calls w mean mg mb f dep vs pre (RetB true) := by subst hx; exact C
end

/-- the order of two decimals -/
def Le2 (x1 e1 x2 e2 : Int) : Prop := sh x1 e1 (mn e1 e2) ≤ sh x2 e2 (mn e1 e2)
/-- the order as the law's own reckoning gives it -/
def Ex2 (x1 e1 x2 e2 : Int) : Prop := x1 * 10 ^ (e1 + 7).toNat ≤ x2 * 10 ^ (e2 + 7).toNat
theorem ex_no {x1 e1 x2 e2 : Int} (h : ¬ x1 * 10 ^ (e1 + 7).toNat ≤ x2 * 10 ^ (e2 + 7).toNat) : Ex2 x2 e2 x1 e1 := by unfold Ex2; omega
theorem ex_yes {x1 e1 x2 e2 : Int} (h : x1 * 10 ^ (e1 + 7).toNat ≤ x2 * 10 ^ (e2 + 7).toNat) : Ex2 x1 e1 x2 e2 := h

theorem rtP_bd {e d : Int} (h1 : 1 ≤ d) (h2 : d ≤ 5) : 0 ≤ rtP e d ∧ rtP e d ≤ 15 := by unfold rtP; split <;> omega
theorem rt_roomP {x e d : Int} (h : Dealt x e) (h0 : 0 ≤ x) (h1 : 1 ≤ d) (h2 : d ≤ 5) : Room (rtW x (rtP e d)) (rtE x e (rtP e d)) d :=
  rt_room h h0 (rtP_bd h1 h2).1 (rtP_bd h1 h2).2 h1

section
variable {prog : Program} {w : World} {A : Around} {E : Value → Shared → Prop} {s : Shared} {env : Env} {h₀ : Heap} {x : Str} {body : List Stmt} {Q : Flow → Shared → Prop}
theorem law_range {r : Addr} {a₀ b₀ : Int} {t₀ u₀ v₀ : Tok} {n : Nat} {m₀ : Str → Option Value} {H C : Addr} {o oc : Obj} {news : List (Addr × Obj)} (stored : List Str)
    (hh : A.handled = none) (hr : IsRange s.heap r a₀ b₀ 1 t₀ u₀ v₀) (hsmall : Builtin.Range.small a₀ b₀ 1 = true) (hn : Builtin.Range.rangeSize a₀ b₀ 1 = (n : Int)) (F : Fr h₀ env.locals s.heap m₀) (N : News h₀ env.locals s.heap news) (hH : (H, o) ∈ news) (hC : (C, oc) ∈ news) (hand : HandN w o C 0) (hm : m₀ (Str.ofString "hand") = some (.ref H))
    (turn : ∀ (c : Obj) (pre : List Int) (k : Int) t (u : Str → Option Value) h tk own, pre.length < n → OwnOff own [H, C] → HandN w c C (100 * (pre.length : Int)) →
      Fr h₀ env.locals h (fun y => if y = x then some (.int k t) else kstB (fun z => if stored.contains z then u z else m₀ z) [(Str.ofString "hand", .ref H)] y) → News h₀ env.locals h ((H, c) :: (C, oc) :: own) →
      wpAny (model prog w) A (execs body env) (InvPostN h₀ env.locals (KstS (fun c => [(H, c), (C, oc)]) (fun _ => [(Str.ofString "hand", .ref H)]) (fun _ => True) x stored m₀ (fun pre c => HandN w c C (100 * (pre.length : Int))) (pre ++ [k])) own [H, C] { s with heap := h, toks := tk } Q) E { s with heap := h, toks := tk })
    (done : ∀ (c : Obj) (u : Str → Option Value) h tk, Fr h₀ env.locals h (fun y => if y = x then u y else kstB (fun z => if stored.contains z then u z else m₀ z) [(Str.ofString "hand", .ref H)] y) → News h₀ env.locals h [(H, c), (C, oc)] → Q .next { s with heap := h, toks := tk }) :
    wpAny (model prog w) A (pyIter (.ref r)) (fun it s₂ => LoopAtV prog w A h₀ env x body Q E it s₂) E s :=
  kst_range (σ := Obj) (fun c => [(H, c), (C, oc)]) (fun _ => [(Str.ofString "hand", .ref H)]) (fun _ => True) stored (fun pre c => HandN w c C (100 * (pre.length : Int))) o hh hr hsmall hn F
    (fun p hp => by
      rcases List.mem_cons.mp hp with rfl | hp
      · exact N _ hH
      · rw [List.mem_singleton.mp hp]; exact N _ hC) True.intro (fun p hp => by rw [List.mem_singleton.mp hp]; exact hm) (hand.more (by simp))
    (fun c pre k t u h tk own _ hl ho _ hP F' N' => turn c pre k t u h tk own hl ho hP F' N')
    (fun c u h tk _ _ F' N' => done c u h tk F' N')
end
theorem hand_new {w : World} {o : Obj} {C : Addr} {u : Tok} {kvs : List (Str × Value)} (hd : o.IsDictOf (PySem.strKind PySem.Challenge.rw_pq0162_01.row.prog w) kvs) (e : kvs = [(Str.ofString "cards", .ref C), (Str.ofString "next", .int 0 u)]) : HandN w o C 0 := by
  subst e; exact ⟨0, u, by omega, by omega, hd⟩
theorem cards_news {h₀ h : Heap} {L C : Addr} {news : List (Addr × Obj)} {vs : List Value} {ns : List Int} {n : Nat} (N : News h₀ L h news) (hm : (C, ({ cls := .type "list", data := .seq vs.toArray n } : Obj)) ∈ news) (hi : IntsAre vs ns) (hl : ns.length ≤ 1000) : Cards h C :=
  ⟨vs, ns, News.isList N hm, hi, hl⟩

-- the plain law's ends (proved in P*.lean)
def digitsOk (d : Int) : Prop := 3 ≤ d ∧ d ≤ 5
end
noncomputable section
open PySem.Spec
/-- n / u to the nearest whole number, a tie to the even one -/
def hN (n u : Nat) : Nat := if 2 * (n % u) > u ∨ (2 * (n % u) = u ∧ n / u % 2 = 1) then n / u + 1 else n / u
theorem hN_bd (n u : Nat) : n / u ≤ hN n u ∧ hN n u ≤ n / u + 1 := by unfold hN; split <;> lia
theorem hN_mono {n n' u : Nat} (h : n ≤ n') : hN n u ≤ hN n' u := by
  have h1 := Nat.div_le_div_right (c := u) h
  have e1 := Nat.div_add_mod n u
  have e2 := Nat.div_add_mod n' u
  rcases Nat.lt_or_ge (n / u) (n' / u) with q | q
  · have := (hN_bd n u).2
    have := (hN_bd n' u).1
    lia
  · have q' : n / u = n' / u := Nat.le_antisymm h1 q
    unfold hN
    rw [q'] at e1 ⊢
    have : n % u ≤ n' % u := by lia
    split <;> split <;> lia
theorem hN_scale {n u k : Nat} (hk : 0 < k) : hN (k * n) (k * u) = hN n u := by
  unfold hN
  rw [Nat.mul_div_mul_left _ _ hk, Nat.mul_mod_mul_left]
  have e : 2 * (k * (n % u)) = k * (2 * (n % u)) := Nat.mul_left_comm _ _ _
  rw [e]
  have c1 : (k * (2 * (n % u)) > k * u) ↔ (2 * (n % u) > u) := Nat.mul_lt_mul_left hk
  have c2 : (k * (2 * (n % u)) = k * u) ↔ (2 * (n % u) = u) := ⟨Nat.mul_left_cancel hk, fun h => by rw [h]⟩
  simp only [c1, c2]
theorem hN_whole {n u : Nat} (hu : 0 < u) : hN (n * u) u = n := by
  unfold hN
  rw [Nat.mul_mod_left, Nat.mul_div_cancel _ hu, if_neg]
  lia
theorem hN_small {n u : Nat} (h : 2 * n < u) : hN n u = 0 := by
  unfold hN
  rw [Nat.mod_eq_of_lt (by lia), Nat.div_eq_of_lt (by lia), if_neg]
  lia

/-- n kept to d figures -/
def rv (n d : Nat) : Nat := if figsN n > d then hN n (10 ^ (figsN n - d)) * 10 ^ (figsN n - d) else n
theorem p10 (k : Nat) : 0 < 10 ^ k := Nat.pow_pos (by decide)
theorem figsN_mul10 {n : Nat} (h : 1 ≤ n) : figsN (10 * n) = figsN n + 1 := by
  rw [figsN, if_neg (by lia)]
  have : 10 * n / 10 = n := by lia
  rw [this]
theorem figsN_app {n t : Nat} (h : 1 ≤ n) (ht : t < 10) : figsN (10 * n + t) = figsN n + 1 := by
  rw [figsN, if_neg (by lia)]
  have : (10 * n + t) / 10 = n := by lia
  rw [this]
theorem figsN_mono {n n' : Nat} (h : n ≤ n') : figsN n ≤ figsN n' := by
  have s := figsN_spec n
  have s' := figsN_spec n'
  have p := figsN_pos n'
  rcases Nat.lt_or_ge (figsN n') (figsN n) with q | q
  · exfalso
    have a := s.2.resolve_left (by lia)
    have : 10 ^ figsN n' ≤ 10 ^ (figsN n - 1) := Nat.pow_le_pow_right (by decide) (by lia)
    lia
  · exact q
theorem figsN_lt {n k : Nat} (h : k < figsN n) (hk : 1 ≤ k) : 10 ^ k ≤ n := by
  have s := (figsN_spec n).2.resolve_left (by lia)
  have : 10 ^ k ≤ 10 ^ (figsN n - 1) := Nat.pow_le_pow_right (by decide) (by lia)
  lia
theorem figsN_ge {n k : Nat} (h : 10 ^ k ≤ n) : k < figsN n := by
  have s := (figsN_spec n).1
  rcases Nat.lt_or_ge k (figsN n) with q | q
  · exact q
  · exfalso
    have : 10 ^ figsN n ≤ 10 ^ k := Nat.pow_le_pow_right (by decide) q
    lia
theorem rv_small {n d : Nat} (h : figsN n ≤ d) : rv n d = n := by unfold rv; rw [if_neg (by lia)]
theorem rv_big {n d : Nat} (h : d < figsN n) : rv n d = hN n (10 ^ (figsN n - d)) * 10 ^ (figsN n - d) := by unfold rv; rw [if_pos h]
theorem rv_mul10 {n d : Nat} (hd : 1 ≤ d) : rv (10 * n) d = 10 * rv n d := by
  by_cases h0 : n = 0
  · subst h0
    have : figsN 0 = 1 := by rw [figsN, if_pos (by decide)]
    rw [Nat.mul_zero, rv_small (by lia)]
  · have f := figsN_mul10 (n := n) (by lia)
    rcases Nat.lt_trichotomy (figsN n) d with h | h | h
    · rw [rv_small (by lia), rv_small (by lia)]
    · rw [rv_big (by lia), rv_small (by lia), f, h]
      have : d + 1 - d = 1 := by lia
      rw [this, Nat.pow_one, Nat.mul_comm 10 n, hN_whole (by decide)]
    · rw [rv_big (by lia), rv_big h, f]
      have : figsN n + 1 - d = figsN n - d + 1 := by lia
      rw [this, Nat.pow_succ, Nat.mul_comm (10 ^ _) 10, hN_scale (by decide), Nat.mul_left_comm]
theorem rv_mulP {n d : Nat} (hd : 1 ≤ d) (k : Nat) : rv (n * 10 ^ k) d = rv n d * 10 ^ k := by
  induction k with
  | zero => simp
  | succ k ih =>
    rw [Nat.pow_succ, ← Nat.mul_assoc, Nat.mul_comm _ 10, rv_mul10 hd, ih, Nat.mul_comm 10, Nat.mul_assoc]
theorem rv_le {n d : Nat} (h : d < figsN n) : rv n d ≤ 10 ^ figsN n := by
  rw [rv_big h]
  have e : figsN n = d + (figsN n - d) := by lia
  have s := (figsN_spec n).1
  have b := (hN_bd n (10 ^ (figsN n - d))).2
  have : n / 10 ^ (figsN n - d) < 10 ^ d := by
    apply Nat.div_lt_of_lt_mul
    rw [← Nat.pow_add, Nat.add_comm, ← e]; exact s
  have h1 : hN n (10 ^ (figsN n - d)) ≤ 10 ^ d := by lia
  have h2 := Nat.mul_le_mul_right (10 ^ (figsN n - d)) h1
  rw [← Nat.pow_add, ← e] at h2
  exact h2
theorem rv_ge {n d : Nat} (hd : 1 ≤ d) (h : d < figsN n) : 10 ^ (figsN n - 1) ≤ rv n d := by
  rw [rv_big h]
  have e : figsN n - 1 = (d - 1) + (figsN n - d) := by lia
  have s := (figsN_spec n).2.resolve_left (by lia)
  have b := (hN_bd n (10 ^ (figsN n - d))).1
  have h1 : 10 ^ (d - 1) ≤ n / 10 ^ (figsN n - d) := by
    rw [Nat.le_div_iff_mul_le (p10 _), ← Nat.pow_add, ← e]; exact s
  have h2 := Nat.mul_le_mul_right (10 ^ (figsN n - d)) (Nat.le_trans h1 b)
  rw [← Nat.pow_add, ← e] at h2
  exact h2
theorem rv_mono {n n' d : Nat} (hd : 1 ≤ d) (h : n ≤ n') : rv n d ≤ rv n' d := by
  have f := figsN_mono h
  rcases Nat.lt_or_ge d (figsN n') with q' | q'
  · have g' := rv_ge hd q'
    rcases Nat.lt_or_ge d (figsN n) with q | q
    · rcases Nat.lt_or_ge (figsN n) (figsN n') with r | r
      · have g := rv_le q
        have : 10 ^ figsN n ≤ 10 ^ (figsN n' - 1) := Nat.pow_le_pow_right (by decide) (by lia)
        lia
      · have e : figsN n = figsN n' := Nat.le_antisymm f r
        rw [rv_big q, rv_big q', e]
        exact Nat.mul_le_mul_right _ (hN_mono h)
    · rw [rv_small q]
      have s := (figsN_spec n).1
      have : 10 ^ figsN n ≤ 10 ^ (figsN n' - 1) := Nat.pow_le_pow_right (by decide) (by lia)
      lia
  · rw [rv_small q', rv_small (by lia)]; exact h

/-- a number with a rest: one more figure tells whether something is left -/
theorem rv_sticky {w s s' d : Nat} (hd : 1 ≤ d) (h : d < figsN (w / 10)) (hs : s ≤ 1) (hs' : s' ≤ 1) (h0 : s = 0 ↔ w % 10 = 0 ∧ s' = 0) : rv (10 * w + s') d = 10 * rv (10 * (w / 10) + s) d := by
  have hw : 10 ≤ w / 10 := by have := figsN_lt h hd; have : 10 ^ 1 ≤ 10 ^ d := Nat.pow_le_pow_right (by decide) hd; lia
  have f1 : figsN (10 * (w / 10) + s) = figsN (w / 10) + 1 := figsN_app (by lia) (by lia)
  have f2 : figsN w = figsN (w / 10) + 1 := by
    have := figsN_app (n := w / 10) (t := w % 10) (by lia) (by lia)
    rwa [Nat.div_add_mod] at this
  have f3 : figsN (10 * w + s') = figsN (w / 10) + 2 := by
    rw [figsN_app (by lia) (by lia), f2]
  rw [rv_big (by lia), rv_big (by lia), f1, f3]
  have e1 : figsN (w / 10) + 2 - d = (figsN (w / 10) - d) + 1 + 1 := by lia
  have e2 : figsN (w / 10) + 1 - d = (figsN (w / 10) - d) + 1 := by lia
  rw [e1, e2, Nat.pow_succ _ (_ + 1), Nat.pow_succ]
  obtain ⟨k, hk⟩ : ∃ k, figsN (w / 10) - d = k + 1 := ⟨figsN (w / 10) - d - 1, by lia⟩
  rw [hk, Nat.pow_succ]
  generalize 10 ^ k = v
  have key : hN (10 * w + s') (v * 10 * 10 * 10) = hN (10 * (w / 10) + s) (v * 10 * 10) := by
    have a1 : v * 10 * 10 * 10 = 100 * (v * 10) := by lia
    have a2 : v * 10 * 10 = 10 * (v * 10) := by lia
    have b1 : (10 * w + s') / (100 * (v * 10)) = w / 10 / (v * 10) := by
      rw [← Nat.div_div_eq_div_mul]; congr 1; lia
    have b2 : (10 * (w / 10) + s) / (10 * (v * 10)) = w / 10 / (v * 10) := by
      rw [← Nat.div_div_eq_div_mul]; congr 1; lia
    have c1 : (10 * w + s') % (100 * (v * 10)) = 10 * (w % 10) + s' + 100 * (w / 10 % (v * 10)) := by
      rw [Nat.mod_mul]
      have : (10 * w + s') / 100 = w / 10 := by lia
      rw [this]; lia
    have c2 : (10 * (w / 10) + s) % (10 * (v * 10)) = s + 10 * (w / 10 % (v * 10)) := by
      rw [Nat.mod_mul]
      have : (10 * (w / 10) + s) / 10 = w / 10 := by lia
      rw [this]; lia
    unfold hN
    rw [a1, a2, b1, b2, c1, c2]
    generalize w / 10 / (v * 10) = q
    generalize w / 10 % (v * 10) = r
    have : w % 10 < 10 := by lia
    generalize w % 10 = t at *
    clear b1 b2 c1 c2 a1 a2 e1 e2 f1 f2 f3 hk hw
    split <;> split <;> lia
  rw [key]
  generalize hN _ _ = z
  generalize v * 10 * 10 = y
  rw [← Nat.mul_assoc, Nat.mul_comm 10]
end
noncomputable section
open PySem.Spec
/-- with the sign of c -/
def sg (c : Int) (n : Nat) : Int := if c < 0 then -(n : Int) else (n : Int)
/-- c kept to d figures -/
def RS (c : Int) (d : Nat) : Int := sg c (rv c.natAbs d)
/-- the decimal's value, in units of 10 ^ -K -/
def V (K x e : Int) : Int := x * 10 ^ (e + K).toNat
theorem RS_mono {c c' : Int} {d : Nat} (hd : 1 ≤ d) (h : c ≤ c') : RS c d ≤ RS c' d := by
  unfold RS sg
  split <;> split
  · have := rv_mono (n := c'.natAbs) (n' := c.natAbs) hd (by lia)
    lia
  · lia
  · lia
  · have := rv_mono (n := c.natAbs) (n' := c'.natAbs) hd (by lia)
    lia
theorem neg_pow {c : Int} (k : Nat) : c * 10 ^ k < 0 ↔ c < 0 := by
  have hp := pow10_pos k
  constructor
  · intro h
    rcases Int.lt_or_le c 0 with q | q
    · exact q
    · exfalso; have := Int.mul_nonneg q (Int.le_of_lt hp); lia
  · intro h; exact Int.mul_neg_of_neg_of_pos h hp
theorem sg_mul {c : Int} {n m : Nat} : sg c (n * m) = sg c n * (m : Int) := by
  unfold sg; split
  · rw [Int.natCast_mul, Int.neg_mul]
  · rw [Int.natCast_mul]
theorem abs_pow {c : Int} (k : Nat) : (c * 10 ^ k).natAbs = c.natAbs * 10 ^ k := by rw [Int.natAbs_mul, Int.natAbs_pow]; rfl
theorem RS_pow {c : Int} {d : Nat} (hd : 1 ≤ d) (k : Nat) : RS (c * 10 ^ k) d = RS c d * 10 ^ k := by
  unfold RS
  rw [abs_pow, rv_mulP hd, pow_cast, ← sg_mul]
  unfold sg
  rw [← pow_cast]
  simp only [neg_pow]
theorem sg_abs (c : Int) : sg c c.natAbs = c := by unfold sg; split <;> lia
theorem RS_id {c : Int} {d : Nat} (h : c.natAbs < 1000) (hd : 3 ≤ d) : RS c d = c := by
  unfold RS
  rw [rv_small, sg_abs]
  rcases Nat.lt_or_ge d (figsN c.natAbs) with q | q
  · exfalso
    have h1 := figsN_lt q (by lia)
    have : 10 ^ 3 ≤ 10 ^ d := Nat.pow_le_pow_right (by decide) hd
    lia
  · exact q
theorem absI_nat (c : Int) : absI c = (c.natAbs : Int) := by unfold absI; split <;> omega
theorem half_nat (n u : Nat) (hu : 0 < u) : half (n : Int) (u : Int) = (hN n u : Int) := by
  unfold half hN
  rw [fmod_pos _ (by lia), fdiv_pos _ (by lia : (0 : Int) < u), ← Int.natCast_emod, ← Int.natCast_ediv, fmod_pos _ (by decide)]
  generalize n % u = r
  generalize n / u = q
  split <;> split <;> lia
theorem rb_half {n p : Int} (h : 0 < p) (h2 : p ≤ figs n + 1) : rb n p = half n (10 ^ p.toNat) := by
  unfold rb half; rw [if_neg (by lia), if_neg (by lia)]
theorem strip_val (n : Nat) : (stripN n).1 * 10 ^ (stripN n).2 = n := by
  induction n using Nat.strongRecOn with
  | ind n ih =>
    unfold stripN
    split
    · subst n; rfl
    · split
      · have h := ih (n / 10) (by lia)
        show (stripN (n / 10)).1 * 10 ^ ((stripN (n / 10)).2 + 1) = n
        rw [Nat.pow_succ, ← Nat.mul_assoc, h]; lia
      · simp
/-- what made keeps, with its exponent -/
theorem mkS_val {c e d K : Int} (hd : 1 ≤ d) (he : 0 ≤ e + K) : 0 ≤ mkS c d ∧ e ≤ mkP c e d ∧ mkS c d * 10 ^ (mkP c e d + K).toNat = (rv c.natAbs d.toNat : Int) * 10 ^ (e + K).toNat := by
  refine ⟨(mkS_bd c hd).1, by unfold mkP; split <;> lia, ?_⟩
  have hf : figs (absI c) = (figsN c.natAbs : Int) := by rw [absI_nat]; unfold figs; rw [Int.toNat_natCast]
  unfold mkS mkP
  split
  · rename_i h
    have hp := figs_pos (absI c)
    rw [rb_half (by lia) (by lia), rv_big (by lia)]
    have e1 : (figs (absI c) - d).toNat = figsN c.natAbs - d.toNat := by lia
    rw [e1, absI_nat, pow_cast, half_nat _ _ (p10 _), Int.natCast_mul, Int.mul_assoc, ← pow_cast, ← Int.pow_add]
    congr 2; rw [absI_nat] at hf; lia
  · rw [rv_small (by lia), absI_nat]
theorem mk_val {c e d K : Int} (hd : 1 ≤ d) (he : 0 ≤ e + K) : V K (mkX c d) (mkE c e d) = RS (V K c e) d.toNat := by
  have hv := mkS_val (c := c) hd he
  obtain ⟨h0, hP, hv⟩ := hv
  unfold V
  rw [RS_pow (by lia)]
  by_cases z : mkS c d = 0
  · have q : rv c.natAbs d.toNat = 0 := by
      rw [z, Int.zero_mul] at hv
      have := (Int.mul_eq_zero.mp hv.symm).resolve_right (pow10_ne _)
      lia
    unfold mkX RS; rw [if_pos z, q]; unfold sg; simp
  · unfold mkX mkE
    rw [if_neg z, if_neg z]
    have s : stripS (mkS c d) * 10 ^ (stripE (mkS c d) (mkP c e d) + K).toNat = (rv c.natAbs d.toNat : Int) * 10 ^ (e + K).toNat := by
      rw [← hv]
      unfold stripS stripE
      have e1 : (mkP c e d + ((stripN (mkS c d).toNat).2 : Int) + K).toNat = (stripN (mkS c d).toNat).2 + (mkP c e d + K).toNat := by lia
      rw [e1, Int.pow_add, ← Int.mul_assoc]
      congr 1
      rw [pow_cast, ← Int.natCast_mul, strip_val]; lia
    unfold RS sg
    split
    · rw [Int.neg_mul, s, Int.neg_mul]
    · exact s
theorem mkE_ge {c e d : Int} : e ≤ mkE c e d ∨ mkX c d = 0 ∧ mkE c e d = 0 := by
  unfold mkX mkE
  split
  · exact .inr ⟨rfl, rfl⟩
  · left
    unfold stripE mkP; split <;> lia
theorem tn {a b c : Int} (hb : 0 ≤ b) (hc : 0 ≤ c) (h : a = b + c) : a.toNat = b.toNat + c.toNat := by rw [h]; exact Int.toNat_add hb hc
theorem tn_shift {e q K : Int} (h : q ≤ e) (h2 : 0 ≤ q + K) : (e + K).toNat = (e - q).toNat + (q + K).toNat := tn (by omega) h2 (by omega)
theorem mn_ge {e1 e2 K : Int} (h1 : 0 ≤ e1 + K) (h2 : 0 ≤ e2 + K) : 0 ≤ mn e1 e2 + K := by
  rcases (mn_le e1 e2).2.2 with q | q <;> rw [q] <;> assumption
theorem le2_of {x1 e1 x2 e2 : Int} (K : Int) (h1 : 0 ≤ e1 + K) (h2 : 0 ≤ e2 + K) (h : V K x1 e1 ≤ V K x2 e2) : Le2 x1 e1 x2 e2 := by
  unfold Le2 sh
  have m := mn_le e1 e2
  unfold V at h
  have a1 := tn_shift m.1 (mn_ge h1 h2)
  have a2 := tn_shift m.2.1 (mn_ge h1 h2)
  rw [a1, a2, Int.pow_add, Int.pow_add, ← Int.mul_assoc, ← Int.mul_assoc] at h
  exact Int.le_of_mul_le_mul_right h (pow10_pos _)
theorem V_lift {x e K : Int} (K' : Int) (h : 0 ≤ e + K) (hk : K ≤ K') : V K' x e = V K x e * 10 ^ (K' - K).toNat := by
  unfold V
  rw [Int.mul_assoc, ← Int.pow_add, ← tn (a := e + K') h (by omega) (by omega)]
theorem V_le {x1 e1 x2 e2 K : Int} (K' : Int) (h1 : 0 ≤ e1 + K) (h2 : 0 ≤ e2 + K) (hk : K ≤ K') (h : V K x1 e1 ≤ V K x2 e2) : V K' x1 e1 ≤ V K' x2 e2 := by
  rw [V_lift K' h1 hk, V_lift K' h2 hk]
  exact Int.mul_le_mul_of_nonneg_right h (Int.le_of_lt (pow10_pos _))
theorem mk_le {c1 e1 c2 e2 d : Int} (K : Int) (hd : 1 ≤ d) (hK : 0 ≤ K) (h1 : 0 ≤ e1 + K) (h2 : 0 ≤ e2 + K) (h : RS (V K c1 e1) d.toNat ≤ RS (V K c2 e2) d.toNat) :
    Le2 (mkX c1 d) (mkE c1 e1 d) (mkX c2 d) (mkE c2 e2 d) := by
  have g1 := mkE_ge (c := c1) (e := e1) (d := d)
  have g2 := mkE_ge (c := c2) (e := e2) (d := d)
  refine le2_of K (by lia) (by lia) ?_
  rw [mk_val hd h1, mk_val hd h2]
  exact h
theorem Dealt.V7 {x1 e1 x2 e2 : Int} (h1 : Dealt x1 e1) (h2 : Dealt x2 e2) (hl : Ex2 x1 e1 x2 e2) (K : Int) (hK : 7 ≤ K) : V K x1 e1 ≤ V K x2 e2 :=
  V_le (K := 7) K (by have := h1.e7; lia) (by have := h2.e7; lia) hK hl

section
variable {x1 e1 x2 e2 x3 e3 d p : Int}
theorem V_neg {K x e : Int} : V K (0 - x) e = - V K x e := by unfold V; rw [Int.sub_mul, Int.zero_mul, Int.zero_sub]
theorem V_add {K : Int} (h1 : 0 ≤ e1 + K) (h3 : 0 ≤ e3 + K) : V K (sh x1 e1 (mn e1 e3) + sh x3 e3 (mn e1 e3)) (mn e1 e3) = V K x1 e1 + V K x3 e3 := by
  have m := mn_le e1 e3
  have a1 := tn_shift m.1 (mn_ge h1 h3)
  have a3 := tn_shift m.2.1 (mn_ge h1 h3)
  unfold V sh
  rw [a1, a3, Int.pow_add, Int.pow_add, ← Int.mul_assoc, ← Int.mul_assoc, Int.add_mul]
theorem V_mul {K : Int} (h1 : 0 ≤ e1 + K) (h3 : 0 ≤ e3 + K) : V (2 * K) (x1 * x3) (e1 + e3) = V K x1 e1 * V K x3 e3 := by
  unfold V
  have : (e1 + e3 + 2 * K).toNat = (e1 + K).toNat + (e3 + K).toNat := tn h1 h3 (by omega)
  rw [this, Int.pow_add, Int.mul_assoc, Int.mul_assoc, Int.mul_left_comm x3]
theorem V_nonneg {K x e : Int} (h : 0 ≤ x) : 0 ≤ V K x e := Int.mul_nonneg h (Int.le_of_lt (pow10_pos _))

theorem add_le {K y1 f1 y2 f2 y3 f3 y4 f4 : Int} (hd : 1 ≤ d) (hK : 0 ≤ K) (h1 : 0 ≤ f1 + K) (h2 : 0 ≤ f2 + K) (h3 : 0 ≤ f3 + K) (h4 : 0 ≤ f4 + K) (h : V K y1 f1 + V K y2 f2 ≤ V K y3 f3 + V K y4 f4) :
    Le2 (mkX (sh y1 f1 (mn f1 f2) + sh y2 f2 (mn f1 f2)) d) (mkE (sh y1 f1 (mn f1 f2) + sh y2 f2 (mn f1 f2)) (mn f1 f2) d) (mkX (sh y3 f3 (mn f3 f4) + sh y4 f4 (mn f3 f4)) d) (mkE (sh y3 f3 (mn f3 f4) + sh y4 f4 (mn f3 f4)) (mn f3 f4) d) := by
  have m1 := mn_le f1 f2
  have m2 := mn_le f3 f4
  refine mk_le K hd hK (by lia) (by lia) (RS_mono (by lia) ?_)
  rw [V_add h1 h2, V_add h3 h4]; exact h
abbrev adC (x1 e1 x2 e2 : Int) : Int := sh x1 e1 (mn e1 e2) + sh x2 e2 (mn e1 e2)
theorem mono_add (h1 : Dealt x1 e1) (h2 : Dealt x2 e2) (h3 : Dealt x3 e3) (hl : Ex2 x1 e1 x2 e2) (hd1 : 3 ≤ d) (hd2 : d ≤ 5) :
    Le2 (mkX (adC x1 e1 x3 e3) d) (mkE (adC x1 e1 x3 e3) (mn e1 e3) d) (mkX (adC x2 e2 x3 e3) d) (mkE (adC x2 e2 x3 e3) (mn e2 e3) d) := by
  have k1 := h1.e7; have k2 := h2.e7; have k3 := h3.e7
  have v := h1.V7 h2 hl 7 (by lia)
  exact add_le (K := 7) (by lia) (by lia) (by lia) (by lia) (by lia) (by lia) (by lia)
theorem mono_sub1 (h1 : Dealt x1 e1) (h2 : Dealt x2 e2) (h3 : Dealt x3 e3) (hl : Ex2 x1 e1 x2 e2) (hd1 : 3 ≤ d) (hd2 : d ≤ 5) :
    Le2 (mkX (adC x1 e1 (0 - x3) e3) d) (mkE (adC x1 e1 (0 - x3) e3) (mn e1 e3) d) (mkX (adC x2 e2 (0 - x3) e3) d) (mkE (adC x2 e2 (0 - x3) e3) (mn e2 e3) d) :=
  mono_add h1 h2 h3.neg hl hd1 hd2
theorem mono_sub2 (h1 : Dealt x1 e1) (h2 : Dealt x2 e2) (h3 : Dealt x3 e3) (hl : Ex2 x1 e1 x2 e2) (hd1 : 3 ≤ d) (hd2 : d ≤ 5) :
    Le2 (mkX (adC x3 e3 (0 - x2) e2) d) (mkE (adC x3 e3 (0 - x2) e2) (mn e3 e2) d) (mkX (adC x3 e3 (0 - x1) e1) d) (mkE (adC x3 e3 (0 - x1) e1) (mn e3 e1) d) := by
  have k1 := h1.e7; have k2 := h2.e7; have k3 := h3.e7
  have v := h1.V7 h2 hl 7 (by lia)
  refine add_le (K := 7) (by lia) (by lia) (by lia) (by lia) (by lia) (by lia) ?_
  rw [V_neg, V_neg]; lia
theorem mono_mul (h1 : Dealt x1 e1) (h2 : Dealt x2 e2) (h3 : Dealt x3 e3) (hl : Ex2 x1 e1 x2 e2) (h0 : 0 ≤ x3) (hd1 : 3 ≤ d) (hd2 : d ≤ 5) :
    Le2 (mkX (x1 * x3) d) (mkE (x1 * x3) (e1 + e3) d) (mkX (x2 * x3) d) (mkE (x2 * x3) (e2 + e3) d) := by
  have k1 := h1.e7; have k2 := h2.e7; have k3 := h3.e7
  have v := h1.V7 h2 hl 7 (by lia)
  refine mk_le (2 * 7) (by lia) (by lia) (by lia) (by lia) (RS_mono (by lia) ?_)
  rw [V_mul (by lia) (by lia), V_mul (by lia) (by lia)]
  exact Int.mul_le_mul_of_nonneg_right v (V_nonneg h0)
theorem ex_nonneg (h1 : Dealt x1 e1) (h2 : Dealt x2 e2) (hl : Ex2 x1 e1 x2 e2) (h0 : 0 ≤ x1) : 0 ≤ x2 := by
  have v := h1.V7 h2 hl 7 (by lia)
  have := V_nonneg (K := 7) (e := e1) h0
  rcases Int.lt_or_le x2 0 with q | q
  · exfalso
    have : V 7 x2 e2 < 0 := (neg_pow _).mpr q
    lia
  · exact q
theorem wh_again (_h : Dealt x1 e1) : 0 ≤ whE x1 e1 d := by
  unfold whE
  split
  · have := mkE_ge (c := flo x1 e1) (e := 0) (d := d); lia
  · lia
theorem rd_again (_h : Dealt x1 e1) : 0 - p - rdE x1 e1 p d ≤ 0 ∨ rdX x1 e1 p d = 0 := by
  unfold rdE rdX
  by_cases q : 0 - p - e1 ≤ 0 ∨ x1 = 0
  · rw [if_pos q, if_pos q]; exact q
  · rw [if_neg q, if_neg q]
    by_cases q2 : rdF x1 (0 - p - e1) = 0
    · rw [if_pos q2, if_pos q2]; exact .inr rfl
    · rw [if_neg q2, if_neg q2]
      have := mkE_ge (c := rdC x1 (0 - p - e1)) (e := e1 + (0 - p - e1)) (d := d)
      omega
end
end
noncomputable section
open PySem.Spec
theorem sg_mono {c c' : Int} {n n' : Nat} (h : c ≤ c') (h1 : c' < 0 → n' ≤ n) (h2 : 0 ≤ c → n ≤ n') : sg c n ≤ sg c' n' := by
  unfold sg
  split <;> split <;> lia
section
variable {x1 e1 x2 e2 x3 e3 x e d p : Int}

-- whole numbers
theorem flo_V7 (he : 0 ≤ e + 7) : flo x e = V 7 x e / 10 ^ 7 := by
  unfold flo V
  split
  · have : (e + 7).toNat = e.toNat + 7 := tn (by omega) (by decide) rfl
    rw [this, Int.pow_add, ← Int.mul_assoc, Int.mul_ediv_cancel _ (by decide)]
  · rw [fdiv_pos _ (pow10_pos _)]
    have : (10 : Int) ^ 7 = 10 ^ (0 - e).toNat * 10 ^ (e + 7).toNat := by
      rw [← Int.pow_add]; congr 1; lia
    rw [this, Int.mul_ediv_mul_of_pos_left _ _ (pow10_pos _)]
theorem flo_abs (h : Dealt x e) (he : e < 0) : (flo x e).natAbs < 1000 := by
  unfold flo
  rw [if_neg (by omega), fdiv_pos _ (pow10_pos _)]
  have := Int.natAbs_ediv_le_natAbs x (10 ^ (0 - e).toNat)
  obtain ⟨a1, a2, _⟩ := h
  omega
theorem wh_val (h : Dealt x e) (hd : 3 ≤ d) : V 7 (whX x e d) (whE x e d) = flo x e * 10 ^ 7 := by
  unfold whX whE
  by_cases he : e < 0
  · rw [if_pos he, if_pos he, mk_val (by lia) (by lia)]
    unfold V
    rw [RS_pow (by lia), RS_id (flo_abs h he) (by lia)]
    rfl
  · rw [if_neg he, if_neg he]
    unfold V flo
    rw [if_pos (by lia)]
    have : (e + 7).toNat = e.toNat + 7 := tn (by omega) (by decide) rfl
    rw [this, Int.pow_add, ← Int.mul_assoc]
theorem mono_wh (h1 : Dealt x1 e1) (h2 : Dealt x2 e2) (hl : Ex2 x1 e1 x2 e2) (hd1 : 3 ≤ d) (hd2 : d ≤ 5) :
    Le2 (whX x1 e1 d) (whE x1 e1 d) (whX x2 e2 d) (whE x2 e2 d) := by
  have k1 := h1.e7; have k2 := h2.e7
  have g1 := wh_again (d := d) h1
  have g2 := wh_again (d := d) h2
  refine le2_of 7 (by lia) (by lia) ?_
  rw [wh_val h1 hd1, wh_val h2 hd1, flo_V7 (by lia), flo_V7 (by lia)]
  exact Int.mul_le_mul_of_nonneg_right (Int.ediv_le_ediv (by decide) (h1.V7 h2 hl 7 (by lia))) (by decide)

-- rounding to places
theorem absI_small (h : Dealt x e) : x.natAbs < 1000 := by obtain ⟨a1, a2, _⟩ := h; omega
theorem abs_V {K : Int} : (V K x e).natAbs = x.natAbs * 10 ^ (e + K).toNat := abs_pow _
theorem sg_V {K : Int} (n : Nat) : sg (V K x e) n = sg x n := by unfold sg V; simp only [neg_pow]
theorem rdF_hN {more : Int} (hm : 0 < more) : rdF x more = (hN x.natAbs (10 ^ more.toNat) : Int) := by
  unfold rdF
  rw [absI_nat, pow_cast, half_nat _ _ (p10 _)]
  have f : figs (absI x) = (figsN x.natAbs : Int) := by rw [absI_nat]; unfold figs; rw [Int.toNat_natCast]
  have s := (figsN_spec x.natAbs).1
  have hs : ∀ k, figsN x.natAbs + 1 ≤ k → hN x.natAbs (10 ^ k) = 0 := fun k hk => hN_small (by
    have h1 : 10 ^ (figsN x.natAbs + 1) ≤ 10 ^ k := Nat.pow_le_pow_right (by decide) hk
    rw [Nat.pow_succ] at h1; lia)
  unfold rdM mn
  split
  · rename_i h
    rw [hs _ (by lia), hs _ (by lia)]
  · rfl
theorem rd_val (h : Dealt x e) (hp1 : -2 ≤ p) (hp2 : p ≤ 2) (hd : 3 ≤ d) : V 7 (rdX x e p d) (rdE x e p d) = sg (V 7 x e) (hN (V 7 x e).natAbs (10 ^ (7 - p).toNat) * 10 ^ (7 - p).toNat) := by
  have k := h.e7
  rw [sg_V, abs_V]
  unfold rdX rdE
  by_cases q : 0 - p - e ≤ 0 ∨ x = 0
  · rw [if_pos q, if_pos q]
    rcases q with q | q
    · have e1 : (e + 7).toNat = (e + p).toNat + (7 - p).toNat := tn (by omega) (by omega) (by omega)
      rw [e1, Nat.pow_add, ← Nat.mul_assoc, hN_whole (p10 _)]
      rw [Nat.mul_assoc, ← Nat.pow_add, ← e1, sg_mul, sg_abs, ← pow_cast]; rfl
    · subst q
      have : hN (Int.natAbs 0 * 10 ^ (e + 7).toNat) (10 ^ (7 - p).toNat) = 0 := by
        rw [Int.natAbs_zero, Nat.zero_mul]; exact hN_small (by have := p10 (7 - p).toNat; lia)
      rw [this]; unfold V sg; simp
  · rw [if_neg q, if_neg q]
    have q1 : 0 < 0 - p - e := by lia
    have e1 : (7 - p).toNat = (0 - p - e).toNat + (e + 7).toNat := tn (by omega) (by omega) (by omega)
    have hs : hN (x.natAbs * 10 ^ (e + 7).toNat) (10 ^ (7 - p).toNat) = hN x.natAbs (10 ^ (0 - p - e).toNat) := by
      rw [e1, Nat.pow_add, Nat.mul_comm _ (10 ^ (e + 7).toNat), Nat.mul_comm (10 ^ (0 - p - e).toNat), hN_scale (p10 _)]
    rw [hs]
    have r := rdF_hN (x := x) q1
    generalize hN x.natAbs (10 ^ (0 - p - e).toNat) = f at *
    by_cases q2 : rdF x (0 - p - e) = 0
    · rw [if_pos q2, if_pos q2]
      have : f = 0 := by lia
      subst this
      unfold V sg; simp
    · rw [if_neg q2, if_neg q2]
      have hb := rdf_bd (more := 0 - p - e) (f := rdF x (0 - p - e)) h (by
        unfold RdF rdF half; split
        · exact .inr rfl
        · exact .inl rfl)
      have hc : rdC x (0 - p - e) = sg x f := by
        unfold rdC sg; rw [r]
        split <;> split <;> lia
      rw [mk_val (by lia) (by lia), hc]
      unfold V
      rw [RS_pow (by lia), RS_id (by unfold sg; split <;> lia) (by lia), sg_mul, ← pow_cast]
      congr 3; lia
theorem rd_e7 (h : Dealt x e) (hp2 : p ≤ 2) : 0 ≤ rdE x e p d + 7 := by
  have k := h.e7
  unfold rdE
  split
  · omega
  · split
    · omega
    · have := mkE_ge (c := rdC x (0 - p - e)) (e := e + (0 - p - e)) (d := d)
      omega
theorem mono_rd (h1 : Dealt x1 e1) (h2 : Dealt x2 e2) (hl : Ex2 x1 e1 x2 e2) (hp1 : -2 ≤ p) (hp2 : p ≤ 2) (hd1 : 3 ≤ d) (hd2 : d ≤ 5) :
    Le2 (rdX x1 e1 p d) (rdE x1 e1 p d) (rdX x2 e2 p d) (rdE x2 e2 p d) := by
  refine le2_of 7 (rd_e7 h1 hp2) (rd_e7 h2 hp2) ?_
  rw [rd_val h1 hp1 hp2 hd1, rd_val h2 hp1 hp2 hd1]
  have v := h1.V7 h2 hl 7 (by lia)
  exact sg_mono v (fun h => Nat.mul_le_mul_right _ (hN_mono (by lia))) (fun h => Nat.mul_le_mul_right _ (hN_mono (by lia)))

-- quotients
/-- the quotient with a figure for the rest -/
def stD (D N : Nat) : Nat := 10 * (N / D) + (if N % D = 0 then 0 else 1)
theorem stD_mono {D N N' : Nat} (h : N ≤ N') : stD D N ≤ stD D N' := by
  have h1 := Nat.div_le_div_right (c := D) h
  have a1 := Nat.div_add_mod N D
  have a2 := Nat.div_add_mod N' D
  unfold stD
  rcases Nat.lt_or_ge (N / D) (N' / D) with q | q
  · split <;> split <;> lia
  · have q' : N / D = N' / D := Nat.le_antisymm h1 q
    rw [q'] at a1
    split <;> split <;> lia
theorem stD_10 {D N d : Nat} (hD : 0 < D) (hd : 1 ≤ d) (h : d < figsN (N / D)) : rv (stD D (10 * N)) d = 10 * rv (stD D N) d := by
  have hq : 10 * N / D / 10 = N / D := by
    rw [Nat.div_div_eq_div_mul, Nat.mul_comm D 10, Nat.mul_div_mul_left _ _ (by decide)]
  have b1 : (if 10 * N % D = 0 then 0 else 1) ≤ 1 := by split <;> lia
  have b2 : (if N % D = 0 then 0 else 1) ≤ 1 := by split <;> lia
  have key := rv_sticky (w := 10 * N / D) (s := if N % D = 0 then 0 else 1) (s' := if 10 * N % D = 0 then 0 else 1) (d := d) hd (by rw [hq]; exact h) b2 b1 (by
    have a1 := Nat.div_add_mod N D
    have a2 := Nat.div_add_mod (10 * N) D
    have a3 := Nat.div_add_mod (10 * N / D) 10
    have l1 := Nat.mod_lt N hD
    rw [hq] at a3
    constructor
    · intro h0
      have z : N % D = 0 := by
        by_cases z : N % D = 0
        · exact z
        · rw [if_neg z] at h0; lia
      have e : 10 * N = D * (10 * (N / D)) := by
        rw [Nat.mul_left_comm]; congr 1; lia
      have e1 : 10 * N / D = 10 * (N / D) := by rw [e, Nat.mul_div_cancel_left _ hD]
      have e2 : 10 * N % D = 0 := by rw [e]; exact Nat.mul_mod_right _ _
      rw [e2, e1]; simp
    · rintro ⟨z1, z2⟩
      have z3 : 10 * N % D = 0 := by
        by_cases z : 10 * N % D = 0
        · exact z
        · rw [if_neg z] at z2; lia
      have e1 : 10 * N / D = 10 * (N / D) := by lia
      rw [e1, z3, Nat.add_zero, Nat.mul_left_comm] at a2
      have : D * (N / D) = N := by lia
      rw [if_pos (by lia)])
  rw [hq] at key
  exact key
theorem stD_P {D N d : Nat} (hD : 0 < D) (hd : 1 ≤ d) (h : d < figsN (N / D)) (k : Nat) : rv (stD D (N * 10 ^ k)) d = rv (stD D N) d * 10 ^ k := by
  induction k with
  | zero => simp
  | succ k ih =>
    have g : d < figsN (N * 10 ^ k / D) := by
      have : N ≤ N * 10 ^ k := Nat.le_mul_of_pos_right _ (p10 _)
      have := figsN_mono (Nat.div_le_div_right (c := D) this)
      lia
    rw [Nat.pow_succ, ← Nat.mul_assoc, Nat.mul_comm _ 10, stD_10 hD hd g, ih, Nat.mul_comm 10, Nat.mul_assoc]
theorem stD_0 {D : Nat} : stD D 0 = 0 := by unfold stD; simp
theorem wr_V {q r e K : Int} (he : 0 ≤ e - 1 + K) : V K (wrW q r) (wrE r e) = (10 * q + (if r = 0 then 0 else 1)) * 10 ^ (e - 1 + K).toNat := by
  unfold V wrW wrE
  split
  · have : (e + K).toNat = 1 + (e - 1 + K).toNat := tn (b := 1) (by decide) he (by omega)
    rw [this, Int.pow_add, ← Int.mul_assoc, Int.add_zero]
    congr 1; lia
  · congr 1; lia
theorem V_sub0 {K x e : Int} : V K (0 - x) e = - V K x e := V_neg
theorem RS_nat {n d : Nat} : RS (n : Int) d = (rv n d : Int) := by unfold RS sg; rw [if_neg (by lia), Int.natAbs_natCast]
theorem RS_neg {n d : Nat} (hd : 1 ≤ d) : RS (-(n : Int)) d = -(rv n d : Int) := by
  unfold RS sg
  rw [Int.natAbs_neg, Int.natAbs_natCast]
  split
  · rfl
  · have : n = 0 := by lia
    subst this
    have : figsN 0 = 1 := by rw [figsN, if_pos (by decide)]
    rw [rv_small (by lia)]; rfl
theorem mx0_ge (t : Int) : 0 ≤ mx0 t ∧ t ≤ mx0 t := by unfold mx0; split <;> lia
theorem dv_figs (h0 : 0 < x3) (hx : x ≠ 0) (hd : 1 ≤ d) : d.toNat < figsN (x.natAbs * 10 ^ (dvP x x3 d).toNat / x3.toNat) := by
  have f1 : figs (absI x) = (figsN x.natAbs : Int) := by rw [absI_nat]; unfold figs; rw [Int.toNat_natCast]
  have f3 : figs (absI x3) = (figsN x3.toNat : Int) := by
    have : absI x3 = x3 := by unfold absI; rw [if_neg (by lia)]
    rw [this]; rfl
  have hm := mx0_ge (figs (absI x3) - figs (absI x))
  have hP : dvP x x3 d = d + 2 + mx0 (figs (absI x3) - figs (absI x)) := rfl
  have s3 := (figsN_spec x3.toNat).1
  have sx : 10 ^ (figsN x.natAbs - 1) ≤ x.natAbs := by
    rcases (figsN_spec x.natAbs).2 with s | s
    · rw [s]; show 1 ≤ _; lia
    · exact s
  have px := figsN_pos x.natAbs
  apply figsN_ge
  rw [Nat.le_div_iff_mul_le (by lia)]
  have h1 : 10 ^ d.toNat * x3.toNat ≤ 10 ^ d.toNat * 10 ^ figsN x3.toNat := Nat.mul_le_mul_left _ (by lia)
  have h2 : 10 ^ (figsN x.natAbs - 1) * 10 ^ (dvP x x3 d).toNat ≤ x.natAbs * 10 ^ (dvP x x3 d).toNat := Nat.mul_le_mul_right _ sx
  rw [← Nat.pow_add] at h1 h2
  have h3 : 10 ^ (d.toNat + figsN x3.toNat) ≤ 10 ^ (figsN x.natAbs - 1 + (dvP x x3 d).toNat) := Nat.pow_le_pow_right (by decide) (by lia)
  lia
/-- the quotient by D, kept to d figures, as the value alone gives it -/
def FD (D d : Nat) (X : Int) : Int := sg X (rv (stD D X.natAbs) d)
theorem FD_mono {D d : Nat} {X Y : Int} (hd : 1 ≤ d) (h : X ≤ Y) : FD D d X ≤ FD D d Y :=
  sg_mono h (fun _ => rv_mono hd (stD_mono (by lia))) (fun _ => rv_mono hd (stD_mono (by lia)))
theorem dv_val {K : Int} (h0 : 0 < x3) (hd : 1 ≤ d) (hK : 0 ≤ e - e3 - dvP x x3 d - 1 + K) (hK2 : 0 ≤ dvP x x3 d) : RS (V K (dvC x x3 d) (dvE x e x3 e3 d)) d.toNat = FD x3.toNat d.toNat (V (K - 1 - e3) x e) := by
  have ax : absI x3 = (x3.toNat : Int) := by unfold absI; rw [if_neg (by omega)]; omega
  have hD : 0 < x3.toNat := by omega
  have hS : dvS x x3 d = ((x.natAbs * 10 ^ (dvP x x3 d).toNat : Nat) : Int) := by
    unfold dvS; rw [absI_nat, pow_cast, ← Int.natCast_mul]
  have hq : (dvS x x3 d).fdiv (absI x3) = ((x.natAbs * 10 ^ (dvP x x3 d).toNat / x3.toNat : Nat) : Int) := by
    rw [fdiv_pos _ (by omega), hS, ax, ← Int.natCast_ediv]
  have hr : (dvS x x3 d).fmod (absI x3) = ((x.natAbs * 10 ^ (dvP x x3 d).toNat % x3.toNat : Nat) : Int) := by
    rw [fmod_pos _ (by omega), hS, ax, ← Int.natCast_emod]
  have hV : V K (dvW x x3 d) (dvE x e x3 e3 d) = (stD x3.toNat (x.natAbs * 10 ^ (dvP x x3 d).toNat) : Int) * 10 ^ (e - e3 - dvP x x3 d - 1 + K).toNat := by
    unfold dvW dvE
    rw [wr_V (by omega), hq, hr]
    congr 1
    unfold stD
    by_cases z : x.natAbs * 10 ^ (dvP x x3 d).toNat % x3.toNat = 0
    · rw [z]; simp
    · rw [if_neg z, if_neg (by omega)]; simp
  have hab : (V (K - 1 - e3) x e).natAbs = x.natAbs * 10 ^ (dvP x x3 d).toNat * 10 ^ (e - e3 - dvP x x3 d - 1 + K).toNat := by
    rw [abs_V, Nat.mul_assoc, ← Nat.pow_add, ← tn (a := e + (K - 1 - e3)) hK2 hK (by omega)]
  have hst : rv (stD x3.toNat (x.natAbs * 10 ^ (dvP x x3 d).toNat * 10 ^ (e - e3 - dvP x x3 d - 1 + K).toNat)) d.toNat = rv (stD x3.toNat (x.natAbs * 10 ^ (dvP x x3 d).toNat)) d.toNat * 10 ^ (e - e3 - dvP x x3 d - 1 + K).toNat := by
    by_cases z : x = 0
    · have : x.natAbs = 0 := by omega
      rw [this, Nat.zero_mul, Nat.zero_mul, stD_0]
      have f : figsN 0 = 1 := by rw [figsN, if_pos (by decide)]
      rw [rv_small (by omega), Nat.zero_mul]
    · exact stD_P hD (by omega) (dv_figs h0 z hd) _
  unfold FD
  rw [sg_V, hab, hst]
  unfold dvC
  have hx3 : decide (x3 < 0) = false := decide_eq_false (by omega)
  rw [hx3]
  by_cases z : x < 0
  · rw [if_neg (by rw [decide_eq_true z]; decide), V_sub0, hV, ← Int.neg_mul, RS_pow (by omega), RS_neg (by omega)]
    unfold sg; rw [if_pos z, Int.natCast_mul, ← pow_cast, Int.neg_mul]
  · rw [if_pos (decide_eq_false z), hV, RS_pow (by omega), RS_nat]
    unfold sg; rw [if_neg z, Int.natCast_mul, ← pow_cast]
theorem mono_div (h1 : Dealt x1 e1) (h2 : Dealt x2 e2) (h3 : Dealt x3 e3) (hl : Ex2 x1 e1 x2 e2) (h0 : 0 < x3) (hd1 : 3 ≤ d) (hd2 : d ≤ 5) :
    Le2 (mkX (dvC x1 x3 d) d) (mkE (dvC x1 x3 d) (dvE x1 e1 x3 e3 d) d) (mkX (dvC x2 x3 d) d) (mkE (dvC x2 x3 d) (dvE x2 e2 x3 e3 d) d) := by
  have b1 := dv_bd h1 h3 (by omega) (by omega) hd2
  have b2 := dv_bd h2 h3 (by omega) (by omega) hd2
  have hP : ∀ {x e}, Dealt x e → 0 ≤ dvP x x3 d ∧ dvP x x3 d ≤ 9 := fun {x e} h => by
    have f1 := figs_pos (absI x)
    have f3 := figs_dealt h3
    have hm := mx0_bd (t := figs (absI x3) - figs (absI x)) (by omega)
    show 0 ≤ d + 2 + mx0 _ ∧ d + 2 + mx0 _ ≤ 9
    omega
  have p1 := hP h1
  have p2 := hP h2
  obtain ⟨_, _, c1, c2⟩ := h3
  have q1 := h1.2.2; have q2 := h2.2.2
  refine mk_le 40 (by omega) (by omega) (by omega) (by omega) ?_
  rw [dv_val h0 (by omega) (by omega) (by omega), dv_val h0 (by omega) (by omega) (by omega)]
  exact FD_mono (by omega) (h1.V7 h2 hl _ (by omega))

-- roots
/-- the root with a figure for the rest -/
def stR (n : Nat) : Nat := 10 * isqN n + (if n - isqN n * isqN n = 0 then 0 else 1)
theorem isqN_mono {n n' : Nat} (h : n ≤ n') : isqN n ≤ isqN n' := by
  have s := isqN_spec n
  have s' := isqN_spec n'
  rcases Nat.lt_or_ge (isqN n') (isqN n) with q | q
  · exfalso
    have : (isqN n' + 1) * (isqN n' + 1) ≤ isqN n * isqN n := Nat.mul_le_mul q q
    omega
  · exact q
theorem stR_mono {n n' : Nat} (h : n ≤ n') : stR n ≤ stR n' := by
  have m := isqN_mono h
  unfold stR
  rcases Nat.lt_or_ge (isqN n) (isqN n') with q | q
  · split <;> split <;> lia
  · have e : isqN n = isqN n' := Nat.le_antisymm m q
    rw [e]
    split <;> split <;> lia
theorem isqN_100 (n : Nat) : isqN (100 * n) / 10 = isqN n := by
  have s := isqN_spec (100 * n)
  apply (isqN_unique ?_ ?_).symm
  · have h : isqN (100 * n) / 10 * 10 ≤ isqN (100 * n) := Nat.div_mul_le_self _ _
    have h2 := Nat.mul_le_mul h h
    generalize isqN (100 * n) / 10 = a at *
    have : a * 10 * (a * 10) = 100 * (a * a) := by
      rw [Nat.mul_mul_mul_comm]; lia
    lia
  · have h : isqN (100 * n) + 1 ≤ (isqN (100 * n) / 10 + 1) * 10 := by lia
    have h2 := Nat.mul_le_mul h h
    generalize isqN (100 * n) / 10 + 1 = a at *
    have : a * 10 * (a * 10) = 100 * (a * a) := by
      rw [Nat.mul_mul_mul_comm]; lia
    lia
theorem stR_100 {n d : Nat} (hd : 1 ≤ d) (h : d < figsN (isqN n)) : rv (stR (100 * n)) d = 10 * rv (stR n) d := by
  have hq := isqN_100 n
  have b1 : (if 100 * n - isqN (100 * n) * isqN (100 * n) = 0 then 0 else 1) ≤ 1 := by split <;> lia
  have b2 : (if n - isqN n * isqN n = 0 then 0 else 1) ≤ 1 := by split <;> lia
  have key := rv_sticky (w := isqN (100 * n)) (s := if n - isqN n * isqN n = 0 then 0 else 1) (s' := if 100 * n - isqN (100 * n) * isqN (100 * n) = 0 then 0 else 1) (d := d) hd (by rw [hq]; exact h) b2 b1 (by
    have s := (isqN_spec n).1
    have s' := (isqN_spec (100 * n)).1
    have a3 := Nat.div_add_mod (isqN (100 * n)) 10
    rw [hq] at a3
    have sq : 10 * isqN n * (10 * isqN n) = 100 * (isqN n * isqN n) := by rw [Nat.mul_mul_mul_comm]
    constructor
    · intro h0
      have z : n - isqN n * isqN n = 0 := by
        by_cases z : n - isqN n * isqN n = 0
        · exact z
        · rw [if_neg z] at h0; lia
      have e : isqN (100 * n) = 10 * isqN n := by
        apply isqN_unique
        · rw [sq]; lia
        · have : (10 * isqN n + 1) * (10 * isqN n + 1) = 10 * isqN n * (10 * isqN n) + 2 * (10 * isqN n) + 1 := by rw [Nat.add_mul, Nat.mul_add]; lia
          lia
      rw [e, sq, if_pos (by lia)]
      lia
    · rintro ⟨z1, z2⟩
      have z3 : 100 * n - isqN (100 * n) * isqN (100 * n) = 0 := by
        by_cases z : 100 * n - isqN (100 * n) * isqN (100 * n) = 0
        · exact z
        · rw [if_neg z] at z2; lia
      have e1 : isqN (100 * n) = 10 * isqN n := by lia
      rw [e1, sq] at z3
      rw [if_pos (by lia)])
  rw [hq] at key
  exact key
theorem stR_P {n d : Nat} (hd : 1 ≤ d) (h : d < figsN (isqN n)) (k : Nat) : rv (stR (n * 10 ^ (2 * k))) d = rv (stR n) d * 10 ^ k := by
  induction k with
  | zero => simp
  | succ k ih =>
    have g : d < figsN (isqN (n * 10 ^ (2 * k))) := by
      have : n ≤ n * 10 ^ (2 * k) := Nat.le_mul_of_pos_right _ (p10 _)
      have := figsN_mono (isqN_mono this)
      lia
    have e : n * 10 ^ (2 * (k + 1)) = 100 * (n * 10 ^ (2 * k)) := by
      have : 2 * (k + 1) = 2 * k + 2 := by lia
      rw [this, Nat.pow_add, ← Nat.mul_assoc, Nat.mul_comm]
    rw [e, stR_100 hd g, ih, Nat.pow_succ, Nat.mul_comm 10, Nat.mul_assoc]
theorem rtP_par (e d : Int) : (e - rtP e d) % 2 = 0 := by
  unfold rtP
  split
  · rename_i h; rw [fmod_pos _ (by decide)] at h; lia
  · rename_i h
    have h : (e - (2 * d + 4)).fmod 2 = 0 := by
      by_cases z : (e - (2 * d + 4)).fmod 2 = 0
      · exact z
      · exact absurd z h
    rw [fmod_pos _ (by decide)] at h; lia
theorem rtP_ge (e d : Int) : 2 * d + 4 ≤ rtP e d ∧ rtP e d ≤ 2 * d + 5 := by unfold rtP; split <;> lia
/-- the root, kept to d figures, as the value alone gives it -/
def FR (d : Nat) (X : Int) : Int := (rv (stR X.toNat) d : Int)
theorem rt_val {K P : Int} (h0 : 0 ≤ x) (hd : 1 ≤ d) (hP : 2 * d + 4 ≤ P) (hpar : (e - P) % 2 = 0) (hK : 0 ≤ (e - P) / 2 - 1 + K) : RS (V K (rtW x P) (rtE x e P)) d.toNat = FR d.toNat (V (2 * K - 2) x e) := by
  have hS : rtS x P = ((x.toNat * 10 ^ P.toNat : Nat) : Int) := by
    unfold rtS; rw [Int.natCast_mul, pow_cast]; congr 1; lia
  have hi : isq (rtS x P) = (isqN (x.toNat * 10 ^ P.toNat) : Int) := by
    unfold isq; rw [hS, Int.toNat_natCast]
  have hr : rtS x P - isq (rtS x P) * isq (rtS x P) = ((x.toNat * 10 ^ P.toNat - isqN (x.toNat * 10 ^ P.toNat) * isqN (x.toNat * 10 ^ P.toNat) : Nat) : Int) := by
    rw [hi, hS, ← Int.natCast_mul]
    have := (isqN_spec (x.toNat * 10 ^ P.toNat)).1
    lia
  have hV : V K (rtW x P) (rtE x e P) = (stR (x.toNat * 10 ^ P.toNat) : Int) * 10 ^ ((e - P) / 2 - 1 + K).toNat := by
    unfold rtW rtE
    rw [fdiv_pos _ (by decide), wr_V (by lia), hr, hi]
    congr 1
    unfold stR
    generalize isqN (x.toNat * 10 ^ P.toNat) = w
    generalize x.toNat * 10 ^ P.toNat - w * w = r
    by_cases z : r = 0
    · rw [z]; simp
    · rw [if_neg z, if_neg (by lia)]; simp
  have hX : (V (2 * K - 2) x e).toNat = x.toNat * 10 ^ P.toNat * 10 ^ (2 * ((e - P) / 2 - 1 + K).toNat) := by
    have hx : V (2 * K - 2) x e = ((x.toNat * 10 ^ (e + (2 * K - 2)).toNat : Nat) : Int) := by
      unfold V; rw [Int.natCast_mul, pow_cast]; congr 1; lia
    rw [hx, Int.toNat_natCast, Nat.mul_assoc, ← Nat.pow_add]
    congr 2; lia
  rw [hV, RS_pow (by lia), RS_nat]
  unfold FR
  rw [hX]
  by_cases z : x.toNat = 0
  · rw [z, Nat.zero_mul, Nat.zero_mul]
    have e0 : stR 0 = 0 := by unfold stR isqN; simp
    have f : figsN 0 = 1 := by rw [figsN, if_pos (by decide)]
    rw [e0, rv_small (by lia), Int.natCast_zero, Int.zero_mul]
  · rw [stR_P (by lia) ?_, Int.natCast_mul, pow_cast]
    apply figsN_ge
    have s := isqN_spec (x.toNat * 10 ^ P.toNat)
    rcases Nat.lt_or_ge (isqN (x.toNat * 10 ^ P.toNat)) (10 ^ d.toNat) with q | q
    · exfalso
      have h2 : (isqN (x.toNat * 10 ^ P.toNat) + 1) * (isqN (x.toNat * 10 ^ P.toNat) + 1) ≤ 10 ^ d.toNat * 10 ^ d.toNat := Nat.mul_le_mul q q
      rw [← Nat.pow_add] at h2
      have h3 : 10 ^ (d.toNat + d.toNat) ≤ 10 ^ P.toNat := Nat.pow_le_pow_right (by decide) (by lia)
      have h4 : 1 * 10 ^ P.toNat ≤ x.toNat * 10 ^ P.toNat := Nat.mul_le_mul_right _ (by lia)
      lia
    · exact q
theorem mono_rt (h1 : Dealt x1 e1) (h2 : Dealt x2 e2) (hl : Ex2 x1 e1 x2 e2) (h0 : 0 ≤ x1) (hd1 : 3 ≤ d) (hd2 : d ≤ 5) :
    Le2 (mkX (rtW x1 (rtP e1 d)) d) (mkE (rtW x1 (rtP e1 d)) (rtE x1 e1 (rtP e1 d)) d) (mkX (rtW x2 (rtP e2 d)) d) (mkE (rtW x2 (rtP e2 d)) (rtE x2 e2 (rtP e2 d)) d) := by
  have g2 := ex_nonneg h1 h2 hl h0
  have p1 := rtP_ge e1 d
  have p2 := rtP_ge e2 d
  have r1 := (rt_roomP h1 h0 (by lia) hd2).2
  have r2 := (rt_roomP h2 g2 (by lia) hd2).2
  have q1 := h1.2.2; have q2 := h2.2.2
  refine mk_le 40 (by lia) (by lia) (by lia) (by lia) ?_
  rw [rt_val h0 (by lia) p1.1 (rtP_par _ _) (by lia), rt_val g2 (by lia) p2.1 (rtP_par _ _) (by lia)]
  have v := h1.V7 h2 hl (2 * 40 - 2) (by lia)
  unfold FR
  have := rv_mono (d := d.toNat) (by lia) (stR_mono (n := (V (2 * 40 - 2) x1 e1).toNat) (n' := (V (2 * 40 - 2) x2 e2).toNat) (by lia))
  lia
end
theorem wh_eq {x e d : Int} (h : 0 ≤ e) : whX x e d = x ∧ whE x e d = e := wh_pos (by lia)
theorem rd_eq {x e p d : Int} (h : 0 - p - e ≤ 0 ∨ x = 0) : rdX x e p d = x ∧ rdE x e p d = e := ⟨rd_sameX h, rd_sameE h⟩
theorem wh_pre {x e d' : Int} (h : 0 ≤ e) : e < 0 → Room (flo x e) 0 d' := fun q => absurd q (by omega)
theorem rd_pre {x e p d' : Int} (h : 0 - p - e ≤ 0 ∨ x = 0) : 0 < 0 - p - e → x ≠ 0 → ∀ f, RdF x (0 - p - e) f → Room f (e + (0 - p - e)) d' ∧ Room (0 - f) (e + (0 - p - e)) d' := fun q1 q2 => absurd h (by lia)
end
set_option maxHeartbeats 8000000
section
local macro_rules | `(tactic| walk_at "call ref") => `(tactic| k_extra "call ref")
local macro_rules | `(tactic| walk_at "subscriptTail") => `(tactic| k_extra "subscriptTail")
local macro_rules | `(tactic| walk_at "binaryOp FloorDiv int int") => `(tactic| k_extra "binaryOp FloorDiv int int")
local macro_rules | `(tactic| walk_at "binaryOp Mod int int") => `(tactic| k_extra "binaryOp Mod int int")
local macro_rules | `(tactic| walk_at "binaryOp Mult int int") => `(tactic| k_extra "binaryOp Mult int int")
local macro_rules | `(tactic| walk_at "binaryOp Pow int int") => `(tactic| k_extra "binaryOp Pow int int")
local macro_rules | `(tactic| walk_at "compareOp NotEq ref ref") => `(tactic| k_extra "compareOp NotEq ref ref")
local macro_rules | `(tactic| walk_at "exec For Name Call cons nil") => `(tactic| k_extra "exec For Name Call cons nil")
local macro_rules | `(tactic| walk_at "pyIter ref") => `(tactic| k_extra "pyIter ref")
local macro_rules | `(tactic| walk_at "execs cons") => `(tactic| k_extra "execs cons")
local macro_rules | `(tactic| k_ne) => `(tactic| k_extra "k_ne")
local macro_rules | `(tactic| k_mem) => `(tactic| k_extra "k_mem")
section
theorem c_figures {w mean mg mb} (n : Int) (t : Tok) : Calls w mean mg mb 44 1 [.int n t] (fun h => True) (RetI (figs n)) := by
  unfold Calls
  k_with_none
  k_with "p_enter" => first | ((refine' enter_pure ?k1 ?k2 ?k3 ?k5 ?kA ?kF ?kK ?k6 ?k7 ?k8 ?k9 ?kB ?_ ?c2 ?c3 ?c4 ?c5; (case kA => exact rfl); (case kF => exact rfl); (case kK => assumption); (case k1 => k_asm); (case k2 => k_asm); (case k3 => k_asm); (case k5 => k_asm); (case k6 => k_is); (case k7 => k_is); (case k8 => ktr_room); (case k9 => exact BindsTo.of_eq rfl); (case c5 => decide); (case kB => exact locs rfl); (case c2 => exact rfl); (case c3 => exact rfl); (case c4 => exact rfl); k_whole; intro L' h' F' N' B' X' T'; (try dsimp only); (try k_fold))) | fail "p_enter"
  k_with "h_enter" => first | ((refine' enter_hand ?k1 ?k2 ?kN ?k3 ?k5 ?kA ?kF ?kK ?k6 ?k7 ?k8 ?k9 ?kB ?_ ?c2 ?c3 ?c4 ?c5; (case kA => exact rfl); (case kF => exact rfl); (case kK => assumption); (case k1 => k_asm); (case k2 => k_asm); (case kN => k_asm); (case k3 => k_asm); (case k5 => k_asm); (case k6 => k_is); (case k7 => k_is); (case k8 => ktr_room); (case k9 => exact BindsTo.of_eq rfl); (case c5 => decide); (case kB => exact locs rfl); (case c2 => exact rfl); (case c3 => exact rfl); (case c4 => exact rfl); k_whole)) | fail "h_enter"
  k_with "subscriptTail" => first | ((k_here; (with_reducible show wpAny _ _ (subscriptTail _ _ (Value.ref _) (Value.int _ _)) _ _ _); k_dflt (refine' item_tupleT ?t ?a ?b ?c ?d ?_; (case t => exact Fr.tup (by assumption) (by assumption)); (case a => decide); (case b => decide); (case c => rfl); (case d => rfl); k_whole))) | fail "subscriptTail"
  k_with "k_ne" => first | (first | exact ne_all (by with_reducible assumption) (by k_mem) | exact ne_all' (by with_reducible assumption) (by k_mem) | fail "k_ne") | fail "k_ne"
  k_with "p_sm" => first | (first | with_reducible assumption | exact Sm.neg (by with_reducible assumption) | exact sm_lit (by omega) (by omega) (by omega) (by omega)) | fail "p_sm"
  k_with "p_room" => first | (first | with_reducible assumption | exact (‹(_ : Int) < 0 → Room _ _ _›) (by with_reducible assumption) | exact rd_room1 (by with_reducible assumption) (by with_reducible assumption) (by with_reducible assumption) (by first | exact .inl rfl | exact .inr rfl) | exact rd_room2 (by with_reducible assumption) (by with_reducible assumption) (by with_reducible assumption) (by first | exact .inl rfl | exact .inr rfl)) | fail "p_room"
  k_with "p_half" => first | (first | with_reducible exact half_gt (by with_reducible assumption) | with_reducible exact half_tie (by with_reducible assumption) (by with_reducible assumption) | with_reducible exact half_lt (by with_reducible assumption) (by with_reducible assumption) | with_reducible exact half_even (by with_reducible assumption) (by with_reducible assumption)) | fail "p_half"
  k_with "p_rd" => first | (first | exact dec_eq (dec_base (by assumption) (by with_reducible assumption)) ⟨rd_sameX (.inl (by with_reducible assumption)), rd_sameE (.inl (by with_reducible assumption))⟩ | exact dec_eq (dec_base (by assumption) (by with_reducible assumption)) ⟨rd_sameX (.inr (by with_reducible assumption)), rd_sameE (.inr (by with_reducible assumption))⟩ | exact dec_eq (dec_news (by assumption) (by k_mem)) (rd_pos (by with_reducible assumption) (by with_reducible assumption) (by walk_at "p_half") (by with_reducible assumption) (by with_reducible assumption)) | exact dec_eq (dec_news (by assumption) (by k_mem)) (rd_neg (by with_reducible assumption) (by with_reducible assumption) (by walk_at "p_half") (by with_reducible assumption) (by with_reducible assumption)) | exact dec_eq ⟨_, _, tupK (Frag.In.keeps (by assumption) (Fr.keep (by assumption))) (by k_is)⟩ (rd_zero (by with_reducible assumption) (by with_reducible assumption) (by walk_at "p_half") (by with_reducible assumption))) | fail "p_rd"
  k_with "p_ne" => first | (first | exact pow10_ne _ | with_reducible assumption | exact root_ne (by with_reducible assumption) | omega) | fail "p_ne"
  k_with "p_py" => first | (first | decide +kernel | exact py_pow (by omega) | exact root_py (by with_reducible assumption) | exact py_of (k := 20) (by decide) (by omega) | exact py_of (k := 60) (by decide) (by omega)) | fail "p_py"
  k_with "binaryOp FloorDiv int int" => first | ((k_here; (with_reducible refine floordiv_int ?kbe ?_ (Or.inl (PyProof.noPylong_of_log2 ?kbp))); (case kbe => walk_at "p_ne"); (case kbp => walk_at "p_py"))) | fail "binaryOp FloorDiv int int"
  k_with "binaryOp Mod int int" => first | ((k_here; (with_reducible refine mod_int' ?kbe ?_); (case kbe => walk_at "p_ne"))) | fail "binaryOp Mod int int"
  k_with "binaryOp Mult int int" => first | ((k_here; first | (with_reducible refine mul_int ?_ (PySem.IntMulOk.of_left (PySem.intBits_le_64 ?kma ?kmb)); (case kma => omega); (case kmb => omega)) | (with_reducible refine mul_int ?_ (PySem.IntMulOk.of_right (PySem.intBits_le_64 ?kma ?kmb)); (case kma => omega); (case kmb => omega)))) | fail "binaryOp Mult int int"
  k_with "binaryOp Pow int int" => first | ((k_here; (with_reducible refine pow_int_small ?kb1 ?kb2 ?kb3 ?_); (case kb1 => omega); (case kb2 => omega); (case kb3 => decide))) | fail "binaryOp Pow int int"
  k_with "exec While Compare cons nil" => k_while_given ["number"] (fun number script many bound => FigInv number many bound) (fun number script many bound => (number - bound + 1).toNat) "many" "bound"
  k_with "state" => first | exact figInv0 | exact figInv1 (by assumption) (by assumption)
  k_with "measure" => (have hp9 := figInv_pos (by assumption)); omega
  k_fill
  intro dp un gd cn cs a ccd cl outer A₀ base h₀ L m s Q E B F X T hk hd hu hpre ret
  try dsimp only at hpre
  try dsimp only at ret
  refine wpAny_call ?_
  k_dflt (walk_at "p_enter")
  k_steps
  all_goals ((try dsimp only); (try k_unfold); (try dsimp only [Done]); exact done_I ret (by assumption) (figInv_end (by assumption) (by assumption)))
end
section
theorem c_rounded {w mean mg mb} (n : Int) (t : Tok) (p : Int) (u : Tok) : Calls w mean mg mb 51 2 [.int n t, .int p u] (fun h => p ≤ 1000) (RetI (rb n p)) := by
  unfold Calls
  k_with_none
  k_with "p_enter" => first | ((refine' enter_pure ?k1 ?k2 ?k3 ?k5 ?kA ?kF ?kK ?k6 ?k7 ?k8 ?k9 ?kB ?_ ?c2 ?c3 ?c4 ?c5; (case kA => exact rfl); (case kF => exact rfl); (case kK => assumption); (case k1 => k_asm); (case k2 => k_asm); (case k3 => k_asm); (case k5 => k_asm); (case k6 => k_is); (case k7 => k_is); (case k8 => ktr_room); (case k9 => exact BindsTo.of_eq rfl); (case c5 => decide); (case kB => exact locs rfl); (case c2 => exact rfl); (case c3 => exact rfl); (case c4 => exact rfl); k_whole; intro L' h' F' N' B' X' T'; (try dsimp only); (try k_fold))) | fail "p_enter"
  k_with "h_enter" => first | ((refine' enter_hand ?k1 ?k2 ?kN ?k3 ?k5 ?kA ?kF ?kK ?k6 ?k7 ?k8 ?k9 ?kB ?_ ?c2 ?c3 ?c4 ?c5; (case kA => exact rfl); (case kF => exact rfl); (case kK => assumption); (case k1 => k_asm); (case k2 => k_asm); (case kN => k_asm); (case k3 => k_asm); (case k5 => k_asm); (case k6 => k_is); (case k7 => k_is); (case k8 => ktr_room); (case k9 => exact BindsTo.of_eq rfl); (case c5 => decide); (case kB => exact locs rfl); (case c2 => exact rfl); (case c3 => exact rfl); (case c4 => exact rfl); k_whole)) | fail "h_enter"
  k_with "subscriptTail" => first | ((k_here; (with_reducible show wpAny _ _ (subscriptTail _ _ (Value.ref _) (Value.int _ _)) _ _ _); k_dflt (refine' item_tupleT ?t ?a ?b ?c ?d ?_; (case t => exact Fr.tup (by assumption) (by assumption)); (case a => decide); (case b => decide); (case c => rfl); (case d => rfl); k_whole))) | fail "subscriptTail"
  k_with "k_ne" => first | (first | exact ne_all (by with_reducible assumption) (by k_mem) | exact ne_all' (by with_reducible assumption) (by k_mem) | fail "k_ne") | fail "k_ne"
  k_with "p_sm" => first | (first | with_reducible assumption | exact Sm.neg (by with_reducible assumption) | exact sm_lit (by omega) (by omega) (by omega) (by omega)) | fail "p_sm"
  k_with "p_room" => first | (first | with_reducible assumption | exact (‹(_ : Int) < 0 → Room _ _ _›) (by with_reducible assumption) | exact rd_room1 (by with_reducible assumption) (by with_reducible assumption) (by with_reducible assumption) (by first | exact .inl rfl | exact .inr rfl) | exact rd_room2 (by with_reducible assumption) (by with_reducible assumption) (by with_reducible assumption) (by first | exact .inl rfl | exact .inr rfl)) | fail "p_room"
  k_with "p_half" => first | (first | with_reducible exact half_gt (by with_reducible assumption) | with_reducible exact half_tie (by with_reducible assumption) (by with_reducible assumption) | with_reducible exact half_lt (by with_reducible assumption) (by with_reducible assumption) | with_reducible exact half_even (by with_reducible assumption) (by with_reducible assumption)) | fail "p_half"
  k_with "p_rd" => first | (first | exact dec_eq (dec_base (by assumption) (by with_reducible assumption)) ⟨rd_sameX (.inl (by with_reducible assumption)), rd_sameE (.inl (by with_reducible assumption))⟩ | exact dec_eq (dec_base (by assumption) (by with_reducible assumption)) ⟨rd_sameX (.inr (by with_reducible assumption)), rd_sameE (.inr (by with_reducible assumption))⟩ | exact dec_eq (dec_news (by assumption) (by k_mem)) (rd_pos (by with_reducible assumption) (by with_reducible assumption) (by walk_at "p_half") (by with_reducible assumption) (by with_reducible assumption)) | exact dec_eq (dec_news (by assumption) (by k_mem)) (rd_neg (by with_reducible assumption) (by with_reducible assumption) (by walk_at "p_half") (by with_reducible assumption) (by with_reducible assumption)) | exact dec_eq ⟨_, _, tupK (Frag.In.keeps (by assumption) (Fr.keep (by assumption))) (by k_is)⟩ (rd_zero (by with_reducible assumption) (by with_reducible assumption) (by walk_at "p_half") (by with_reducible assumption))) | fail "p_rd"
  k_with "p_ne" => first | (first | exact pow10_ne _ | with_reducible assumption | exact root_ne (by with_reducible assumption) | omega) | fail "p_ne"
  k_with "p_py" => first | (first | decide +kernel | exact py_pow (by omega) | exact root_py (by with_reducible assumption) | exact py_of (k := 20) (by decide) (by omega) | exact py_of (k := 60) (by decide) (by omega)) | fail "p_py"
  k_with "binaryOp FloorDiv int int" => first | ((k_here; (with_reducible refine floordiv_int ?kbe ?_ (Or.inl (PyProof.noPylong_of_log2 ?kbp))); (case kbe => walk_at "p_ne"); (case kbp => walk_at "p_py"))) | fail "binaryOp FloorDiv int int"
  k_with "binaryOp Mod int int" => first | ((k_here; (with_reducible refine mod_int' ?kbe ?_); (case kbe => walk_at "p_ne"))) | fail "binaryOp Mod int int"
  k_with "binaryOp Mult int int" => first | ((k_here; first | (with_reducible refine mul_int ?_ (PySem.IntMulOk.of_left (PySem.intBits_le_64 ?kma ?kmb)); (case kma => omega); (case kmb => omega)) | (with_reducible refine mul_int ?_ (PySem.IntMulOk.of_right (PySem.intBits_le_64 ?kma ?kmb)); (case kma => omega); (case kmb => omega)))) | fail "binaryOp Mult int int"
  k_with "binaryOp Pow int int" => first | ((k_here; (with_reducible refine pow_int_small ?kb1 ?kb2 ?kb3 ?_); (case kb1 => omega); (case kb2 => omega); (case kb3 => decide))) | fail "binaryOp Pow int int"
  k_with "call ref" => first | ((k_here; k_dflt (refine' use_I (c_figures _ _) ?k1 ?k2 ?k3 ?k4 ?k5 ?kK ?kd ?ku ?kp ?_; (case k1 => k_asm); (case k2 => k_asm); (case k3 => k_asm); (case k4 => k_asm); (case k5 => k_asm); (case kK => first | exact rfl | assumption); (case kd => ktr_room); (case ku => ktr_units); (case kp => first | trivial | ((try dsimp only); trivial)); intro t9 h9 tk9 F9 N9; (try dsimp only); (try k_fold)))) | fail "call ref"
  k_fill
  intro dp un gd cn cs a ccd cl outer A₀ base h₀ L m s Q E B F X T hk hd hu hpre ret
  try dsimp only at hpre
  try dsimp only at ret
  refine wpAny_call ?_
  k_dflt (walk_at "p_enter")
  k_steps
  all_goals ((try dsimp only); (try k_unfold); (try dsimp only [Done]); refine done_I ret (by assumption) ?_)
  all_goals (clear ret)
  all_goals (unfold rb; (repeat' split) <;> first | rfl | omega)
end
section
theorem c_made {w mean mg mb} (c : Int) (t : Tok) (e : Int) (u : Tok) (d : Int) (v : Tok) : Calls w mean mg mb 58 3 [.int c t, .int e u, .int d v] (fun h => Room c e d) (RetF (mkX c d) (mkE c e d)) := by
  unfold Calls
  k_with_none
  k_with "p_enter" => first | ((refine' enter_pure ?k1 ?k2 ?k3 ?k5 ?kA ?kF ?kK ?k6 ?k7 ?k8 ?k9 ?kB ?_ ?c2 ?c3 ?c4 ?c5; (case kA => exact rfl); (case kF => exact rfl); (case kK => assumption); (case k1 => k_asm); (case k2 => k_asm); (case k3 => k_asm); (case k5 => k_asm); (case k6 => k_is); (case k7 => k_is); (case k8 => ktr_room); (case k9 => exact BindsTo.of_eq rfl); (case c5 => decide); (case kB => exact locs rfl); (case c2 => exact rfl); (case c3 => exact rfl); (case c4 => exact rfl); k_whole; intro L' h' F' N' B' X' T'; (try dsimp only); (try k_fold))) | fail "p_enter"
  k_with "h_enter" => first | ((refine' enter_hand ?k1 ?k2 ?kN ?k3 ?k5 ?kA ?kF ?kK ?k6 ?k7 ?k8 ?k9 ?kB ?_ ?c2 ?c3 ?c4 ?c5; (case kA => exact rfl); (case kF => exact rfl); (case kK => assumption); (case k1 => k_asm); (case k2 => k_asm); (case kN => k_asm); (case k3 => k_asm); (case k5 => k_asm); (case k6 => k_is); (case k7 => k_is); (case k8 => ktr_room); (case k9 => exact BindsTo.of_eq rfl); (case c5 => decide); (case kB => exact locs rfl); (case c2 => exact rfl); (case c3 => exact rfl); (case c4 => exact rfl); k_whole)) | fail "h_enter"
  k_with "subscriptTail" => first | ((k_here; (with_reducible show wpAny _ _ (subscriptTail _ _ (Value.ref _) (Value.int _ _)) _ _ _); k_dflt (refine' item_tupleT ?t ?a ?b ?c ?d ?_; (case t => exact Fr.tup (by assumption) (by assumption)); (case a => decide); (case b => decide); (case c => rfl); (case d => rfl); k_whole))) | fail "subscriptTail"
  k_with "k_ne" => first | (first | exact ne_all (by with_reducible assumption) (by k_mem) | exact ne_all' (by with_reducible assumption) (by k_mem) | fail "k_ne") | fail "k_ne"
  k_with "p_sm" => first | (first | with_reducible assumption | exact Sm.neg (by with_reducible assumption) | exact sm_lit (by omega) (by omega) (by omega) (by omega)) | fail "p_sm"
  k_with "p_room" => first | (first | with_reducible assumption | exact (‹(_ : Int) < 0 → Room _ _ _›) (by with_reducible assumption) | exact rd_room1 (by with_reducible assumption) (by with_reducible assumption) (by with_reducible assumption) (by first | exact .inl rfl | exact .inr rfl) | exact rd_room2 (by with_reducible assumption) (by with_reducible assumption) (by with_reducible assumption) (by first | exact .inl rfl | exact .inr rfl)) | fail "p_room"
  k_with "p_half" => first | (first | with_reducible exact half_gt (by with_reducible assumption) | with_reducible exact half_tie (by with_reducible assumption) (by with_reducible assumption) | with_reducible exact half_lt (by with_reducible assumption) (by with_reducible assumption) | with_reducible exact half_even (by with_reducible assumption) (by with_reducible assumption)) | fail "p_half"
  k_with "p_rd" => first | (first | exact dec_eq (dec_base (by assumption) (by with_reducible assumption)) ⟨rd_sameX (.inl (by with_reducible assumption)), rd_sameE (.inl (by with_reducible assumption))⟩ | exact dec_eq (dec_base (by assumption) (by with_reducible assumption)) ⟨rd_sameX (.inr (by with_reducible assumption)), rd_sameE (.inr (by with_reducible assumption))⟩ | exact dec_eq (dec_news (by assumption) (by k_mem)) (rd_pos (by with_reducible assumption) (by with_reducible assumption) (by walk_at "p_half") (by with_reducible assumption) (by with_reducible assumption)) | exact dec_eq (dec_news (by assumption) (by k_mem)) (rd_neg (by with_reducible assumption) (by with_reducible assumption) (by walk_at "p_half") (by with_reducible assumption) (by with_reducible assumption)) | exact dec_eq ⟨_, _, tupK (Frag.In.keeps (by assumption) (Fr.keep (by assumption))) (by k_is)⟩ (rd_zero (by with_reducible assumption) (by with_reducible assumption) (by walk_at "p_half") (by with_reducible assumption))) | fail "p_rd"
  k_with "p_ne" => first | (first | exact pow10_ne _ | with_reducible assumption | exact root_ne (by with_reducible assumption) | omega) | fail "p_ne"
  k_with "p_py" => first | (first | decide +kernel | exact py_pow (by omega) | exact root_py (by with_reducible assumption) | exact py_of (k := 20) (by decide) (by omega) | exact py_of (k := 60) (by decide) (by omega)) | fail "p_py"
  k_with "binaryOp FloorDiv int int" => first | ((k_here; (with_reducible refine floordiv_int ?kbe ?_ (Or.inl (PyProof.noPylong_of_log2 ?kbp))); (case kbe => walk_at "p_ne"); (case kbp => walk_at "p_py"))) | fail "binaryOp FloorDiv int int"
  k_with "binaryOp Mod int int" => first | ((k_here; (with_reducible refine mod_int' ?kbe ?_); (case kbe => walk_at "p_ne"))) | fail "binaryOp Mod int int"
  k_with "binaryOp Mult int int" => first | ((k_here; first | (with_reducible refine mul_int ?_ (PySem.IntMulOk.of_left (PySem.intBits_le_64 ?kma ?kmb)); (case kma => omega); (case kmb => omega)) | (with_reducible refine mul_int ?_ (PySem.IntMulOk.of_right (PySem.intBits_le_64 ?kma ?kmb)); (case kma => omega); (case kmb => omega)))) | fail "binaryOp Mult int int"
  k_with "binaryOp Pow int int" => first | ((k_here; (with_reducible refine pow_int_small ?kb1 ?kb2 ?kb3 ?_); (case kb1 => omega); (case kb2 => omega); (case kb3 => decide))) | fail "binaryOp Pow int int"
  k_with "call ref" => first | ((k_here; k_dflt (refine' use_I (c_figures _ _) ?k1 ?k2 ?k3 ?k4 ?k5 ?kK ?kd ?ku ?kp ?_; (case k1 => k_asm); (case k2 => k_asm); (case k3 => k_asm); (case k4 => k_asm); (case k5 => k_asm); (case kK => first | exact rfl | assumption); (case kd => ktr_room); (case ku => ktr_units); (case kp => first | trivial | ((try dsimp only); trivial)); intro t9 h9 tk9 F9 N9; (try dsimp only); (try k_fold)))) | fail "call ref"
  k_with "call ref" => first | ((k_here; k_dflt (refine' use_I (c_rounded _ _ _ _) ?k1 ?k2 ?k3 ?k4 ?k5 ?kK ?kd ?ku ?kp ?_; (case k1 => k_asm); (case k2 => k_asm); (case k3 => k_asm); (case k4 => k_asm); (case k5 => k_asm); (case kK => first | exact rfl | assumption); (case kd => ktr_room); (case ku => ktr_units); (case kp => first | trivial | ((try dsimp only); omega)); intro t9 h9 tk9 F9 N9; (try dsimp only); (try k_fold)))) | fail "call ref"
  k_with "exec While Compare cons nil" => k_while_given ["size!", "exponent!"] (fun s0 e0 script s e => StripInv s0 e0 s e ∧ -90 ≤ e + figs s ∧ e + figs s ≤ 90) (fun s0 e0 script s e => s.toNat) "size" "exponent"
  k_with "state" => first | exact made_startA hroom (by assumption) (by assumption) | exact made_startB hroom (by assumption) | exact strip_turn (by assumption) (by assumption) (by assumption) (by assumption)
  k_with "measure" => exact strip_less (by assumption)
  k_fill
  intro dp un gd cn cs a ccd cl outer A₀ base h₀ L m s Q E B F X T hk hd hu hpre ret
  try dsimp only at hpre
  try dsimp only at ret
  have hroom := hpre
  obtain ⟨hp1, hp2, hp3, hp4⟩ := hpre
  have hp5 : figs (if c < 0 then -c else c) ≤ 50 := hp1
  refine wpAny_call ?_
  k_dflt (walk_at "p_enter")
  k_steps
  all_goals ((try dsimp only); (try k_unfold); (try dsimp only [Done]); refine done_F ret (by assumption) (by assumption) (by k_mem) ?_ ?_)
  all_goals (clear ret)
  all_goals first | exact mkX_z (mkS_A (by assumption)) (by assumption) | exact mkE_z (mkS_A (by assumption)) (by assumption) | exact mkX_n (mkS_A (by assumption)) (by assumption) (by assumption) (by assumption) (by assumption) | exact mkX_p (mkS_A (by assumption)) (by assumption) (by assumption) (by assumption) (by assumption) | exact mkE_p (mkS_A (by assumption)) (mkP_A (by assumption)) (by assumption) (by assumption) (by assumption) | exact mkX_z (mkS_B (by assumption)) (by assumption) | exact mkE_z (mkS_B (by assumption)) (by assumption) | exact mkX_n (mkS_B (by assumption)) (by assumption) (by assumption) (by assumption) (by assumption) | exact mkX_p (mkS_B (by assumption)) (by assumption) (by assumption) (by assumption) (by assumption) | exact mkE_p (mkS_B (by assumption)) (mkP_B (by assumption)) (by assumption) (by assumption) (by assumption)
end
section
theorem c_rootof {w mean mg mb} (n : Int) (t : Tok) : Calls w mean mg mb 143 2 [.int n t] (fun h => 0 ≤ n ∧ figs n ≤ 60) (RetI (isq n)) := by
  unfold Calls
  k_with_none
  k_with "p_enter" => first | ((refine' enter_pure ?k1 ?k2 ?k3 ?k5 ?kA ?kF ?kK ?k6 ?k7 ?k8 ?k9 ?kB ?_ ?c2 ?c3 ?c4 ?c5; (case kA => exact rfl); (case kF => exact rfl); (case kK => assumption); (case k1 => k_asm); (case k2 => k_asm); (case k3 => k_asm); (case k5 => k_asm); (case k6 => k_is); (case k7 => k_is); (case k8 => ktr_room); (case k9 => exact BindsTo.of_eq rfl); (case c5 => decide); (case kB => exact locs rfl); (case c2 => exact rfl); (case c3 => exact rfl); (case c4 => exact rfl); k_whole; intro L' h' F' N' B' X' T'; (try dsimp only); (try k_fold))) | fail "p_enter"
  k_with "h_enter" => first | ((refine' enter_hand ?k1 ?k2 ?kN ?k3 ?k5 ?kA ?kF ?kK ?k6 ?k7 ?k8 ?k9 ?kB ?_ ?c2 ?c3 ?c4 ?c5; (case kA => exact rfl); (case kF => exact rfl); (case kK => assumption); (case k1 => k_asm); (case k2 => k_asm); (case kN => k_asm); (case k3 => k_asm); (case k5 => k_asm); (case k6 => k_is); (case k7 => k_is); (case k8 => ktr_room); (case k9 => exact BindsTo.of_eq rfl); (case c5 => decide); (case kB => exact locs rfl); (case c2 => exact rfl); (case c3 => exact rfl); (case c4 => exact rfl); k_whole)) | fail "h_enter"
  k_with "subscriptTail" => first | ((k_here; (with_reducible show wpAny _ _ (subscriptTail _ _ (Value.ref _) (Value.int _ _)) _ _ _); k_dflt (refine' item_tupleT ?t ?a ?b ?c ?d ?_; (case t => exact Fr.tup (by assumption) (by assumption)); (case a => decide); (case b => decide); (case c => rfl); (case d => rfl); k_whole))) | fail "subscriptTail"
  k_with "k_ne" => first | (first | exact ne_all (by with_reducible assumption) (by k_mem) | exact ne_all' (by with_reducible assumption) (by k_mem) | fail "k_ne") | fail "k_ne"
  k_with "p_sm" => first | (first | with_reducible assumption | exact Sm.neg (by with_reducible assumption) | exact sm_lit (by omega) (by omega) (by omega) (by omega)) | fail "p_sm"
  k_with "p_room" => first | (first | with_reducible assumption | exact (‹(_ : Int) < 0 → Room _ _ _›) (by with_reducible assumption) | exact rd_room1 (by with_reducible assumption) (by with_reducible assumption) (by with_reducible assumption) (by first | exact .inl rfl | exact .inr rfl) | exact rd_room2 (by with_reducible assumption) (by with_reducible assumption) (by with_reducible assumption) (by first | exact .inl rfl | exact .inr rfl)) | fail "p_room"
  k_with "p_half" => first | (first | with_reducible exact half_gt (by with_reducible assumption) | with_reducible exact half_tie (by with_reducible assumption) (by with_reducible assumption) | with_reducible exact half_lt (by with_reducible assumption) (by with_reducible assumption) | with_reducible exact half_even (by with_reducible assumption) (by with_reducible assumption)) | fail "p_half"
  k_with "p_rd" => first | (first | exact dec_eq (dec_base (by assumption) (by with_reducible assumption)) ⟨rd_sameX (.inl (by with_reducible assumption)), rd_sameE (.inl (by with_reducible assumption))⟩ | exact dec_eq (dec_base (by assumption) (by with_reducible assumption)) ⟨rd_sameX (.inr (by with_reducible assumption)), rd_sameE (.inr (by with_reducible assumption))⟩ | exact dec_eq (dec_news (by assumption) (by k_mem)) (rd_pos (by with_reducible assumption) (by with_reducible assumption) (by walk_at "p_half") (by with_reducible assumption) (by with_reducible assumption)) | exact dec_eq (dec_news (by assumption) (by k_mem)) (rd_neg (by with_reducible assumption) (by with_reducible assumption) (by walk_at "p_half") (by with_reducible assumption) (by with_reducible assumption)) | exact dec_eq ⟨_, _, tupK (Frag.In.keeps (by assumption) (Fr.keep (by assumption))) (by k_is)⟩ (rd_zero (by with_reducible assumption) (by with_reducible assumption) (by walk_at "p_half") (by with_reducible assumption))) | fail "p_rd"
  k_with "p_ne" => first | (first | exact pow10_ne _ | with_reducible assumption | exact root_ne (by with_reducible assumption) | omega) | fail "p_ne"
  k_with "p_py" => first | (first | decide +kernel | exact py_pow (by omega) | exact root_py (by with_reducible assumption) | exact py_of (k := 20) (by decide) (by omega) | exact py_of (k := 60) (by decide) (by omega)) | fail "p_py"
  k_with "binaryOp FloorDiv int int" => first | ((k_here; (with_reducible refine floordiv_int ?kbe ?_ (Or.inl (PyProof.noPylong_of_log2 ?kbp))); (case kbe => walk_at "p_ne"); (case kbp => walk_at "p_py"))) | fail "binaryOp FloorDiv int int"
  k_with "binaryOp Mod int int" => first | ((k_here; (with_reducible refine mod_int' ?kbe ?_); (case kbe => walk_at "p_ne"))) | fail "binaryOp Mod int int"
  k_with "binaryOp Mult int int" => first | ((k_here; first | (with_reducible refine mul_int ?_ (PySem.IntMulOk.of_left (PySem.intBits_le_64 ?kma ?kmb)); (case kma => omega); (case kmb => omega)) | (with_reducible refine mul_int ?_ (PySem.IntMulOk.of_right (PySem.intBits_le_64 ?kma ?kmb)); (case kma => omega); (case kmb => omega)))) | fail "binaryOp Mult int int"
  k_with "binaryOp Pow int int" => first | ((k_here; (with_reducible refine pow_int_small ?kb1 ?kb2 ?kb3 ?_); (case kb1 => omega); (case kb2 => omega); (case kb3 => decide))) | fail "binaryOp Pow int int"
  k_with "call ref" => first | ((k_here; k_dflt (refine' use_I (c_figures _ _) ?k1 ?k2 ?k3 ?k4 ?k5 ?kK ?kd ?ku ?kp ?_; (case k1 => k_asm); (case k2 => k_asm); (case k3 => k_asm); (case k4 => k_asm); (case k5 => k_asm); (case kK => first | exact rfl | assumption); (case kd => ktr_room); (case ku => ktr_units); (case kp => first | trivial | ((try dsimp only); trivial)); intro t9 h9 tk9 F9 N9; (try dsimp only); (try k_fold)))) | fail "call ref"
  k_with "exec While Constant" => k_while_given ["number"] (fun number script guess => RootInv number guess) (fun number script guess => guess.toNat) "guess"
  k_with "state" => first | exact root_start (by assumption) hp2 | exact root_turn (by assumption) (by assumption)
  k_with "measure" => exact root_less (by assumption) (by assumption)
  k_fill
  intro dp un gd cn cs a ccd cl outer A₀ base h₀ L m s Q E B F X T hk hd hu hpre ret
  try dsimp only at hpre
  try dsimp only at ret
  obtain ⟨hp1, hp2⟩ := hpre
  have hp3 := figs_pos n
  have hp4 : 0 ≤ (figs n).fdiv 2 ∧ (figs n).fdiv 2 ≤ 60 := by rw [fdiv_pos _ (by decide)]; omega
  refine wpAny_call ?_
  k_dflt (walk_at "p_enter")
  k_steps
  all_goals ((try dsimp only); (try k_unfold); (try dsimp only [Done]); refine done_I ret (by assumption) ?_)
  all_goals (clear ret)
  all_goals with_reducible first | exact isq_small hp1 (by assumption) | exact root_out (by assumption) (by assumption)
end
section
theorem c_rest {w mean mg mb} (q : Int) (t : Tok) (r : Int) (u : Tok) (e : Int) (v : Tok) : Calls w mean mg mb 101 1 [.int q t, .int r u, .int e v] (fun h => True) (RetF (wrW q r) (wrE r e)) := by
  unfold Calls
  k_with_none
  k_with "p_enter" => first | ((refine' enter_pure ?k1 ?k2 ?k3 ?k5 ?kA ?kF ?kK ?k6 ?k7 ?k8 ?k9 ?kB ?_ ?c2 ?c3 ?c4 ?c5; (case kA => exact rfl); (case kF => exact rfl); (case kK => assumption); (case k1 => k_asm); (case k2 => k_asm); (case k3 => k_asm); (case k5 => k_asm); (case k6 => k_is); (case k7 => k_is); (case k8 => ktr_room); (case k9 => exact BindsTo.of_eq rfl); (case c5 => decide); (case kB => exact locs rfl); (case c2 => exact rfl); (case c3 => exact rfl); (case c4 => exact rfl); k_whole; intro L' h' F' N' B' X' T'; (try dsimp only); (try k_fold))) | fail "p_enter"
  k_with "h_enter" => first | ((refine' enter_hand ?k1 ?k2 ?kN ?k3 ?k5 ?kA ?kF ?kK ?k6 ?k7 ?k8 ?k9 ?kB ?_ ?c2 ?c3 ?c4 ?c5; (case kA => exact rfl); (case kF => exact rfl); (case kK => assumption); (case k1 => k_asm); (case k2 => k_asm); (case kN => k_asm); (case k3 => k_asm); (case k5 => k_asm); (case k6 => k_is); (case k7 => k_is); (case k8 => ktr_room); (case k9 => exact BindsTo.of_eq rfl); (case c5 => decide); (case kB => exact locs rfl); (case c2 => exact rfl); (case c3 => exact rfl); (case c4 => exact rfl); k_whole)) | fail "h_enter"
  k_with "subscriptTail" => first | ((k_here; (with_reducible show wpAny _ _ (subscriptTail _ _ (Value.ref _) (Value.int _ _)) _ _ _); k_dflt (refine' item_tupleT ?t ?a ?b ?c ?d ?_; (case t => exact Fr.tup (by assumption) (by assumption)); (case a => decide); (case b => decide); (case c => rfl); (case d => rfl); k_whole))) | fail "subscriptTail"
  k_with "k_ne" => first | (first | exact ne_all (by with_reducible assumption) (by k_mem) | exact ne_all' (by with_reducible assumption) (by k_mem) | fail "k_ne") | fail "k_ne"
  k_with "p_sm" => first | (first | with_reducible assumption | exact Sm.neg (by with_reducible assumption) | exact sm_lit (by omega) (by omega) (by omega) (by omega)) | fail "p_sm"
  k_with "p_room" => first | (first | with_reducible assumption | exact (‹(_ : Int) < 0 → Room _ _ _›) (by with_reducible assumption) | exact rd_room1 (by with_reducible assumption) (by with_reducible assumption) (by with_reducible assumption) (by first | exact .inl rfl | exact .inr rfl) | exact rd_room2 (by with_reducible assumption) (by with_reducible assumption) (by with_reducible assumption) (by first | exact .inl rfl | exact .inr rfl)) | fail "p_room"
  k_with "p_half" => first | (first | with_reducible exact half_gt (by with_reducible assumption) | with_reducible exact half_tie (by with_reducible assumption) (by with_reducible assumption) | with_reducible exact half_lt (by with_reducible assumption) (by with_reducible assumption) | with_reducible exact half_even (by with_reducible assumption) (by with_reducible assumption)) | fail "p_half"
  k_with "p_rd" => first | (first | exact dec_eq (dec_base (by assumption) (by with_reducible assumption)) ⟨rd_sameX (.inl (by with_reducible assumption)), rd_sameE (.inl (by with_reducible assumption))⟩ | exact dec_eq (dec_base (by assumption) (by with_reducible assumption)) ⟨rd_sameX (.inr (by with_reducible assumption)), rd_sameE (.inr (by with_reducible assumption))⟩ | exact dec_eq (dec_news (by assumption) (by k_mem)) (rd_pos (by with_reducible assumption) (by with_reducible assumption) (by walk_at "p_half") (by with_reducible assumption) (by with_reducible assumption)) | exact dec_eq (dec_news (by assumption) (by k_mem)) (rd_neg (by with_reducible assumption) (by with_reducible assumption) (by walk_at "p_half") (by with_reducible assumption) (by with_reducible assumption)) | exact dec_eq ⟨_, _, tupK (Frag.In.keeps (by assumption) (Fr.keep (by assumption))) (by k_is)⟩ (rd_zero (by with_reducible assumption) (by with_reducible assumption) (by walk_at "p_half") (by with_reducible assumption))) | fail "p_rd"
  k_with "p_ne" => first | (first | exact pow10_ne _ | with_reducible assumption | exact root_ne (by with_reducible assumption) | omega) | fail "p_ne"
  k_with "p_py" => first | (first | decide +kernel | exact py_pow (by omega) | exact root_py (by with_reducible assumption) | exact py_of (k := 20) (by decide) (by omega) | exact py_of (k := 60) (by decide) (by omega)) | fail "p_py"
  k_with "binaryOp FloorDiv int int" => first | ((k_here; (with_reducible refine floordiv_int ?kbe ?_ (Or.inl (PyProof.noPylong_of_log2 ?kbp))); (case kbe => walk_at "p_ne"); (case kbp => walk_at "p_py"))) | fail "binaryOp FloorDiv int int"
  k_with "binaryOp Mod int int" => first | ((k_here; (with_reducible refine mod_int' ?kbe ?_); (case kbe => walk_at "p_ne"))) | fail "binaryOp Mod int int"
  k_with "binaryOp Mult int int" => first | ((k_here; first | (with_reducible refine mul_int ?_ (PySem.IntMulOk.of_left (PySem.intBits_le_64 ?kma ?kmb)); (case kma => omega); (case kmb => omega)) | (with_reducible refine mul_int ?_ (PySem.IntMulOk.of_right (PySem.intBits_le_64 ?kma ?kmb)); (case kma => omega); (case kmb => omega)))) | fail "binaryOp Mult int int"
  k_with "binaryOp Pow int int" => first | ((k_here; (with_reducible refine pow_int_small ?kb1 ?kb2 ?kb3 ?_); (case kb1 => omega); (case kb2 => omega); (case kb3 => decide))) | fail "binaryOp Pow int int"
  k_fill
  intro dp un gd cn cs a ccd cl outer A₀ base h₀ L m s Q E B F X T hk hd hu hpre ret
  try dsimp only at hpre
  try dsimp only at ret
  refine wpAny_call ?_
  k_dflt (walk_at "p_enter")
  k_steps
  all_goals ((try dsimp only); (try k_unfold); (try dsimp only [Done]); refine done_F ret (by assumption) (by assumption) (by k_mem) ?_ ?_)
  all_goals (clear ret)
  all_goals (first | (unfold wrW; (first | rw [if_pos (by assumption)] | rw [if_neg (by assumption)])) | (unfold wrE; (first | rw [if_pos (by assumption)] | rw [if_neg (by assumption)])))
end
section
theorem c_alike {w mean mg mb} (A : Addr) (x1 e1 : Int) (Bd : Addr) (x2 e2 : Int) : Calls w mean mg mb 73 1 [.ref A, .ref Bd] (fun h => Dec h A x1 e1 ∧ Sm x1 e1 ∧ Dec h Bd x2 e2 ∧ Sm x2 e2 ∧ True) (RetF3 (sh x1 e1 (mn e1 e2)) (sh x2 e2 (mn e1 e2)) (mn e1 e2)) := by
  unfold Calls
  k_with_none
  k_with "p_enter" => first | ((refine' enter_pure ?k1 ?k2 ?k3 ?k5 ?kA ?kF ?kK ?k6 ?k7 ?k8 ?k9 ?kB ?_ ?c2 ?c3 ?c4 ?c5; (case kA => exact rfl); (case kF => exact rfl); (case kK => assumption); (case k1 => k_asm); (case k2 => k_asm); (case k3 => k_asm); (case k5 => k_asm); (case k6 => k_is); (case k7 => k_is); (case k8 => ktr_room); (case k9 => exact BindsTo.of_eq rfl); (case c5 => decide); (case kB => exact locs rfl); (case c2 => exact rfl); (case c3 => exact rfl); (case c4 => exact rfl); k_whole; intro L' h' F' N' B' X' T'; (try dsimp only); (try k_fold))) | fail "p_enter"
  k_with "h_enter" => first | ((refine' enter_hand ?k1 ?k2 ?kN ?k3 ?k5 ?kA ?kF ?kK ?k6 ?k7 ?k8 ?k9 ?kB ?_ ?c2 ?c3 ?c4 ?c5; (case kA => exact rfl); (case kF => exact rfl); (case kK => assumption); (case k1 => k_asm); (case k2 => k_asm); (case kN => k_asm); (case k3 => k_asm); (case k5 => k_asm); (case k6 => k_is); (case k7 => k_is); (case k8 => ktr_room); (case k9 => exact BindsTo.of_eq rfl); (case c5 => decide); (case kB => exact locs rfl); (case c2 => exact rfl); (case c3 => exact rfl); (case c4 => exact rfl); k_whole)) | fail "h_enter"
  k_with "subscriptTail" => first | ((k_here; (with_reducible show wpAny _ _ (subscriptTail _ _ (Value.ref _) (Value.int _ _)) _ _ _); k_dflt (refine' item_tupleT ?t ?a ?b ?c ?d ?_; (case t => exact Fr.tup (by assumption) (by assumption)); (case a => decide); (case b => decide); (case c => rfl); (case d => rfl); k_whole))) | fail "subscriptTail"
  k_with "k_ne" => first | (first | exact ne_all (by with_reducible assumption) (by k_mem) | exact ne_all' (by with_reducible assumption) (by k_mem) | fail "k_ne") | fail "k_ne"
  k_with "p_sm" => first | (first | with_reducible assumption | exact Sm.neg (by with_reducible assumption) | exact sm_lit (by omega) (by omega) (by omega) (by omega)) | fail "p_sm"
  k_with "p_room" => first | (first | with_reducible assumption | exact (‹(_ : Int) < 0 → Room _ _ _›) (by with_reducible assumption) | exact rd_room1 (by with_reducible assumption) (by with_reducible assumption) (by with_reducible assumption) (by first | exact .inl rfl | exact .inr rfl) | exact rd_room2 (by with_reducible assumption) (by with_reducible assumption) (by with_reducible assumption) (by first | exact .inl rfl | exact .inr rfl)) | fail "p_room"
  k_with "p_half" => first | (first | with_reducible exact half_gt (by with_reducible assumption) | with_reducible exact half_tie (by with_reducible assumption) (by with_reducible assumption) | with_reducible exact half_lt (by with_reducible assumption) (by with_reducible assumption) | with_reducible exact half_even (by with_reducible assumption) (by with_reducible assumption)) | fail "p_half"
  k_with "p_rd" => first | (first | exact dec_eq (dec_base (by assumption) (by with_reducible assumption)) ⟨rd_sameX (.inl (by with_reducible assumption)), rd_sameE (.inl (by with_reducible assumption))⟩ | exact dec_eq (dec_base (by assumption) (by with_reducible assumption)) ⟨rd_sameX (.inr (by with_reducible assumption)), rd_sameE (.inr (by with_reducible assumption))⟩ | exact dec_eq (dec_news (by assumption) (by k_mem)) (rd_pos (by with_reducible assumption) (by with_reducible assumption) (by walk_at "p_half") (by with_reducible assumption) (by with_reducible assumption)) | exact dec_eq (dec_news (by assumption) (by k_mem)) (rd_neg (by with_reducible assumption) (by with_reducible assumption) (by walk_at "p_half") (by with_reducible assumption) (by with_reducible assumption)) | exact dec_eq ⟨_, _, tupK (Frag.In.keeps (by assumption) (Fr.keep (by assumption))) (by k_is)⟩ (rd_zero (by with_reducible assumption) (by with_reducible assumption) (by walk_at "p_half") (by with_reducible assumption))) | fail "p_rd"
  k_with "p_ne" => first | (first | exact pow10_ne _ | with_reducible assumption | exact root_ne (by with_reducible assumption) | omega) | fail "p_ne"
  k_with "p_py" => first | (first | decide +kernel | exact py_pow (by omega) | exact root_py (by with_reducible assumption) | exact py_of (k := 20) (by decide) (by omega) | exact py_of (k := 60) (by decide) (by omega)) | fail "p_py"
  k_with "binaryOp FloorDiv int int" => first | ((k_here; (with_reducible refine floordiv_int ?kbe ?_ (Or.inl (PyProof.noPylong_of_log2 ?kbp))); (case kbe => walk_at "p_ne"); (case kbp => walk_at "p_py"))) | fail "binaryOp FloorDiv int int"
  k_with "binaryOp Mod int int" => first | ((k_here; (with_reducible refine mod_int' ?kbe ?_); (case kbe => walk_at "p_ne"))) | fail "binaryOp Mod int int"
  k_with "binaryOp Mult int int" => first | ((k_here; first | (with_reducible refine mul_int ?_ (PySem.IntMulOk.of_left (PySem.intBits_le_64 ?kma ?kmb)); (case kma => omega); (case kmb => omega)) | (with_reducible refine mul_int ?_ (PySem.IntMulOk.of_right (PySem.intBits_le_64 ?kma ?kmb)); (case kma => omega); (case kmb => omega)))) | fail "binaryOp Mult int int"
  k_with "binaryOp Pow int int" => first | ((k_here; (with_reducible refine pow_int_small ?kb1 ?kb2 ?kb3 ?_); (case kb1 => omega); (case kb2 => omega); (case kb3 => decide))) | fail "binaryOp Pow int int"
  k_fill
  intro dp un gd cn cs a ccd cl outer A₀ base h₀ L m s Q E B F X T hk hd hu hpre ret
  try dsimp only at hpre
  try dsimp only at ret
  obtain ⟨hDa, hSa, hDb, hSb, hpre⟩ := hpre
  obtain ⟨ta, ua, ia⟩ := id hDa
  obtain ⟨tb, ub, ib⟩ := id hDb
  obtain ⟨sa1, sa2, sa3, sa4⟩ := id hSa
  obtain ⟨sb1, sb2, sb3, sb4⟩ := id hSb
  obtain ⟨hm1, hm2, hm3⟩ := mn_le e1 e2
  try dsimp only [mn] at hm1 hm2 hm3
  refine wpAny_call ?_
  k_dflt (walk_at "p_enter")
  k_steps
  all_goals ((try dsimp only); (try k_unfold); (try dsimp only [Done]); refine done_F3 ret (by assumption) (by assumption) (by k_mem) ?_ ?_ ?_)
  all_goals rfl
end
section
theorem c_negated {w mean mg mb} (A : Addr) (x1 e1 : Int) : Calls w mean mg mb 66 1 [.ref A] (fun h => Dec h A x1 e1 ∧ Sm x1 e1 ∧ True) (RetF (0 - x1) e1) := by
  unfold Calls
  k_with_none
  k_with "p_enter" => first | ((refine' enter_pure ?k1 ?k2 ?k3 ?k5 ?kA ?kF ?kK ?k6 ?k7 ?k8 ?k9 ?kB ?_ ?c2 ?c3 ?c4 ?c5; (case kA => exact rfl); (case kF => exact rfl); (case kK => assumption); (case k1 => k_asm); (case k2 => k_asm); (case k3 => k_asm); (case k5 => k_asm); (case k6 => k_is); (case k7 => k_is); (case k8 => ktr_room); (case k9 => exact BindsTo.of_eq rfl); (case c5 => decide); (case kB => exact locs rfl); (case c2 => exact rfl); (case c3 => exact rfl); (case c4 => exact rfl); k_whole; intro L' h' F' N' B' X' T'; (try dsimp only); (try k_fold))) | fail "p_enter"
  k_with "h_enter" => first | ((refine' enter_hand ?k1 ?k2 ?kN ?k3 ?k5 ?kA ?kF ?kK ?k6 ?k7 ?k8 ?k9 ?kB ?_ ?c2 ?c3 ?c4 ?c5; (case kA => exact rfl); (case kF => exact rfl); (case kK => assumption); (case k1 => k_asm); (case k2 => k_asm); (case kN => k_asm); (case k3 => k_asm); (case k5 => k_asm); (case k6 => k_is); (case k7 => k_is); (case k8 => ktr_room); (case k9 => exact BindsTo.of_eq rfl); (case c5 => decide); (case kB => exact locs rfl); (case c2 => exact rfl); (case c3 => exact rfl); (case c4 => exact rfl); k_whole)) | fail "h_enter"
  k_with "subscriptTail" => first | ((k_here; (with_reducible show wpAny _ _ (subscriptTail _ _ (Value.ref _) (Value.int _ _)) _ _ _); k_dflt (refine' item_tupleT ?t ?a ?b ?c ?d ?_; (case t => exact Fr.tup (by assumption) (by assumption)); (case a => decide); (case b => decide); (case c => rfl); (case d => rfl); k_whole))) | fail "subscriptTail"
  k_with "k_ne" => first | (first | exact ne_all (by with_reducible assumption) (by k_mem) | exact ne_all' (by with_reducible assumption) (by k_mem) | fail "k_ne") | fail "k_ne"
  k_with "p_sm" => first | (first | with_reducible assumption | exact Sm.neg (by with_reducible assumption) | exact sm_lit (by omega) (by omega) (by omega) (by omega)) | fail "p_sm"
  k_with "p_room" => first | (first | with_reducible assumption | exact (‹(_ : Int) < 0 → Room _ _ _›) (by with_reducible assumption) | exact rd_room1 (by with_reducible assumption) (by with_reducible assumption) (by with_reducible assumption) (by first | exact .inl rfl | exact .inr rfl) | exact rd_room2 (by with_reducible assumption) (by with_reducible assumption) (by with_reducible assumption) (by first | exact .inl rfl | exact .inr rfl)) | fail "p_room"
  k_with "p_half" => first | (first | with_reducible exact half_gt (by with_reducible assumption) | with_reducible exact half_tie (by with_reducible assumption) (by with_reducible assumption) | with_reducible exact half_lt (by with_reducible assumption) (by with_reducible assumption) | with_reducible exact half_even (by with_reducible assumption) (by with_reducible assumption)) | fail "p_half"
  k_with "p_rd" => first | (first | exact dec_eq (dec_base (by assumption) (by with_reducible assumption)) ⟨rd_sameX (.inl (by with_reducible assumption)), rd_sameE (.inl (by with_reducible assumption))⟩ | exact dec_eq (dec_base (by assumption) (by with_reducible assumption)) ⟨rd_sameX (.inr (by with_reducible assumption)), rd_sameE (.inr (by with_reducible assumption))⟩ | exact dec_eq (dec_news (by assumption) (by k_mem)) (rd_pos (by with_reducible assumption) (by with_reducible assumption) (by walk_at "p_half") (by with_reducible assumption) (by with_reducible assumption)) | exact dec_eq (dec_news (by assumption) (by k_mem)) (rd_neg (by with_reducible assumption) (by with_reducible assumption) (by walk_at "p_half") (by with_reducible assumption) (by with_reducible assumption)) | exact dec_eq ⟨_, _, tupK (Frag.In.keeps (by assumption) (Fr.keep (by assumption))) (by k_is)⟩ (rd_zero (by with_reducible assumption) (by with_reducible assumption) (by walk_at "p_half") (by with_reducible assumption))) | fail "p_rd"
  k_with "p_ne" => first | (first | exact pow10_ne _ | with_reducible assumption | exact root_ne (by with_reducible assumption) | omega) | fail "p_ne"
  k_with "p_py" => first | (first | decide +kernel | exact py_pow (by omega) | exact root_py (by with_reducible assumption) | exact py_of (k := 20) (by decide) (by omega) | exact py_of (k := 60) (by decide) (by omega)) | fail "p_py"
  k_with "binaryOp FloorDiv int int" => first | ((k_here; (with_reducible refine floordiv_int ?kbe ?_ (Or.inl (PyProof.noPylong_of_log2 ?kbp))); (case kbe => walk_at "p_ne"); (case kbp => walk_at "p_py"))) | fail "binaryOp FloorDiv int int"
  k_with "binaryOp Mod int int" => first | ((k_here; (with_reducible refine mod_int' ?kbe ?_); (case kbe => walk_at "p_ne"))) | fail "binaryOp Mod int int"
  k_with "binaryOp Mult int int" => first | ((k_here; first | (with_reducible refine mul_int ?_ (PySem.IntMulOk.of_left (PySem.intBits_le_64 ?kma ?kmb)); (case kma => omega); (case kmb => omega)) | (with_reducible refine mul_int ?_ (PySem.IntMulOk.of_right (PySem.intBits_le_64 ?kma ?kmb)); (case kma => omega); (case kmb => omega)))) | fail "binaryOp Mult int int"
  k_with "binaryOp Pow int int" => first | ((k_here; (with_reducible refine pow_int_small ?kb1 ?kb2 ?kb3 ?_); (case kb1 => omega); (case kb2 => omega); (case kb3 => decide))) | fail "binaryOp Pow int int"
  k_fill
  intro dp un gd cn cs a ccd cl outer A₀ base h₀ L m s Q E B F X T hk hd hu hpre ret
  try dsimp only at hpre
  try dsimp only at ret
  obtain ⟨hDa, hSa, hpre⟩ := hpre
  obtain ⟨ta, ua, ia⟩ := id hDa
  obtain ⟨sa1, sa2, sa3, sa4⟩ := id hSa
  refine wpAny_call ?_
  k_dflt (walk_at "p_enter")
  k_steps
  all_goals ((try dsimp only); (try k_unfold); (try dsimp only [Done]); refine done_F ret (by assumption) (by assumption) (by k_mem) ?_ ?_)
  all_goals rfl
end
section
theorem c_floor {w mean mg mb} (A : Addr) (x1 e1 : Int) : Calls w mean mg mb 122 1 [.ref A] (fun h => Dec h A x1 e1 ∧ Sm x1 e1 ∧ True) (RetI (flo x1 e1)) := by
  unfold Calls
  k_with_none
  k_with "p_enter" => first | ((refine' enter_pure ?k1 ?k2 ?k3 ?k5 ?kA ?kF ?kK ?k6 ?k7 ?k8 ?k9 ?kB ?_ ?c2 ?c3 ?c4 ?c5; (case kA => exact rfl); (case kF => exact rfl); (case kK => assumption); (case k1 => k_asm); (case k2 => k_asm); (case k3 => k_asm); (case k5 => k_asm); (case k6 => k_is); (case k7 => k_is); (case k8 => ktr_room); (case k9 => exact BindsTo.of_eq rfl); (case c5 => decide); (case kB => exact locs rfl); (case c2 => exact rfl); (case c3 => exact rfl); (case c4 => exact rfl); k_whole; intro L' h' F' N' B' X' T'; (try dsimp only); (try k_fold))) | fail "p_enter"
  k_with "h_enter" => first | ((refine' enter_hand ?k1 ?k2 ?kN ?k3 ?k5 ?kA ?kF ?kK ?k6 ?k7 ?k8 ?k9 ?kB ?_ ?c2 ?c3 ?c4 ?c5; (case kA => exact rfl); (case kF => exact rfl); (case kK => assumption); (case k1 => k_asm); (case k2 => k_asm); (case kN => k_asm); (case k3 => k_asm); (case k5 => k_asm); (case k6 => k_is); (case k7 => k_is); (case k8 => ktr_room); (case k9 => exact BindsTo.of_eq rfl); (case c5 => decide); (case kB => exact locs rfl); (case c2 => exact rfl); (case c3 => exact rfl); (case c4 => exact rfl); k_whole)) | fail "h_enter"
  k_with "subscriptTail" => first | ((k_here; (with_reducible show wpAny _ _ (subscriptTail _ _ (Value.ref _) (Value.int _ _)) _ _ _); k_dflt (refine' item_tupleT ?t ?a ?b ?c ?d ?_; (case t => exact Fr.tup (by assumption) (by assumption)); (case a => decide); (case b => decide); (case c => rfl); (case d => rfl); k_whole))) | fail "subscriptTail"
  k_with "k_ne" => first | (first | exact ne_all (by with_reducible assumption) (by k_mem) | exact ne_all' (by with_reducible assumption) (by k_mem) | fail "k_ne") | fail "k_ne"
  k_with "p_sm" => first | (first | with_reducible assumption | exact Sm.neg (by with_reducible assumption) | exact sm_lit (by omega) (by omega) (by omega) (by omega)) | fail "p_sm"
  k_with "p_room" => first | (first | with_reducible assumption | exact (‹(_ : Int) < 0 → Room _ _ _›) (by with_reducible assumption) | exact rd_room1 (by with_reducible assumption) (by with_reducible assumption) (by with_reducible assumption) (by first | exact .inl rfl | exact .inr rfl) | exact rd_room2 (by with_reducible assumption) (by with_reducible assumption) (by with_reducible assumption) (by first | exact .inl rfl | exact .inr rfl)) | fail "p_room"
  k_with "p_half" => first | (first | with_reducible exact half_gt (by with_reducible assumption) | with_reducible exact half_tie (by with_reducible assumption) (by with_reducible assumption) | with_reducible exact half_lt (by with_reducible assumption) (by with_reducible assumption) | with_reducible exact half_even (by with_reducible assumption) (by with_reducible assumption)) | fail "p_half"
  k_with "p_rd" => first | (first | exact dec_eq (dec_base (by assumption) (by with_reducible assumption)) ⟨rd_sameX (.inl (by with_reducible assumption)), rd_sameE (.inl (by with_reducible assumption))⟩ | exact dec_eq (dec_base (by assumption) (by with_reducible assumption)) ⟨rd_sameX (.inr (by with_reducible assumption)), rd_sameE (.inr (by with_reducible assumption))⟩ | exact dec_eq (dec_news (by assumption) (by k_mem)) (rd_pos (by with_reducible assumption) (by with_reducible assumption) (by walk_at "p_half") (by with_reducible assumption) (by with_reducible assumption)) | exact dec_eq (dec_news (by assumption) (by k_mem)) (rd_neg (by with_reducible assumption) (by with_reducible assumption) (by walk_at "p_half") (by with_reducible assumption) (by with_reducible assumption)) | exact dec_eq ⟨_, _, tupK (Frag.In.keeps (by assumption) (Fr.keep (by assumption))) (by k_is)⟩ (rd_zero (by with_reducible assumption) (by with_reducible assumption) (by walk_at "p_half") (by with_reducible assumption))) | fail "p_rd"
  k_with "p_ne" => first | (first | exact pow10_ne _ | with_reducible assumption | exact root_ne (by with_reducible assumption) | omega) | fail "p_ne"
  k_with "p_py" => first | (first | decide +kernel | exact py_pow (by omega) | exact root_py (by with_reducible assumption) | exact py_of (k := 20) (by decide) (by omega) | exact py_of (k := 60) (by decide) (by omega)) | fail "p_py"
  k_with "binaryOp FloorDiv int int" => first | ((k_here; (with_reducible refine floordiv_int ?kbe ?_ (Or.inl (PyProof.noPylong_of_log2 ?kbp))); (case kbe => walk_at "p_ne"); (case kbp => walk_at "p_py"))) | fail "binaryOp FloorDiv int int"
  k_with "binaryOp Mod int int" => first | ((k_here; (with_reducible refine mod_int' ?kbe ?_); (case kbe => walk_at "p_ne"))) | fail "binaryOp Mod int int"
  k_with "binaryOp Mult int int" => first | ((k_here; first | (with_reducible refine mul_int ?_ (PySem.IntMulOk.of_left (PySem.intBits_le_64 ?kma ?kmb)); (case kma => omega); (case kmb => omega)) | (with_reducible refine mul_int ?_ (PySem.IntMulOk.of_right (PySem.intBits_le_64 ?kma ?kmb)); (case kma => omega); (case kmb => omega)))) | fail "binaryOp Mult int int"
  k_with "binaryOp Pow int int" => first | ((k_here; (with_reducible refine pow_int_small ?kb1 ?kb2 ?kb3 ?_); (case kb1 => omega); (case kb2 => omega); (case kb3 => decide))) | fail "binaryOp Pow int int"
  k_fill
  intro dp un gd cn cs a ccd cl outer A₀ base h₀ L m s Q E B F X T hk hd hu hpre ret
  try dsimp only at hpre
  try dsimp only at ret
  obtain ⟨hDa, hSa, hpre⟩ := hpre
  obtain ⟨ta, ua, ia⟩ := id hDa
  obtain ⟨sa1, sa2, sa3, sa4⟩ := id hSa
  refine wpAny_call ?_
  k_dflt (walk_at "p_enter")
  k_steps
  all_goals ((try dsimp only); (try k_unfold); (try dsimp only [Done]); refine done_I ret (by assumption) ?_)
  all_goals (clear ret)
  all_goals (unfold flo; first | rw [if_pos (by assumption)] | rw [if_neg (by assumption)])
end
section
theorem c_compare {w mean mg mb} (A : Addr) (x1 e1 : Int) (Bd : Addr) (x2 e2 : Int) : Calls w mean mg mb 115 2 [.ref A, .ref Bd] (fun h => Dec h A x1 e1 ∧ Sm x1 e1 ∧ Dec h Bd x2 e2 ∧ Sm x2 e2 ∧ True) (RetI (cmp (sh x1 e1 (mn e1 e2)) (sh x2 e2 (mn e1 e2)))) := by
  unfold Calls
  k_with_none
  k_with "p_enter" => first | ((refine' enter_pure ?k1 ?k2 ?k3 ?k5 ?kA ?kF ?kK ?k6 ?k7 ?k8 ?k9 ?kB ?_ ?c2 ?c3 ?c4 ?c5; (case kA => exact rfl); (case kF => exact rfl); (case kK => assumption); (case k1 => k_asm); (case k2 => k_asm); (case k3 => k_asm); (case k5 => k_asm); (case k6 => k_is); (case k7 => k_is); (case k8 => ktr_room); (case k9 => exact BindsTo.of_eq rfl); (case c5 => decide); (case kB => exact locs rfl); (case c2 => exact rfl); (case c3 => exact rfl); (case c4 => exact rfl); k_whole; intro L' h' F' N' B' X' T'; (try dsimp only); (try k_fold))) | fail "p_enter"
  k_with "h_enter" => first | ((refine' enter_hand ?k1 ?k2 ?kN ?k3 ?k5 ?kA ?kF ?kK ?k6 ?k7 ?k8 ?k9 ?kB ?_ ?c2 ?c3 ?c4 ?c5; (case kA => exact rfl); (case kF => exact rfl); (case kK => assumption); (case k1 => k_asm); (case k2 => k_asm); (case kN => k_asm); (case k3 => k_asm); (case k5 => k_asm); (case k6 => k_is); (case k7 => k_is); (case k8 => ktr_room); (case k9 => exact BindsTo.of_eq rfl); (case c5 => decide); (case kB => exact locs rfl); (case c2 => exact rfl); (case c3 => exact rfl); (case c4 => exact rfl); k_whole)) | fail "h_enter"
  k_with "subscriptTail" => first | ((k_here; (with_reducible show wpAny _ _ (subscriptTail _ _ (Value.ref _) (Value.int _ _)) _ _ _); k_dflt (refine' item_tupleT ?t ?a ?b ?c ?d ?_; (case t => exact Fr.tup (by assumption) (by assumption)); (case a => decide); (case b => decide); (case c => rfl); (case d => rfl); k_whole))) | fail "subscriptTail"
  k_with "k_ne" => first | (first | exact ne_all (by with_reducible assumption) (by k_mem) | exact ne_all' (by with_reducible assumption) (by k_mem) | fail "k_ne") | fail "k_ne"
  k_with "p_sm" => first | (first | with_reducible assumption | exact Sm.neg (by with_reducible assumption) | exact sm_lit (by omega) (by omega) (by omega) (by omega)) | fail "p_sm"
  k_with "p_room" => first | (first | with_reducible assumption | exact (‹(_ : Int) < 0 → Room _ _ _›) (by with_reducible assumption) | exact rd_room1 (by with_reducible assumption) (by with_reducible assumption) (by with_reducible assumption) (by first | exact .inl rfl | exact .inr rfl) | exact rd_room2 (by with_reducible assumption) (by with_reducible assumption) (by with_reducible assumption) (by first | exact .inl rfl | exact .inr rfl)) | fail "p_room"
  k_with "p_half" => first | (first | with_reducible exact half_gt (by with_reducible assumption) | with_reducible exact half_tie (by with_reducible assumption) (by with_reducible assumption) | with_reducible exact half_lt (by with_reducible assumption) (by with_reducible assumption) | with_reducible exact half_even (by with_reducible assumption) (by with_reducible assumption)) | fail "p_half"
  k_with "p_rd" => first | (first | exact dec_eq (dec_base (by assumption) (by with_reducible assumption)) ⟨rd_sameX (.inl (by with_reducible assumption)), rd_sameE (.inl (by with_reducible assumption))⟩ | exact dec_eq (dec_base (by assumption) (by with_reducible assumption)) ⟨rd_sameX (.inr (by with_reducible assumption)), rd_sameE (.inr (by with_reducible assumption))⟩ | exact dec_eq (dec_news (by assumption) (by k_mem)) (rd_pos (by with_reducible assumption) (by with_reducible assumption) (by walk_at "p_half") (by with_reducible assumption) (by with_reducible assumption)) | exact dec_eq (dec_news (by assumption) (by k_mem)) (rd_neg (by with_reducible assumption) (by with_reducible assumption) (by walk_at "p_half") (by with_reducible assumption) (by with_reducible assumption)) | exact dec_eq ⟨_, _, tupK (Frag.In.keeps (by assumption) (Fr.keep (by assumption))) (by k_is)⟩ (rd_zero (by with_reducible assumption) (by with_reducible assumption) (by walk_at "p_half") (by with_reducible assumption))) | fail "p_rd"
  k_with "p_ne" => first | (first | exact pow10_ne _ | with_reducible assumption | exact root_ne (by with_reducible assumption) | omega) | fail "p_ne"
  k_with "p_py" => first | (first | decide +kernel | exact py_pow (by omega) | exact root_py (by with_reducible assumption) | exact py_of (k := 20) (by decide) (by omega) | exact py_of (k := 60) (by decide) (by omega)) | fail "p_py"
  k_with "binaryOp FloorDiv int int" => first | ((k_here; (with_reducible refine floordiv_int ?kbe ?_ (Or.inl (PyProof.noPylong_of_log2 ?kbp))); (case kbe => walk_at "p_ne"); (case kbp => walk_at "p_py"))) | fail "binaryOp FloorDiv int int"
  k_with "binaryOp Mod int int" => first | ((k_here; (with_reducible refine mod_int' ?kbe ?_); (case kbe => walk_at "p_ne"))) | fail "binaryOp Mod int int"
  k_with "binaryOp Mult int int" => first | ((k_here; first | (with_reducible refine mul_int ?_ (PySem.IntMulOk.of_left (PySem.intBits_le_64 ?kma ?kmb)); (case kma => omega); (case kmb => omega)) | (with_reducible refine mul_int ?_ (PySem.IntMulOk.of_right (PySem.intBits_le_64 ?kma ?kmb)); (case kma => omega); (case kmb => omega)))) | fail "binaryOp Mult int int"
  k_with "binaryOp Pow int int" => first | ((k_here; (with_reducible refine pow_int_small ?kb1 ?kb2 ?kb3 ?_); (case kb1 => omega); (case kb2 => omega); (case kb3 => decide))) | fail "binaryOp Pow int int"
  k_with "call ref" => first | ((k_here; k_dflt (refine' use_F3 (c_alike _ _ _ _ _ _) ?k1 ?k2 ?k3 ?k4 ?k5 ?kK ?kd ?ku ?kp ?_; (case k1 => k_asm); (case k2 => k_asm); (case k3 => k_asm); (case k4 => k_asm); (case k5 => k_asm); (case kK => first | exact rfl | assumption); (case kd => ktr_room); (case ku => ktr_units); (case kp => first | trivial | ((try dsimp only); exact ⟨(by first | exact dec_base (by assumption) (by assumption) | exact dec_news (by assumption) (by k_mem)), (by walk_at "p_sm"), (by first | exact dec_base (by assumption) (by assumption) | exact dec_news (by assumption) (by k_mem)), (by walk_at "p_sm"), True.intro⟩)); intro D9 t9 u9 v9 h9 tk9 F9 N9 hne9; (try dsimp only); (try k_fold)))) | fail "call ref"
  k_fill
  intro dp un gd cn cs a ccd cl outer A₀ base h₀ L m s Q E B F X T hk hd hu hpre ret
  try dsimp only at hpre
  try dsimp only at ret
  obtain ⟨hDa, hSa, hDb, hSb, hpre⟩ := hpre
  obtain ⟨ta, ua, ia⟩ := id hDa
  obtain ⟨tb, ub, ib⟩ := id hDb
  obtain ⟨sa1, sa2, sa3, sa4⟩ := id hSa
  obtain ⟨sb1, sb2, sb3, sb4⟩ := id hSb
  refine wpAny_call ?_
  k_dflt (walk_at "p_enter")
  k_steps
  all_goals ((try dsimp only); (try k_unfold); (try dsimp only [Done]); refine done_I ret (by assumption) ?_)
  exact cmp_b2i _ _
end
section
theorem c_exactorder {w mean mg mb} (A : Addr) (x1 e1 : Int) (Bd : Addr) (x2 e2 : Int) : Calls w mean mg mb 185 1 [.ref A, .ref Bd] (fun h => Dec h A x1 e1 ∧ Sm x1 e1 ∧ Dec h Bd x2 e2 ∧ Sm x2 e2 ∧ True) (RetI (xo (sh x1 e1 (mn e1 e2)) (sh x2 e2 (mn e1 e2)))) := by
  unfold Calls
  k_with_none
  k_with "p_enter" => first | ((refine' enter_pure ?k1 ?k2 ?k3 ?k5 ?kA ?kF ?kK ?k6 ?k7 ?k8 ?k9 ?kB ?_ ?c2 ?c3 ?c4 ?c5; (case kA => exact rfl); (case kF => exact rfl); (case kK => assumption); (case k1 => k_asm); (case k2 => k_asm); (case k3 => k_asm); (case k5 => k_asm); (case k6 => k_is); (case k7 => k_is); (case k8 => ktr_room); (case k9 => exact BindsTo.of_eq rfl); (case c5 => decide); (case kB => exact locs rfl); (case c2 => exact rfl); (case c3 => exact rfl); (case c4 => exact rfl); k_whole; intro L' h' F' N' B' X' T'; (try dsimp only); (try k_fold))) | fail "p_enter"
  k_with "h_enter" => first | ((refine' enter_hand ?k1 ?k2 ?kN ?k3 ?k5 ?kA ?kF ?kK ?k6 ?k7 ?k8 ?k9 ?kB ?_ ?c2 ?c3 ?c4 ?c5; (case kA => exact rfl); (case kF => exact rfl); (case kK => assumption); (case k1 => k_asm); (case k2 => k_asm); (case kN => k_asm); (case k3 => k_asm); (case k5 => k_asm); (case k6 => k_is); (case k7 => k_is); (case k8 => ktr_room); (case k9 => exact BindsTo.of_eq rfl); (case c5 => decide); (case kB => exact locs rfl); (case c2 => exact rfl); (case c3 => exact rfl); (case c4 => exact rfl); k_whole)) | fail "h_enter"
  k_with "subscriptTail" => first | ((k_here; (with_reducible show wpAny _ _ (subscriptTail _ _ (Value.ref _) (Value.int _ _)) _ _ _); k_dflt (refine' item_tupleT ?t ?a ?b ?c ?d ?_; (case t => exact Fr.tup (by assumption) (by assumption)); (case a => decide); (case b => decide); (case c => rfl); (case d => rfl); k_whole))) | fail "subscriptTail"
  k_with "k_ne" => first | (first | exact ne_all (by with_reducible assumption) (by k_mem) | exact ne_all' (by with_reducible assumption) (by k_mem) | fail "k_ne") | fail "k_ne"
  k_with "p_sm" => first | (first | with_reducible assumption | exact Sm.neg (by with_reducible assumption) | exact sm_lit (by omega) (by omega) (by omega) (by omega)) | fail "p_sm"
  k_with "p_room" => first | (first | with_reducible assumption | exact (‹(_ : Int) < 0 → Room _ _ _›) (by with_reducible assumption) | exact rd_room1 (by with_reducible assumption) (by with_reducible assumption) (by with_reducible assumption) (by first | exact .inl rfl | exact .inr rfl) | exact rd_room2 (by with_reducible assumption) (by with_reducible assumption) (by with_reducible assumption) (by first | exact .inl rfl | exact .inr rfl)) | fail "p_room"
  k_with "p_half" => first | (first | with_reducible exact half_gt (by with_reducible assumption) | with_reducible exact half_tie (by with_reducible assumption) (by with_reducible assumption) | with_reducible exact half_lt (by with_reducible assumption) (by with_reducible assumption) | with_reducible exact half_even (by with_reducible assumption) (by with_reducible assumption)) | fail "p_half"
  k_with "p_rd" => first | (first | exact dec_eq (dec_base (by assumption) (by with_reducible assumption)) ⟨rd_sameX (.inl (by with_reducible assumption)), rd_sameE (.inl (by with_reducible assumption))⟩ | exact dec_eq (dec_base (by assumption) (by with_reducible assumption)) ⟨rd_sameX (.inr (by with_reducible assumption)), rd_sameE (.inr (by with_reducible assumption))⟩ | exact dec_eq (dec_news (by assumption) (by k_mem)) (rd_pos (by with_reducible assumption) (by with_reducible assumption) (by walk_at "p_half") (by with_reducible assumption) (by with_reducible assumption)) | exact dec_eq (dec_news (by assumption) (by k_mem)) (rd_neg (by with_reducible assumption) (by with_reducible assumption) (by walk_at "p_half") (by with_reducible assumption) (by with_reducible assumption)) | exact dec_eq ⟨_, _, tupK (Frag.In.keeps (by assumption) (Fr.keep (by assumption))) (by k_is)⟩ (rd_zero (by with_reducible assumption) (by with_reducible assumption) (by walk_at "p_half") (by with_reducible assumption))) | fail "p_rd"
  k_with "p_ne" => first | (first | exact pow10_ne _ | with_reducible assumption | exact root_ne (by with_reducible assumption) | omega) | fail "p_ne"
  k_with "p_py" => first | (first | decide +kernel | exact py_pow (by omega) | exact root_py (by with_reducible assumption) | exact py_of (k := 20) (by decide) (by omega) | exact py_of (k := 60) (by decide) (by omega)) | fail "p_py"
  k_with "binaryOp FloorDiv int int" => first | ((k_here; (with_reducible refine floordiv_int ?kbe ?_ (Or.inl (PyProof.noPylong_of_log2 ?kbp))); (case kbe => walk_at "p_ne"); (case kbp => walk_at "p_py"))) | fail "binaryOp FloorDiv int int"
  k_with "binaryOp Mod int int" => first | ((k_here; (with_reducible refine mod_int' ?kbe ?_); (case kbe => walk_at "p_ne"))) | fail "binaryOp Mod int int"
  k_with "binaryOp Mult int int" => first | ((k_here; first | (with_reducible refine mul_int ?_ (PySem.IntMulOk.of_left (PySem.intBits_le_64 ?kma ?kmb)); (case kma => omega); (case kmb => omega)) | (with_reducible refine mul_int ?_ (PySem.IntMulOk.of_right (PySem.intBits_le_64 ?kma ?kmb)); (case kma => omega); (case kmb => omega)))) | fail "binaryOp Mult int int"
  k_with "binaryOp Pow int int" => first | ((k_here; (with_reducible refine pow_int_small ?kb1 ?kb2 ?kb3 ?_); (case kb1 => omega); (case kb2 => omega); (case kb3 => decide))) | fail "binaryOp Pow int int"
  k_fill
  intro dp un gd cn cs a ccd cl outer A₀ base h₀ L m s Q E B F X T hk hd hu hpre ret
  try dsimp only at hpre
  try dsimp only at ret
  obtain ⟨hDa, hSa, hDb, hSb, hpre⟩ := hpre
  obtain ⟨ta, ua, ia⟩ := id hDa
  obtain ⟨tb, ub, ib⟩ := id hDb
  obtain ⟨sa1, sa2, sa3, sa4⟩ := id hSa
  obtain ⟨sb1, sb2, sb3, sb4⟩ := id hSb
  obtain ⟨hm1, hm2, hm3⟩ := mn_le e1 e2
  try dsimp only [mn] at hm1 hm2 hm3
  refine wpAny_call ?_
  k_dflt (walk_at "p_enter")
  k_steps
  all_goals ((try dsimp only); (try k_unfold); (try dsimp only [Done]); refine done_I ret (by assumption) ?_)
  all_goals (clear ret)
  all_goals with_reducible first | exact xo_1 (by assumption) | exact xo_2 (by assumption) (by assumption) | exact xo_3 (by assumption) (by assumption)
end
section
theorem c_inorder {w mean mg mb} (A : Addr) (x1 e1 : Int) (Bd : Addr) (x2 e2 : Int) : Calls w mean mg mb 178 3 [.ref A, .ref Bd] (fun h => Dec h A x1 e1 ∧ Sm x1 e1 ∧ Dec h Bd x2 e2 ∧ Sm x2 e2 ∧ True) (RetB (decide (sh x1 e1 (mn e1 e2) ≤ sh x2 e2 (mn e1 e2)))) := by
  unfold Calls
  k_with_none
  k_with "p_enter" => first | ((refine' enter_pure ?k1 ?k2 ?k3 ?k5 ?kA ?kF ?kK ?k6 ?k7 ?k8 ?k9 ?kB ?_ ?c2 ?c3 ?c4 ?c5; (case kA => exact rfl); (case kF => exact rfl); (case kK => assumption); (case k1 => k_asm); (case k2 => k_asm); (case k3 => k_asm); (case k5 => k_asm); (case k6 => k_is); (case k7 => k_is); (case k8 => ktr_room); (case k9 => exact BindsTo.of_eq rfl); (case c5 => decide); (case kB => exact locs rfl); (case c2 => exact rfl); (case c3 => exact rfl); (case c4 => exact rfl); k_whole; intro L' h' F' N' B' X' T'; (try dsimp only); (try k_fold))) | fail "p_enter"
  k_with "h_enter" => first | ((refine' enter_hand ?k1 ?k2 ?kN ?k3 ?k5 ?kA ?kF ?kK ?k6 ?k7 ?k8 ?k9 ?kB ?_ ?c2 ?c3 ?c4 ?c5; (case kA => exact rfl); (case kF => exact rfl); (case kK => assumption); (case k1 => k_asm); (case k2 => k_asm); (case kN => k_asm); (case k3 => k_asm); (case k5 => k_asm); (case k6 => k_is); (case k7 => k_is); (case k8 => ktr_room); (case k9 => exact BindsTo.of_eq rfl); (case c5 => decide); (case kB => exact locs rfl); (case c2 => exact rfl); (case c3 => exact rfl); (case c4 => exact rfl); k_whole)) | fail "h_enter"
  k_with "subscriptTail" => first | ((k_here; (with_reducible show wpAny _ _ (subscriptTail _ _ (Value.ref _) (Value.int _ _)) _ _ _); k_dflt (refine' item_tupleT ?t ?a ?b ?c ?d ?_; (case t => exact Fr.tup (by assumption) (by assumption)); (case a => decide); (case b => decide); (case c => rfl); (case d => rfl); k_whole))) | fail "subscriptTail"
  k_with "k_ne" => first | (first | exact ne_all (by with_reducible assumption) (by k_mem) | exact ne_all' (by with_reducible assumption) (by k_mem) | fail "k_ne") | fail "k_ne"
  k_with "p_sm" => first | (first | with_reducible assumption | exact Sm.neg (by with_reducible assumption) | exact sm_lit (by omega) (by omega) (by omega) (by omega)) | fail "p_sm"
  k_with "p_room" => first | (first | with_reducible assumption | exact (‹(_ : Int) < 0 → Room _ _ _›) (by with_reducible assumption) | exact rd_room1 (by with_reducible assumption) (by with_reducible assumption) (by with_reducible assumption) (by first | exact .inl rfl | exact .inr rfl) | exact rd_room2 (by with_reducible assumption) (by with_reducible assumption) (by with_reducible assumption) (by first | exact .inl rfl | exact .inr rfl)) | fail "p_room"
  k_with "p_half" => first | (first | with_reducible exact half_gt (by with_reducible assumption) | with_reducible exact half_tie (by with_reducible assumption) (by with_reducible assumption) | with_reducible exact half_lt (by with_reducible assumption) (by with_reducible assumption) | with_reducible exact half_even (by with_reducible assumption) (by with_reducible assumption)) | fail "p_half"
  k_with "p_rd" => first | (first | exact dec_eq (dec_base (by assumption) (by with_reducible assumption)) ⟨rd_sameX (.inl (by with_reducible assumption)), rd_sameE (.inl (by with_reducible assumption))⟩ | exact dec_eq (dec_base (by assumption) (by with_reducible assumption)) ⟨rd_sameX (.inr (by with_reducible assumption)), rd_sameE (.inr (by with_reducible assumption))⟩ | exact dec_eq (dec_news (by assumption) (by k_mem)) (rd_pos (by with_reducible assumption) (by with_reducible assumption) (by walk_at "p_half") (by with_reducible assumption) (by with_reducible assumption)) | exact dec_eq (dec_news (by assumption) (by k_mem)) (rd_neg (by with_reducible assumption) (by with_reducible assumption) (by walk_at "p_half") (by with_reducible assumption) (by with_reducible assumption)) | exact dec_eq ⟨_, _, tupK (Frag.In.keeps (by assumption) (Fr.keep (by assumption))) (by k_is)⟩ (rd_zero (by with_reducible assumption) (by with_reducible assumption) (by walk_at "p_half") (by with_reducible assumption))) | fail "p_rd"
  k_with "p_ne" => first | (first | exact pow10_ne _ | with_reducible assumption | exact root_ne (by with_reducible assumption) | omega) | fail "p_ne"
  k_with "p_py" => first | (first | decide +kernel | exact py_pow (by omega) | exact root_py (by with_reducible assumption) | exact py_of (k := 20) (by decide) (by omega) | exact py_of (k := 60) (by decide) (by omega)) | fail "p_py"
  k_with "binaryOp FloorDiv int int" => first | ((k_here; (with_reducible refine floordiv_int ?kbe ?_ (Or.inl (PyProof.noPylong_of_log2 ?kbp))); (case kbe => walk_at "p_ne"); (case kbp => walk_at "p_py"))) | fail "binaryOp FloorDiv int int"
  k_with "binaryOp Mod int int" => first | ((k_here; (with_reducible refine mod_int' ?kbe ?_); (case kbe => walk_at "p_ne"))) | fail "binaryOp Mod int int"
  k_with "binaryOp Mult int int" => first | ((k_here; first | (with_reducible refine mul_int ?_ (PySem.IntMulOk.of_left (PySem.intBits_le_64 ?kma ?kmb)); (case kma => omega); (case kmb => omega)) | (with_reducible refine mul_int ?_ (PySem.IntMulOk.of_right (PySem.intBits_le_64 ?kma ?kmb)); (case kma => omega); (case kmb => omega)))) | fail "binaryOp Mult int int"
  k_with "binaryOp Pow int int" => first | ((k_here; (with_reducible refine pow_int_small ?kb1 ?kb2 ?kb3 ?_); (case kb1 => omega); (case kb2 => omega); (case kb3 => decide))) | fail "binaryOp Pow int int"
  k_with "call ref" => first | ((k_here; k_dflt (refine' use_I (c_compare _ _ _ _ _ _) ?k1 ?k2 ?k3 ?k4 ?k5 ?kK ?kd ?ku ?kp ?_; (case k1 => k_asm); (case k2 => k_asm); (case k3 => k_asm); (case k4 => k_asm); (case k5 => k_asm); (case kK => first | exact rfl | assumption); (case kd => ktr_room); (case ku => ktr_units); (case kp => first | trivial | ((try dsimp only); exact ⟨(by first | exact dec_base (by assumption) (by assumption) | exact dec_news (by assumption) (by k_mem)), (by walk_at "p_sm"), (by first | exact dec_base (by assumption) (by assumption) | exact dec_news (by assumption) (by k_mem)), (by walk_at "p_sm"), True.intro⟩)); intro t9 h9 tk9 F9 N9; (try dsimp only); (try k_fold)))) | fail "call ref"
  k_with "call ref" => first | ((k_here; k_dflt (refine' use_I (c_exactorder _ _ _ _ _ _) ?k1 ?k2 ?k3 ?k4 ?k5 ?kK ?kd ?ku ?kp ?_; (case k1 => k_asm); (case k2 => k_asm); (case k3 => k_asm); (case k4 => k_asm); (case k5 => k_asm); (case kK => first | exact rfl | assumption); (case kd => ktr_room); (case ku => ktr_units); (case kp => first | trivial | ((try dsimp only); exact ⟨(by first | exact dec_base (by assumption) (by assumption) | exact dec_news (by assumption) (by k_mem)), (by walk_at "p_sm"), (by first | exact dec_base (by assumption) (by assumption) | exact dec_news (by assumption) (by k_mem)), (by walk_at "p_sm"), True.intro⟩)); intro t9 h9 tk9 F9 N9; (try dsimp only); (try k_fold)))) | fail "call ref"
  k_fill
  intro dp un gd cn cs a ccd cl outer A₀ base h₀ L m s Q E B F X T hk hd hu hpre ret
  try dsimp only at hpre
  try dsimp only at ret
  obtain ⟨hDa, hSa, hDb, hSb, hpre⟩ := hpre
  obtain ⟨ta, ua, ia⟩ := id hDa
  obtain ⟨tb, ub, ib⟩ := id hDb
  obtain ⟨sa1, sa2, sa3, sa4⟩ := id hSa
  obtain ⟨sb1, sb2, sb3, sb4⟩ := id hSb
  refine wpAny_call ?_
  k_dflt (walk_at "p_enter")
  k_steps
  all_goals ((try dsimp only); (try k_unfold); (try dsimp only [Done]); refine done_B ret (by assumption) ?_)
  all_goals (clear ret)
  all_goals with_reducible first | exact io_1 (by assumption) | exact io_3 (by assumption) | exact io_2 (by assumption)
end
section
theorem c_exact {w mean mg mb} (A : Addr) (x1 e1 : Int) : Calls w mean mg mb 171 1 [.ref A] (fun h => Dec h A x1 e1 ∧ Sm x1 e1 ∧ -7 ≤ e1) (RetI (x1 * 10 ^ (e1 + 7).toNat)) := by
  unfold Calls
  k_with_none
  k_with "p_enter" => first | ((refine' enter_pure ?k1 ?k2 ?k3 ?k5 ?kA ?kF ?kK ?k6 ?k7 ?k8 ?k9 ?kB ?_ ?c2 ?c3 ?c4 ?c5; (case kA => exact rfl); (case kF => exact rfl); (case kK => assumption); (case k1 => k_asm); (case k2 => k_asm); (case k3 => k_asm); (case k5 => k_asm); (case k6 => k_is); (case k7 => k_is); (case k8 => ktr_room); (case k9 => exact BindsTo.of_eq rfl); (case c5 => decide); (case kB => exact locs rfl); (case c2 => exact rfl); (case c3 => exact rfl); (case c4 => exact rfl); k_whole; intro L' h' F' N' B' X' T'; (try dsimp only); (try k_fold))) | fail "p_enter"
  k_with "h_enter" => first | ((refine' enter_hand ?k1 ?k2 ?kN ?k3 ?k5 ?kA ?kF ?kK ?k6 ?k7 ?k8 ?k9 ?kB ?_ ?c2 ?c3 ?c4 ?c5; (case kA => exact rfl); (case kF => exact rfl); (case kK => assumption); (case k1 => k_asm); (case k2 => k_asm); (case kN => k_asm); (case k3 => k_asm); (case k5 => k_asm); (case k6 => k_is); (case k7 => k_is); (case k8 => ktr_room); (case k9 => exact BindsTo.of_eq rfl); (case c5 => decide); (case kB => exact locs rfl); (case c2 => exact rfl); (case c3 => exact rfl); (case c4 => exact rfl); k_whole)) | fail "h_enter"
  k_with "subscriptTail" => first | ((k_here; (with_reducible show wpAny _ _ (subscriptTail _ _ (Value.ref _) (Value.int _ _)) _ _ _); k_dflt (refine' item_tupleT ?t ?a ?b ?c ?d ?_; (case t => exact Fr.tup (by assumption) (by assumption)); (case a => decide); (case b => decide); (case c => rfl); (case d => rfl); k_whole))) | fail "subscriptTail"
  k_with "k_ne" => first | (first | exact ne_all (by with_reducible assumption) (by k_mem) | exact ne_all' (by with_reducible assumption) (by k_mem) | fail "k_ne") | fail "k_ne"
  k_with "p_sm" => first | (first | with_reducible assumption | exact Sm.neg (by with_reducible assumption) | exact sm_lit (by omega) (by omega) (by omega) (by omega)) | fail "p_sm"
  k_with "p_room" => first | (first | with_reducible assumption | exact (‹(_ : Int) < 0 → Room _ _ _›) (by with_reducible assumption) | exact rd_room1 (by with_reducible assumption) (by with_reducible assumption) (by with_reducible assumption) (by first | exact .inl rfl | exact .inr rfl) | exact rd_room2 (by with_reducible assumption) (by with_reducible assumption) (by with_reducible assumption) (by first | exact .inl rfl | exact .inr rfl)) | fail "p_room"
  k_with "p_half" => first | (first | with_reducible exact half_gt (by with_reducible assumption) | with_reducible exact half_tie (by with_reducible assumption) (by with_reducible assumption) | with_reducible exact half_lt (by with_reducible assumption) (by with_reducible assumption) | with_reducible exact half_even (by with_reducible assumption) (by with_reducible assumption)) | fail "p_half"
  k_with "p_rd" => first | (first | exact dec_eq (dec_base (by assumption) (by with_reducible assumption)) ⟨rd_sameX (.inl (by with_reducible assumption)), rd_sameE (.inl (by with_reducible assumption))⟩ | exact dec_eq (dec_base (by assumption) (by with_reducible assumption)) ⟨rd_sameX (.inr (by with_reducible assumption)), rd_sameE (.inr (by with_reducible assumption))⟩ | exact dec_eq (dec_news (by assumption) (by k_mem)) (rd_pos (by with_reducible assumption) (by with_reducible assumption) (by walk_at "p_half") (by with_reducible assumption) (by with_reducible assumption)) | exact dec_eq (dec_news (by assumption) (by k_mem)) (rd_neg (by with_reducible assumption) (by with_reducible assumption) (by walk_at "p_half") (by with_reducible assumption) (by with_reducible assumption)) | exact dec_eq ⟨_, _, tupK (Frag.In.keeps (by assumption) (Fr.keep (by assumption))) (by k_is)⟩ (rd_zero (by with_reducible assumption) (by with_reducible assumption) (by walk_at "p_half") (by with_reducible assumption))) | fail "p_rd"
  k_with "p_ne" => first | (first | exact pow10_ne _ | with_reducible assumption | exact root_ne (by with_reducible assumption) | omega) | fail "p_ne"
  k_with "p_py" => first | (first | decide +kernel | exact py_pow (by omega) | exact root_py (by with_reducible assumption) | exact py_of (k := 20) (by decide) (by omega) | exact py_of (k := 60) (by decide) (by omega)) | fail "p_py"
  k_with "binaryOp FloorDiv int int" => first | ((k_here; (with_reducible refine floordiv_int ?kbe ?_ (Or.inl (PyProof.noPylong_of_log2 ?kbp))); (case kbe => walk_at "p_ne"); (case kbp => walk_at "p_py"))) | fail "binaryOp FloorDiv int int"
  k_with "binaryOp Mod int int" => first | ((k_here; (with_reducible refine mod_int' ?kbe ?_); (case kbe => walk_at "p_ne"))) | fail "binaryOp Mod int int"
  k_with "binaryOp Mult int int" => first | ((k_here; first | (with_reducible refine mul_int ?_ (PySem.IntMulOk.of_left (PySem.intBits_le_64 ?kma ?kmb)); (case kma => omega); (case kmb => omega)) | (with_reducible refine mul_int ?_ (PySem.IntMulOk.of_right (PySem.intBits_le_64 ?kma ?kmb)); (case kma => omega); (case kmb => omega)))) | fail "binaryOp Mult int int"
  k_with "binaryOp Pow int int" => first | ((k_here; (with_reducible refine pow_int_small ?kb1 ?kb2 ?kb3 ?_); (case kb1 => omega); (case kb2 => omega); (case kb3 => decide))) | fail "binaryOp Pow int int"
  k_fill
  intro dp un gd cn cs a ccd cl outer A₀ base h₀ L m s Q E B F X T hk hd hu hpre ret
  try dsimp only at hpre
  try dsimp only at ret
  obtain ⟨hDa, hSa, hpre⟩ := hpre
  obtain ⟨ta, ua, ia⟩ := id hDa
  obtain ⟨sa1, sa2, sa3, sa4⟩ := id hSa
  refine wpAny_call ?_
  k_dflt (walk_at "p_enter")
  k_steps
  all_goals ((try dsimp only); (try k_unfold); (try dsimp only [Done]); refine done_I ret (by assumption) ?_)
  all_goals rfl
end
section
theorem c_dealt {w mean mg mb} (H C : Addr) (o : Obj) (n many : Int) (t : Tok) (hh : HandN w o C n) (hn : n ≤ 100000) : CallsH w mean mg mb 157 1 H o [.ref H, .int many t] (fun h => Cards h C ∧ 0 < many) (RetH w H C n many) := by
  unfold CallsH
  k_with_none
  k_with "p_enter" => first | ((refine' enter_pure ?k1 ?k2 ?k3 ?k5 ?kA ?kF ?kK ?k6 ?k7 ?k8 ?k9 ?kB ?_ ?c2 ?c3 ?c4 ?c5; (case kA => exact rfl); (case kF => exact rfl); (case kK => assumption); (case k1 => k_asm); (case k2 => k_asm); (case k3 => k_asm); (case k5 => k_asm); (case k6 => k_is); (case k7 => k_is); (case k8 => ktr_room); (case k9 => exact BindsTo.of_eq rfl); (case c5 => decide); (case kB => exact locs rfl); (case c2 => exact rfl); (case c3 => exact rfl); (case c4 => exact rfl); k_whole; intro L' h' F' N' B' X' T'; (try dsimp only); (try k_fold))) | fail "p_enter"
  k_with "h_enter" => first | ((refine' enter_hand ?k1 ?k2 ?kN ?k3 ?k5 ?kA ?kF ?kK ?k6 ?k7 ?k8 ?k9 ?kB ?_ ?c2 ?c3 ?c4 ?c5; (case kA => exact rfl); (case kF => exact rfl); (case kK => assumption); (case k1 => k_asm); (case k2 => k_asm); (case kN => k_asm); (case k3 => k_asm); (case k5 => k_asm); (case k6 => k_is); (case k7 => k_is); (case k8 => ktr_room); (case k9 => exact BindsTo.of_eq rfl); (case c5 => decide); (case kB => exact locs rfl); (case c2 => exact rfl); (case c3 => exact rfl); (case c4 => exact rfl); k_whole)) | fail "h_enter"
  k_with "subscriptTail" => first | ((k_here; (with_reducible show wpAny _ _ (subscriptTail _ _ (Value.ref _) (Value.int _ _)) _ _ _); k_dflt (refine' item_tupleT ?t ?a ?b ?c ?d ?_; (case t => exact Fr.tup (by assumption) (by assumption)); (case a => decide); (case b => decide); (case c => rfl); (case d => rfl); k_whole))) | fail "subscriptTail"
  k_with "k_ne" => first | (first | exact ne_all (by with_reducible assumption) (by k_mem) | exact ne_all' (by with_reducible assumption) (by k_mem) | fail "k_ne") | fail "k_ne"
  k_with "p_sm" => first | (first | with_reducible assumption | exact Sm.neg (by with_reducible assumption) | exact sm_lit (by omega) (by omega) (by omega) (by omega)) | fail "p_sm"
  k_with "p_room" => first | (first | with_reducible assumption | exact (‹(_ : Int) < 0 → Room _ _ _›) (by with_reducible assumption) | exact rd_room1 (by with_reducible assumption) (by with_reducible assumption) (by with_reducible assumption) (by first | exact .inl rfl | exact .inr rfl) | exact rd_room2 (by with_reducible assumption) (by with_reducible assumption) (by with_reducible assumption) (by first | exact .inl rfl | exact .inr rfl)) | fail "p_room"
  k_with "p_half" => first | (first | with_reducible exact half_gt (by with_reducible assumption) | with_reducible exact half_tie (by with_reducible assumption) (by with_reducible assumption) | with_reducible exact half_lt (by with_reducible assumption) (by with_reducible assumption) | with_reducible exact half_even (by with_reducible assumption) (by with_reducible assumption)) | fail "p_half"
  k_with "p_rd" => first | (first | exact dec_eq (dec_base (by assumption) (by with_reducible assumption)) ⟨rd_sameX (.inl (by with_reducible assumption)), rd_sameE (.inl (by with_reducible assumption))⟩ | exact dec_eq (dec_base (by assumption) (by with_reducible assumption)) ⟨rd_sameX (.inr (by with_reducible assumption)), rd_sameE (.inr (by with_reducible assumption))⟩ | exact dec_eq (dec_news (by assumption) (by k_mem)) (rd_pos (by with_reducible assumption) (by with_reducible assumption) (by walk_at "p_half") (by with_reducible assumption) (by with_reducible assumption)) | exact dec_eq (dec_news (by assumption) (by k_mem)) (rd_neg (by with_reducible assumption) (by with_reducible assumption) (by walk_at "p_half") (by with_reducible assumption) (by with_reducible assumption)) | exact dec_eq ⟨_, _, tupK (Frag.In.keeps (by assumption) (Fr.keep (by assumption))) (by k_is)⟩ (rd_zero (by with_reducible assumption) (by with_reducible assumption) (by walk_at "p_half") (by with_reducible assumption))) | fail "p_rd"
  k_with "p_ne" => first | (first | exact pow10_ne _ | with_reducible assumption | exact root_ne (by with_reducible assumption) | omega) | fail "p_ne"
  k_with "p_py" => first | (first | decide +kernel | exact py_pow (by omega) | exact root_py (by with_reducible assumption) | exact py_of (k := 20) (by decide) (by omega) | exact py_of (k := 60) (by decide) (by omega)) | fail "p_py"
  k_with "binaryOp FloorDiv int int" => first | ((k_here; (with_reducible refine floordiv_int ?kbe ?_ (Or.inl (PyProof.noPylong_of_log2 ?kbp))); (case kbe => walk_at "p_ne"); (case kbp => walk_at "p_py"))) | fail "binaryOp FloorDiv int int"
  k_with "binaryOp Mod int int" => first | ((k_here; (with_reducible refine mod_int' ?kbe ?_); (case kbe => walk_at "p_ne"))) | fail "binaryOp Mod int int"
  k_with "binaryOp Mult int int" => first | ((k_here; first | (with_reducible refine mul_int ?_ (PySem.IntMulOk.of_left (PySem.intBits_le_64 ?kma ?kmb)); (case kma => omega); (case kmb => omega)) | (with_reducible refine mul_int ?_ (PySem.IntMulOk.of_right (PySem.intBits_le_64 ?kma ?kmb)); (case kma => omega); (case kmb => omega)))) | fail "binaryOp Mult int int"
  k_with "binaryOp Pow int int" => first | ((k_here; (with_reducible refine pow_int_small ?kb1 ?kb2 ?kb3 ?_); (case kb1 => omega); (case kb2 => omega); (case kb3 => decide))) | fail "binaryOp Pow int int"
  k_fill
  intro dp un gd cn cs a ccd cl outer A₀ base h₀ L m s Q E B F N X T hk hd hu hpre ret
  try dsimp only at hpre
  try dsimp only at ret
  obtain ⟨hc, hmany⟩ := hpre
  have hcls := hh.cls
  obtain ⟨k, u, hk0, hk1, hdict⟩ := hh
  have hHget := (N (H, o) (.head _)).1
  refine wpAny_call ?_
  k_dflt (walk_at "h_enter")
  intro g' L' h' gb gi F' N' B' X' T'
  obtain ⟨vs, ns, il, ia, hl⟩ := cards_grow hc gb hHget hcls
  try dsimp only
  try k_fold
  k_steps
  all_goals ((try dsimp only); (try k_unfold); (try dsimp only [Done]); refine done_H ret gb (by assumption) (by assumption) (by k_mem) ⟨k + 1, _, by omega, by omega, by with_reducible assumption⟩ (fm_0 _ hmany) (fm_1 _ hmany))
end
section
theorem c_decimal {w mean mg mb} (H C : Addr) (o : Obj) (n : Int) (hh : HandN w o C n) (hn : n ≤ 90000) : CallsH w mean mg mb 164 2 H o [.ref H] (fun h => Cards h C) (RetHF w H C n) := by
  unfold CallsH
  k_with_none
  k_with "p_enter" => first | ((refine' enter_pure ?k1 ?k2 ?k3 ?k5 ?kA ?kF ?kK ?k6 ?k7 ?k8 ?k9 ?kB ?_ ?c2 ?c3 ?c4 ?c5; (case kA => exact rfl); (case kF => exact rfl); (case kK => assumption); (case k1 => k_asm); (case k2 => k_asm); (case k3 => k_asm); (case k5 => k_asm); (case k6 => k_is); (case k7 => k_is); (case k8 => ktr_room); (case k9 => exact BindsTo.of_eq rfl); (case c5 => decide); (case kB => exact locs rfl); (case c2 => exact rfl); (case c3 => exact rfl); (case c4 => exact rfl); k_whole; intro L' h' F' N' B' X' T'; (try dsimp only); (try k_fold))) | fail "p_enter"
  k_with "h_enter" => first | ((refine' enter_hand ?k1 ?k2 ?kN ?k3 ?k5 ?kA ?kF ?kK ?k6 ?k7 ?k8 ?k9 ?kB ?_ ?c2 ?c3 ?c4 ?c5; (case kA => exact rfl); (case kF => exact rfl); (case kK => assumption); (case k1 => k_asm); (case k2 => k_asm); (case kN => k_asm); (case k3 => k_asm); (case k5 => k_asm); (case k6 => k_is); (case k7 => k_is); (case k8 => ktr_room); (case k9 => exact BindsTo.of_eq rfl); (case c5 => decide); (case kB => exact locs rfl); (case c2 => exact rfl); (case c3 => exact rfl); (case c4 => exact rfl); k_whole)) | fail "h_enter"
  k_with "subscriptTail" => first | ((k_here; (with_reducible show wpAny _ _ (subscriptTail _ _ (Value.ref _) (Value.int _ _)) _ _ _); k_dflt (refine' item_tupleT ?t ?a ?b ?c ?d ?_; (case t => exact Fr.tup (by assumption) (by assumption)); (case a => decide); (case b => decide); (case c => rfl); (case d => rfl); k_whole))) | fail "subscriptTail"
  k_with "k_ne" => first | (first | exact ne_all (by with_reducible assumption) (by k_mem) | exact ne_all' (by with_reducible assumption) (by k_mem) | fail "k_ne") | fail "k_ne"
  k_with "p_sm" => first | (first | with_reducible assumption | exact Sm.neg (by with_reducible assumption) | exact sm_lit (by omega) (by omega) (by omega) (by omega)) | fail "p_sm"
  k_with "p_room" => first | (first | with_reducible assumption | exact (‹(_ : Int) < 0 → Room _ _ _›) (by with_reducible assumption) | exact rd_room1 (by with_reducible assumption) (by with_reducible assumption) (by with_reducible assumption) (by first | exact .inl rfl | exact .inr rfl) | exact rd_room2 (by with_reducible assumption) (by with_reducible assumption) (by with_reducible assumption) (by first | exact .inl rfl | exact .inr rfl)) | fail "p_room"
  k_with "p_half" => first | (first | with_reducible exact half_gt (by with_reducible assumption) | with_reducible exact half_tie (by with_reducible assumption) (by with_reducible assumption) | with_reducible exact half_lt (by with_reducible assumption) (by with_reducible assumption) | with_reducible exact half_even (by with_reducible assumption) (by with_reducible assumption)) | fail "p_half"
  k_with "p_rd" => first | (first | exact dec_eq (dec_base (by assumption) (by with_reducible assumption)) ⟨rd_sameX (.inl (by with_reducible assumption)), rd_sameE (.inl (by with_reducible assumption))⟩ | exact dec_eq (dec_base (by assumption) (by with_reducible assumption)) ⟨rd_sameX (.inr (by with_reducible assumption)), rd_sameE (.inr (by with_reducible assumption))⟩ | exact dec_eq (dec_news (by assumption) (by k_mem)) (rd_pos (by with_reducible assumption) (by with_reducible assumption) (by walk_at "p_half") (by with_reducible assumption) (by with_reducible assumption)) | exact dec_eq (dec_news (by assumption) (by k_mem)) (rd_neg (by with_reducible assumption) (by with_reducible assumption) (by walk_at "p_half") (by with_reducible assumption) (by with_reducible assumption)) | exact dec_eq ⟨_, _, tupK (Frag.In.keeps (by assumption) (Fr.keep (by assumption))) (by k_is)⟩ (rd_zero (by with_reducible assumption) (by with_reducible assumption) (by walk_at "p_half") (by with_reducible assumption))) | fail "p_rd"
  k_with "p_ne" => first | (first | exact pow10_ne _ | with_reducible assumption | exact root_ne (by with_reducible assumption) | omega) | fail "p_ne"
  k_with "p_py" => first | (first | decide +kernel | exact py_pow (by omega) | exact root_py (by with_reducible assumption) | exact py_of (k := 20) (by decide) (by omega) | exact py_of (k := 60) (by decide) (by omega)) | fail "p_py"
  k_with "binaryOp FloorDiv int int" => first | ((k_here; (with_reducible refine floordiv_int ?kbe ?_ (Or.inl (PyProof.noPylong_of_log2 ?kbp))); (case kbe => walk_at "p_ne"); (case kbp => walk_at "p_py"))) | fail "binaryOp FloorDiv int int"
  k_with "binaryOp Mod int int" => first | ((k_here; (with_reducible refine mod_int' ?kbe ?_); (case kbe => walk_at "p_ne"))) | fail "binaryOp Mod int int"
  k_with "binaryOp Mult int int" => first | ((k_here; first | (with_reducible refine mul_int ?_ (PySem.IntMulOk.of_left (PySem.intBits_le_64 ?kma ?kmb)); (case kma => omega); (case kmb => omega)) | (with_reducible refine mul_int ?_ (PySem.IntMulOk.of_right (PySem.intBits_le_64 ?kma ?kmb)); (case kma => omega); (case kmb => omega)))) | fail "binaryOp Mult int int"
  k_with "binaryOp Pow int int" => first | ((k_here; (with_reducible refine pow_int_small ?kb1 ?kb2 ?kb3 ?_); (case kb1 => omega); (case kb2 => omega); (case kb3 => decide))) | fail "binaryOp Pow int int"
  k_with "call ref" => first | ((k_here; k_dflt (refine' use_H (c_dealt _ _ _ _ _ _ ?kh ?kn) ?k1 ?k2 ?k3 ?k4 ?kU ?k5 ?kK ?kd ?ku ?kp ?_; (case k1 => k_asm); (case k2 => k_asm); (case k3 => k_asm); (case k4 => k_asm); (case kU => k_updF); (case kh => with_reducible assumption); (case kn => omega); (case k5 => k_asm); (case kK => first | exact rfl | assumption); (case kd => ktr_room); (case ku => ktr_units); (case kp => exact ⟨by first | exact cards_keep (by with_reducible assumption) (Fr.keep (by assumption)) | exact cards_news (by assumption) (by k_mem) (by with_reducible assumption) (by simp only [List.length_map, List.length_take]; omega), by omega⟩); intro x9 t9 o9 h9 tk9 hx9 hy9 hH9 F9 N9; (try dsimp only at N9); (try dsimp only); (try k_fold)))) | fail "call ref"
  k_with "exec While BoolOp" => k_while (fun script number tens => DecInv number tens) (fun script number tens => number.toNat) "number" "tens"
  k_with "state" => first | exact dec_start (by with_reducible assumption) (by with_reducible assumption) (by with_reducible assumption) (by with_reducible assumption) | exact dec_turn (by with_reducible assumption) (by with_reducible assumption) (by with_reducible assumption)
  k_with "measure" => exact dec_less (by with_reducible assumption)
  k_fill
  intro dp un gd cn cs a ccd cl outer A₀ base h₀ L m s Q E B F N X T hk hd hu hpre ret
  try dsimp only at hpre
  try dsimp only at ret
  have hcls := hh.cls
  have hHget := (N (H, o) (.head _)).1
  refine wpAny_call ?_
  k_dflt (walk_at "h_enter")
  intro g' L' h' gb gi F' N' B' X' T'
  have hcg := cards_grow hpre gb hHget hcls
  try dsimp only
  try k_fold
  k_steps
  all_goals ((try dsimp only); (try k_unfold); (try dsimp only [Done]); refine done_HF ret gb (by assumption) (by assumption) (by k_mem) (by k_mem) (HandN.more (by with_reducible assumption) (by omega)) ?_ (by k_ne))
  all_goals (clear ret)
  all_goals with_reducible first | exact dec_zero | exact dec_p (by assumption) | exact dec_n (by assumption)
end
section
theorem c_add {w mean mg mb} (A : Addr) (x1 e1 : Int) (Bd : Addr) (x2 e2 : Int) (d : Int) (v : Tok) : Calls w mean mg mb 80 4 [.ref A, .ref Bd, .int d v] (fun h => Dec h A x1 e1 ∧ Sm x1 e1 ∧ Dec h Bd x2 e2 ∧ Sm x2 e2 ∧ Room (sh x1 e1 (mn e1 e2) + sh x2 e2 (mn e1 e2)) (mn e1 e2) d) (RetF (mkX (sh x1 e1 (mn e1 e2) + sh x2 e2 (mn e1 e2)) d) (mkE (sh x1 e1 (mn e1 e2) + sh x2 e2 (mn e1 e2)) (mn e1 e2) d)) := by
  unfold Calls
  k_with_none
  k_with "p_enter" => first | ((refine' enter_pure ?k1 ?k2 ?k3 ?k5 ?kA ?kF ?kK ?k6 ?k7 ?k8 ?k9 ?kB ?_ ?c2 ?c3 ?c4 ?c5; (case kA => exact rfl); (case kF => exact rfl); (case kK => assumption); (case k1 => k_asm); (case k2 => k_asm); (case k3 => k_asm); (case k5 => k_asm); (case k6 => k_is); (case k7 => k_is); (case k8 => ktr_room); (case k9 => exact BindsTo.of_eq rfl); (case c5 => decide); (case kB => exact locs rfl); (case c2 => exact rfl); (case c3 => exact rfl); (case c4 => exact rfl); k_whole; intro L' h' F' N' B' X' T'; (try dsimp only); (try k_fold))) | fail "p_enter"
  k_with "h_enter" => first | ((refine' enter_hand ?k1 ?k2 ?kN ?k3 ?k5 ?kA ?kF ?kK ?k6 ?k7 ?k8 ?k9 ?kB ?_ ?c2 ?c3 ?c4 ?c5; (case kA => exact rfl); (case kF => exact rfl); (case kK => assumption); (case k1 => k_asm); (case k2 => k_asm); (case kN => k_asm); (case k3 => k_asm); (case k5 => k_asm); (case k6 => k_is); (case k7 => k_is); (case k8 => ktr_room); (case k9 => exact BindsTo.of_eq rfl); (case c5 => decide); (case kB => exact locs rfl); (case c2 => exact rfl); (case c3 => exact rfl); (case c4 => exact rfl); k_whole)) | fail "h_enter"
  k_with "subscriptTail" => first | ((k_here; (with_reducible show wpAny _ _ (subscriptTail _ _ (Value.ref _) (Value.int _ _)) _ _ _); k_dflt (refine' item_tupleT ?t ?a ?b ?c ?d ?_; (case t => exact Fr.tup (by assumption) (by assumption)); (case a => decide); (case b => decide); (case c => rfl); (case d => rfl); k_whole))) | fail "subscriptTail"
  k_with "k_ne" => first | (first | exact ne_all (by with_reducible assumption) (by k_mem) | exact ne_all' (by with_reducible assumption) (by k_mem) | fail "k_ne") | fail "k_ne"
  k_with "p_sm" => first | (first | with_reducible assumption | exact Sm.neg (by with_reducible assumption) | exact sm_lit (by omega) (by omega) (by omega) (by omega)) | fail "p_sm"
  k_with "p_room" => first | (first | with_reducible assumption | exact (‹(_ : Int) < 0 → Room _ _ _›) (by with_reducible assumption) | exact rd_room1 (by with_reducible assumption) (by with_reducible assumption) (by with_reducible assumption) (by first | exact .inl rfl | exact .inr rfl) | exact rd_room2 (by with_reducible assumption) (by with_reducible assumption) (by with_reducible assumption) (by first | exact .inl rfl | exact .inr rfl)) | fail "p_room"
  k_with "p_half" => first | (first | with_reducible exact half_gt (by with_reducible assumption) | with_reducible exact half_tie (by with_reducible assumption) (by with_reducible assumption) | with_reducible exact half_lt (by with_reducible assumption) (by with_reducible assumption) | with_reducible exact half_even (by with_reducible assumption) (by with_reducible assumption)) | fail "p_half"
  k_with "p_rd" => first | (first | exact dec_eq (dec_base (by assumption) (by with_reducible assumption)) ⟨rd_sameX (.inl (by with_reducible assumption)), rd_sameE (.inl (by with_reducible assumption))⟩ | exact dec_eq (dec_base (by assumption) (by with_reducible assumption)) ⟨rd_sameX (.inr (by with_reducible assumption)), rd_sameE (.inr (by with_reducible assumption))⟩ | exact dec_eq (dec_news (by assumption) (by k_mem)) (rd_pos (by with_reducible assumption) (by with_reducible assumption) (by walk_at "p_half") (by with_reducible assumption) (by with_reducible assumption)) | exact dec_eq (dec_news (by assumption) (by k_mem)) (rd_neg (by with_reducible assumption) (by with_reducible assumption) (by walk_at "p_half") (by with_reducible assumption) (by with_reducible assumption)) | exact dec_eq ⟨_, _, tupK (Frag.In.keeps (by assumption) (Fr.keep (by assumption))) (by k_is)⟩ (rd_zero (by with_reducible assumption) (by with_reducible assumption) (by walk_at "p_half") (by with_reducible assumption))) | fail "p_rd"
  k_with "p_ne" => first | (first | exact pow10_ne _ | with_reducible assumption | exact root_ne (by with_reducible assumption) | omega) | fail "p_ne"
  k_with "p_py" => first | (first | decide +kernel | exact py_pow (by omega) | exact root_py (by with_reducible assumption) | exact py_of (k := 20) (by decide) (by omega) | exact py_of (k := 60) (by decide) (by omega)) | fail "p_py"
  k_with "binaryOp FloorDiv int int" => first | ((k_here; (with_reducible refine floordiv_int ?kbe ?_ (Or.inl (PyProof.noPylong_of_log2 ?kbp))); (case kbe => walk_at "p_ne"); (case kbp => walk_at "p_py"))) | fail "binaryOp FloorDiv int int"
  k_with "binaryOp Mod int int" => first | ((k_here; (with_reducible refine mod_int' ?kbe ?_); (case kbe => walk_at "p_ne"))) | fail "binaryOp Mod int int"
  k_with "binaryOp Mult int int" => first | ((k_here; first | (with_reducible refine mul_int ?_ (PySem.IntMulOk.of_left (PySem.intBits_le_64 ?kma ?kmb)); (case kma => omega); (case kmb => omega)) | (with_reducible refine mul_int ?_ (PySem.IntMulOk.of_right (PySem.intBits_le_64 ?kma ?kmb)); (case kma => omega); (case kmb => omega)))) | fail "binaryOp Mult int int"
  k_with "binaryOp Pow int int" => first | ((k_here; (with_reducible refine pow_int_small ?kb1 ?kb2 ?kb3 ?_); (case kb1 => omega); (case kb2 => omega); (case kb3 => decide))) | fail "binaryOp Pow int int"
  k_with "call ref" => first | ((k_here; k_dflt (refine' use_F (c_made _ _ _ _ _ _) ?k1 ?k2 ?k3 ?k4 ?k5 ?kK ?kd ?ku ?kp ?_; (case k1 => k_asm); (case k2 => k_asm); (case k3 => k_asm); (case k4 => k_asm); (case k5 => k_asm); (case kK => first | exact rfl | assumption); (case kd => ktr_room); (case ku => ktr_units); (case kp => first | trivial | ((try dsimp only); walk_at "p_room")); intro D9 t9 u9 h9 tk9 F9 N9 hne9; (try dsimp only); (try k_fold)))) | fail "call ref"
  k_with "call ref" => first | ((k_here; k_dflt (refine' use_F3 (c_alike _ _ _ _ _ _) ?k1 ?k2 ?k3 ?k4 ?k5 ?kK ?kd ?ku ?kp ?_; (case k1 => k_asm); (case k2 => k_asm); (case k3 => k_asm); (case k4 => k_asm); (case k5 => k_asm); (case kK => first | exact rfl | assumption); (case kd => ktr_room); (case ku => ktr_units); (case kp => first | trivial | ((try dsimp only); exact ⟨(by first | exact dec_base (by assumption) (by assumption) | exact dec_news (by assumption) (by k_mem)), (by walk_at "p_sm"), (by first | exact dec_base (by assumption) (by assumption) | exact dec_news (by assumption) (by k_mem)), (by walk_at "p_sm"), True.intro⟩)); intro D9 t9 u9 v9 h9 tk9 F9 N9 hne9; (try dsimp only); (try k_fold)))) | fail "call ref"
  k_fill
  intro dp un gd cn cs a ccd cl outer A₀ base h₀ L m s Q E B F X T hk hd hu hpre ret
  try dsimp only at hpre
  try dsimp only at ret
  obtain ⟨hDa, hSa, hDb, hSb, hpre⟩ := hpre
  obtain ⟨ta, ua, ia⟩ := id hDa
  obtain ⟨tb, ub, ib⟩ := id hDb
  obtain ⟨sa1, sa2, sa3, sa4⟩ := id hSa
  obtain ⟨sb1, sb2, sb3, sb4⟩ := id hSb
  refine wpAny_call ?_
  k_dflt (walk_at "p_enter")
  k_steps
  all_goals ((try dsimp only); (try k_unfold); (try dsimp only [Done]); refine done_F ret (by assumption) (by assumption) (by k_mem) ?_ ?_)
  all_goals rfl
end
section
theorem c_sub {w mean mg mb} (A : Addr) (x1 e1 : Int) (Bd : Addr) (x2 e2 : Int) (d : Int) (v : Tok) : Calls w mean mg mb 87 5 [.ref A, .ref Bd, .int d v] (fun h => Dec h A x1 e1 ∧ Sm x1 e1 ∧ Dec h Bd x2 e2 ∧ Sm x2 e2 ∧ Room (sh x1 e1 (mn e1 e2) + sh (0 - x2) e2 (mn e1 e2)) (mn e1 e2) d) (RetF (mkX (sh x1 e1 (mn e1 e2) + sh (0 - x2) e2 (mn e1 e2)) d) (mkE (sh x1 e1 (mn e1 e2) + sh (0 - x2) e2 (mn e1 e2)) (mn e1 e2) d)) := by
  unfold Calls
  k_with_none
  k_with "p_enter" => first | ((refine' enter_pure ?k1 ?k2 ?k3 ?k5 ?kA ?kF ?kK ?k6 ?k7 ?k8 ?k9 ?kB ?_ ?c2 ?c3 ?c4 ?c5; (case kA => exact rfl); (case kF => exact rfl); (case kK => assumption); (case k1 => k_asm); (case k2 => k_asm); (case k3 => k_asm); (case k5 => k_asm); (case k6 => k_is); (case k7 => k_is); (case k8 => ktr_room); (case k9 => exact BindsTo.of_eq rfl); (case c5 => decide); (case kB => exact locs rfl); (case c2 => exact rfl); (case c3 => exact rfl); (case c4 => exact rfl); k_whole; intro L' h' F' N' B' X' T'; (try dsimp only); (try k_fold))) | fail "p_enter"
  k_with "h_enter" => first | ((refine' enter_hand ?k1 ?k2 ?kN ?k3 ?k5 ?kA ?kF ?kK ?k6 ?k7 ?k8 ?k9 ?kB ?_ ?c2 ?c3 ?c4 ?c5; (case kA => exact rfl); (case kF => exact rfl); (case kK => assumption); (case k1 => k_asm); (case k2 => k_asm); (case kN => k_asm); (case k3 => k_asm); (case k5 => k_asm); (case k6 => k_is); (case k7 => k_is); (case k8 => ktr_room); (case k9 => exact BindsTo.of_eq rfl); (case c5 => decide); (case kB => exact locs rfl); (case c2 => exact rfl); (case c3 => exact rfl); (case c4 => exact rfl); k_whole)) | fail "h_enter"
  k_with "subscriptTail" => first | ((k_here; (with_reducible show wpAny _ _ (subscriptTail _ _ (Value.ref _) (Value.int _ _)) _ _ _); k_dflt (refine' item_tupleT ?t ?a ?b ?c ?d ?_; (case t => exact Fr.tup (by assumption) (by assumption)); (case a => decide); (case b => decide); (case c => rfl); (case d => rfl); k_whole))) | fail "subscriptTail"
  k_with "k_ne" => first | (first | exact ne_all (by with_reducible assumption) (by k_mem) | exact ne_all' (by with_reducible assumption) (by k_mem) | fail "k_ne") | fail "k_ne"
  k_with "p_sm" => first | (first | with_reducible assumption | exact Sm.neg (by with_reducible assumption) | exact sm_lit (by omega) (by omega) (by omega) (by omega)) | fail "p_sm"
  k_with "p_room" => first | (first | with_reducible assumption | exact (‹(_ : Int) < 0 → Room _ _ _›) (by with_reducible assumption) | exact rd_room1 (by with_reducible assumption) (by with_reducible assumption) (by with_reducible assumption) (by first | exact .inl rfl | exact .inr rfl) | exact rd_room2 (by with_reducible assumption) (by with_reducible assumption) (by with_reducible assumption) (by first | exact .inl rfl | exact .inr rfl)) | fail "p_room"
  k_with "p_half" => first | (first | with_reducible exact half_gt (by with_reducible assumption) | with_reducible exact half_tie (by with_reducible assumption) (by with_reducible assumption) | with_reducible exact half_lt (by with_reducible assumption) (by with_reducible assumption) | with_reducible exact half_even (by with_reducible assumption) (by with_reducible assumption)) | fail "p_half"
  k_with "p_rd" => first | (first | exact dec_eq (dec_base (by assumption) (by with_reducible assumption)) ⟨rd_sameX (.inl (by with_reducible assumption)), rd_sameE (.inl (by with_reducible assumption))⟩ | exact dec_eq (dec_base (by assumption) (by with_reducible assumption)) ⟨rd_sameX (.inr (by with_reducible assumption)), rd_sameE (.inr (by with_reducible assumption))⟩ | exact dec_eq (dec_news (by assumption) (by k_mem)) (rd_pos (by with_reducible assumption) (by with_reducible assumption) (by walk_at "p_half") (by with_reducible assumption) (by with_reducible assumption)) | exact dec_eq (dec_news (by assumption) (by k_mem)) (rd_neg (by with_reducible assumption) (by with_reducible assumption) (by walk_at "p_half") (by with_reducible assumption) (by with_reducible assumption)) | exact dec_eq ⟨_, _, tupK (Frag.In.keeps (by assumption) (Fr.keep (by assumption))) (by k_is)⟩ (rd_zero (by with_reducible assumption) (by with_reducible assumption) (by walk_at "p_half") (by with_reducible assumption))) | fail "p_rd"
  k_with "p_ne" => first | (first | exact pow10_ne _ | with_reducible assumption | exact root_ne (by with_reducible assumption) | omega) | fail "p_ne"
  k_with "p_py" => first | (first | decide +kernel | exact py_pow (by omega) | exact root_py (by with_reducible assumption) | exact py_of (k := 20) (by decide) (by omega) | exact py_of (k := 60) (by decide) (by omega)) | fail "p_py"
  k_with "binaryOp FloorDiv int int" => first | ((k_here; (with_reducible refine floordiv_int ?kbe ?_ (Or.inl (PyProof.noPylong_of_log2 ?kbp))); (case kbe => walk_at "p_ne"); (case kbp => walk_at "p_py"))) | fail "binaryOp FloorDiv int int"
  k_with "binaryOp Mod int int" => first | ((k_here; (with_reducible refine mod_int' ?kbe ?_); (case kbe => walk_at "p_ne"))) | fail "binaryOp Mod int int"
  k_with "binaryOp Mult int int" => first | ((k_here; first | (with_reducible refine mul_int ?_ (PySem.IntMulOk.of_left (PySem.intBits_le_64 ?kma ?kmb)); (case kma => omega); (case kmb => omega)) | (with_reducible refine mul_int ?_ (PySem.IntMulOk.of_right (PySem.intBits_le_64 ?kma ?kmb)); (case kma => omega); (case kmb => omega)))) | fail "binaryOp Mult int int"
  k_with "binaryOp Pow int int" => first | ((k_here; (with_reducible refine pow_int_small ?kb1 ?kb2 ?kb3 ?_); (case kb1 => omega); (case kb2 => omega); (case kb3 => decide))) | fail "binaryOp Pow int int"
  k_with "call ref" => first | ((k_here; k_dflt (refine' use_F (c_negated _ _ _) ?k1 ?k2 ?k3 ?k4 ?k5 ?kK ?kd ?ku ?kp ?_; (case k1 => k_asm); (case k2 => k_asm); (case k3 => k_asm); (case k4 => k_asm); (case k5 => k_asm); (case kK => first | exact rfl | assumption); (case kd => ktr_room); (case ku => ktr_units); (case kp => first | trivial | ((try dsimp only); exact ⟨(by first | exact dec_base (by assumption) (by assumption) | exact dec_news (by assumption) (by k_mem)), (by walk_at "p_sm"), True.intro⟩)); intro D9 t9 u9 h9 tk9 F9 N9 hne9; (try dsimp only); (try k_fold)))) | fail "call ref"
  k_with "call ref" => first | ((k_here; k_dflt (refine' use_F (c_add _ _ _ _ _ _ _ _) ?k1 ?k2 ?k3 ?k4 ?k5 ?kK ?kd ?ku ?kp ?_; (case k1 => k_asm); (case k2 => k_asm); (case k3 => k_asm); (case k4 => k_asm); (case k5 => k_asm); (case kK => first | exact rfl | assumption); (case kd => ktr_room); (case ku => ktr_units); (case kp => first | trivial | ((try dsimp only); exact ⟨(by first | exact dec_base (by assumption) (by assumption) | exact dec_news (by assumption) (by k_mem)), (by walk_at "p_sm"), (by first | exact dec_base (by assumption) (by assumption) | exact dec_news (by assumption) (by k_mem)), (by walk_at "p_sm"), by first | assumption | walk_at "p_room"⟩)); intro D9 t9 u9 h9 tk9 F9 N9 hne9; (try dsimp only); (try k_fold)))) | fail "call ref"
  k_fill
  intro dp un gd cn cs a ccd cl outer A₀ base h₀ L m s Q E B F X T hk hd hu hpre ret
  try dsimp only at hpre
  try dsimp only at ret
  obtain ⟨hDa, hSa, hDb, hSb, hpre⟩ := hpre
  obtain ⟨ta, ua, ia⟩ := id hDa
  obtain ⟨tb, ub, ib⟩ := id hDb
  obtain ⟨sa1, sa2, sa3, sa4⟩ := id hSa
  obtain ⟨sb1, sb2, sb3, sb4⟩ := id hSb
  refine wpAny_call ?_
  k_dflt (walk_at "p_enter")
  k_steps
  all_goals ((try dsimp only); (try k_unfold); (try dsimp only [Done]); refine done_F ret (by assumption) (by assumption) (by k_mem) ?_ ?_)
  all_goals rfl
end
section
theorem c_mul {w mean mg mb} (A : Addr) (x1 e1 : Int) (Bd : Addr) (x2 e2 : Int) (d : Int) (v : Tok) : Calls w mean mg mb 94 4 [.ref A, .ref Bd, .int d v] (fun h => Dec h A x1 e1 ∧ Sm x1 e1 ∧ Dec h Bd x2 e2 ∧ Sm x2 e2 ∧ Room (x1 * x2) (e1 + e2) d) (RetF (mkX (x1 * x2) d) (mkE (x1 * x2) (e1 + e2) d)) := by
  unfold Calls
  k_with_none
  k_with "p_enter" => first | ((refine' enter_pure ?k1 ?k2 ?k3 ?k5 ?kA ?kF ?kK ?k6 ?k7 ?k8 ?k9 ?kB ?_ ?c2 ?c3 ?c4 ?c5; (case kA => exact rfl); (case kF => exact rfl); (case kK => assumption); (case k1 => k_asm); (case k2 => k_asm); (case k3 => k_asm); (case k5 => k_asm); (case k6 => k_is); (case k7 => k_is); (case k8 => ktr_room); (case k9 => exact BindsTo.of_eq rfl); (case c5 => decide); (case kB => exact locs rfl); (case c2 => exact rfl); (case c3 => exact rfl); (case c4 => exact rfl); k_whole; intro L' h' F' N' B' X' T'; (try dsimp only); (try k_fold))) | fail "p_enter"
  k_with "h_enter" => first | ((refine' enter_hand ?k1 ?k2 ?kN ?k3 ?k5 ?kA ?kF ?kK ?k6 ?k7 ?k8 ?k9 ?kB ?_ ?c2 ?c3 ?c4 ?c5; (case kA => exact rfl); (case kF => exact rfl); (case kK => assumption); (case k1 => k_asm); (case k2 => k_asm); (case kN => k_asm); (case k3 => k_asm); (case k5 => k_asm); (case k6 => k_is); (case k7 => k_is); (case k8 => ktr_room); (case k9 => exact BindsTo.of_eq rfl); (case c5 => decide); (case kB => exact locs rfl); (case c2 => exact rfl); (case c3 => exact rfl); (case c4 => exact rfl); k_whole)) | fail "h_enter"
  k_with "subscriptTail" => first | ((k_here; (with_reducible show wpAny _ _ (subscriptTail _ _ (Value.ref _) (Value.int _ _)) _ _ _); k_dflt (refine' item_tupleT ?t ?a ?b ?c ?d ?_; (case t => exact Fr.tup (by assumption) (by assumption)); (case a => decide); (case b => decide); (case c => rfl); (case d => rfl); k_whole))) | fail "subscriptTail"
  k_with "k_ne" => first | (first | exact ne_all (by with_reducible assumption) (by k_mem) | exact ne_all' (by with_reducible assumption) (by k_mem) | fail "k_ne") | fail "k_ne"
  k_with "p_sm" => first | (first | with_reducible assumption | exact Sm.neg (by with_reducible assumption) | exact sm_lit (by omega) (by omega) (by omega) (by omega)) | fail "p_sm"
  k_with "p_room" => first | (first | with_reducible assumption | exact (‹(_ : Int) < 0 → Room _ _ _›) (by with_reducible assumption) | exact rd_room1 (by with_reducible assumption) (by with_reducible assumption) (by with_reducible assumption) (by first | exact .inl rfl | exact .inr rfl) | exact rd_room2 (by with_reducible assumption) (by with_reducible assumption) (by with_reducible assumption) (by first | exact .inl rfl | exact .inr rfl)) | fail "p_room"
  k_with "p_half" => first | (first | with_reducible exact half_gt (by with_reducible assumption) | with_reducible exact half_tie (by with_reducible assumption) (by with_reducible assumption) | with_reducible exact half_lt (by with_reducible assumption) (by with_reducible assumption) | with_reducible exact half_even (by with_reducible assumption) (by with_reducible assumption)) | fail "p_half"
  k_with "p_rd" => first | (first | exact dec_eq (dec_base (by assumption) (by with_reducible assumption)) ⟨rd_sameX (.inl (by with_reducible assumption)), rd_sameE (.inl (by with_reducible assumption))⟩ | exact dec_eq (dec_base (by assumption) (by with_reducible assumption)) ⟨rd_sameX (.inr (by with_reducible assumption)), rd_sameE (.inr (by with_reducible assumption))⟩ | exact dec_eq (dec_news (by assumption) (by k_mem)) (rd_pos (by with_reducible assumption) (by with_reducible assumption) (by walk_at "p_half") (by with_reducible assumption) (by with_reducible assumption)) | exact dec_eq (dec_news (by assumption) (by k_mem)) (rd_neg (by with_reducible assumption) (by with_reducible assumption) (by walk_at "p_half") (by with_reducible assumption) (by with_reducible assumption)) | exact dec_eq ⟨_, _, tupK (Frag.In.keeps (by assumption) (Fr.keep (by assumption))) (by k_is)⟩ (rd_zero (by with_reducible assumption) (by with_reducible assumption) (by walk_at "p_half") (by with_reducible assumption))) | fail "p_rd"
  k_with "p_ne" => first | (first | exact pow10_ne _ | with_reducible assumption | exact root_ne (by with_reducible assumption) | omega) | fail "p_ne"
  k_with "p_py" => first | (first | decide +kernel | exact py_pow (by omega) | exact root_py (by with_reducible assumption) | exact py_of (k := 20) (by decide) (by omega) | exact py_of (k := 60) (by decide) (by omega)) | fail "p_py"
  k_with "binaryOp FloorDiv int int" => first | ((k_here; (with_reducible refine floordiv_int ?kbe ?_ (Or.inl (PyProof.noPylong_of_log2 ?kbp))); (case kbe => walk_at "p_ne"); (case kbp => walk_at "p_py"))) | fail "binaryOp FloorDiv int int"
  k_with "binaryOp Mod int int" => first | ((k_here; (with_reducible refine mod_int' ?kbe ?_); (case kbe => walk_at "p_ne"))) | fail "binaryOp Mod int int"
  k_with "binaryOp Mult int int" => first | ((k_here; first | (with_reducible refine mul_int ?_ (PySem.IntMulOk.of_left (PySem.intBits_le_64 ?kma ?kmb)); (case kma => omega); (case kmb => omega)) | (with_reducible refine mul_int ?_ (PySem.IntMulOk.of_right (PySem.intBits_le_64 ?kma ?kmb)); (case kma => omega); (case kmb => omega)))) | fail "binaryOp Mult int int"
  k_with "binaryOp Pow int int" => first | ((k_here; (with_reducible refine pow_int_small ?kb1 ?kb2 ?kb3 ?_); (case kb1 => omega); (case kb2 => omega); (case kb3 => decide))) | fail "binaryOp Pow int int"
  k_with "call ref" => first | ((k_here; k_dflt (refine' use_F (c_made _ _ _ _ _ _) ?k1 ?k2 ?k3 ?k4 ?k5 ?kK ?kd ?ku ?kp ?_; (case k1 => k_asm); (case k2 => k_asm); (case k3 => k_asm); (case k4 => k_asm); (case k5 => k_asm); (case kK => first | exact rfl | assumption); (case kd => ktr_room); (case ku => ktr_units); (case kp => first | trivial | ((try dsimp only); walk_at "p_room")); intro D9 t9 u9 h9 tk9 F9 N9 hne9; (try dsimp only); (try k_fold)))) | fail "call ref"
  k_fill
  intro dp un gd cn cs a ccd cl outer A₀ base h₀ L m s Q E B F X T hk hd hu hpre ret
  try dsimp only at hpre
  try dsimp only at ret
  obtain ⟨hDa, hSa, hDb, hSb, hpre⟩ := hpre
  obtain ⟨ta, ua, ia⟩ := id hDa
  obtain ⟨tb, ub, ib⟩ := id hDb
  obtain ⟨sa1, sa2, sa3, sa4⟩ := id hSa
  obtain ⟨sb1, sb2, sb3, sb4⟩ := id hSb
  refine wpAny_call ?_
  k_dflt (walk_at "p_enter")
  k_steps
  all_goals ((try dsimp only); (try k_unfold); (try dsimp only [Done]); refine done_F ret (by assumption) (by assumption) (by k_mem) ?_ ?_)
  all_goals rfl
end
section
theorem c_div {w mean mg mb} (A : Addr) (x1 e1 : Int) (Bd : Addr) (x2 e2 : Int) (d : Int) (v : Tok) : Calls w mean mg mb 108 4 [.ref A, .ref Bd, .int d v] (fun h => Dec h A x1 e1 ∧ Sm x1 e1 ∧ Dec h Bd x2 e2 ∧ Sm x2 e2 ∧ x2 ≠ 0 ∧ 1 ≤ d ∧ d ≤ 20 ∧ Room (dvW x1 x2 d) (dvE x1 e1 x2 e2 d) d ∧ Room (0 - dvW x1 x2 d) (dvE x1 e1 x2 e2 d) d) (RetF (mkX (dvC x1 x2 d) d) (mkE (dvC x1 x2 d) (dvE x1 e1 x2 e2 d) d)) := by
  unfold Calls
  k_with_none
  k_with "p_enter" => first | ((refine' enter_pure ?k1 ?k2 ?k3 ?k5 ?kA ?kF ?kK ?k6 ?k7 ?k8 ?k9 ?kB ?_ ?c2 ?c3 ?c4 ?c5; (case kA => exact rfl); (case kF => exact rfl); (case kK => assumption); (case k1 => k_asm); (case k2 => k_asm); (case k3 => k_asm); (case k5 => k_asm); (case k6 => k_is); (case k7 => k_is); (case k8 => ktr_room); (case k9 => exact BindsTo.of_eq rfl); (case c5 => decide); (case kB => exact locs rfl); (case c2 => exact rfl); (case c3 => exact rfl); (case c4 => exact rfl); k_whole; intro L' h' F' N' B' X' T'; (try dsimp only); (try k_fold))) | fail "p_enter"
  k_with "h_enter" => first | ((refine' enter_hand ?k1 ?k2 ?kN ?k3 ?k5 ?kA ?kF ?kK ?k6 ?k7 ?k8 ?k9 ?kB ?_ ?c2 ?c3 ?c4 ?c5; (case kA => exact rfl); (case kF => exact rfl); (case kK => assumption); (case k1 => k_asm); (case k2 => k_asm); (case kN => k_asm); (case k3 => k_asm); (case k5 => k_asm); (case k6 => k_is); (case k7 => k_is); (case k8 => ktr_room); (case k9 => exact BindsTo.of_eq rfl); (case c5 => decide); (case kB => exact locs rfl); (case c2 => exact rfl); (case c3 => exact rfl); (case c4 => exact rfl); k_whole)) | fail "h_enter"
  k_with "subscriptTail" => first | ((k_here; (with_reducible show wpAny _ _ (subscriptTail _ _ (Value.ref _) (Value.int _ _)) _ _ _); k_dflt (refine' item_tupleT ?t ?a ?b ?c ?d ?_; (case t => exact Fr.tup (by assumption) (by assumption)); (case a => decide); (case b => decide); (case c => rfl); (case d => rfl); k_whole))) | fail "subscriptTail"
  k_with "k_ne" => first | (first | exact ne_all (by with_reducible assumption) (by k_mem) | exact ne_all' (by with_reducible assumption) (by k_mem) | fail "k_ne") | fail "k_ne"
  k_with "p_sm" => first | (first | with_reducible assumption | exact Sm.neg (by with_reducible assumption) | exact sm_lit (by omega) (by omega) (by omega) (by omega)) | fail "p_sm"
  k_with "p_room" => first | (first | with_reducible assumption | exact (‹(_ : Int) < 0 → Room _ _ _›) (by with_reducible assumption) | exact rd_room1 (by with_reducible assumption) (by with_reducible assumption) (by with_reducible assumption) (by first | exact .inl rfl | exact .inr rfl) | exact rd_room2 (by with_reducible assumption) (by with_reducible assumption) (by with_reducible assumption) (by first | exact .inl rfl | exact .inr rfl)) | fail "p_room"
  k_with "p_half" => first | (first | with_reducible exact half_gt (by with_reducible assumption) | with_reducible exact half_tie (by with_reducible assumption) (by with_reducible assumption) | with_reducible exact half_lt (by with_reducible assumption) (by with_reducible assumption) | with_reducible exact half_even (by with_reducible assumption) (by with_reducible assumption)) | fail "p_half"
  k_with "p_rd" => first | (first | exact dec_eq (dec_base (by assumption) (by with_reducible assumption)) ⟨rd_sameX (.inl (by with_reducible assumption)), rd_sameE (.inl (by with_reducible assumption))⟩ | exact dec_eq (dec_base (by assumption) (by with_reducible assumption)) ⟨rd_sameX (.inr (by with_reducible assumption)), rd_sameE (.inr (by with_reducible assumption))⟩ | exact dec_eq (dec_news (by assumption) (by k_mem)) (rd_pos (by with_reducible assumption) (by with_reducible assumption) (by walk_at "p_half") (by with_reducible assumption) (by with_reducible assumption)) | exact dec_eq (dec_news (by assumption) (by k_mem)) (rd_neg (by with_reducible assumption) (by with_reducible assumption) (by walk_at "p_half") (by with_reducible assumption) (by with_reducible assumption)) | exact dec_eq ⟨_, _, tupK (Frag.In.keeps (by assumption) (Fr.keep (by assumption))) (by k_is)⟩ (rd_zero (by with_reducible assumption) (by with_reducible assumption) (by walk_at "p_half") (by with_reducible assumption))) | fail "p_rd"
  k_with "p_ne" => first | (first | exact pow10_ne _ | with_reducible assumption | exact root_ne (by with_reducible assumption) | omega) | fail "p_ne"
  k_with "p_py" => first | (first | decide +kernel | exact py_pow (by omega) | exact root_py (by with_reducible assumption) | exact py_of (k := 20) (by decide) (by omega) | exact py_of (k := 60) (by decide) (by omega)) | fail "p_py"
  k_with "binaryOp FloorDiv int int" => first | ((k_here; (with_reducible refine floordiv_int ?kbe ?_ (Or.inl (PyProof.noPylong_of_log2 ?kbp))); (case kbe => walk_at "p_ne"); (case kbp => walk_at "p_py"))) | fail "binaryOp FloorDiv int int"
  k_with "binaryOp Mod int int" => first | ((k_here; (with_reducible refine mod_int' ?kbe ?_); (case kbe => walk_at "p_ne"))) | fail "binaryOp Mod int int"
  k_with "binaryOp Mult int int" => first | ((k_here; first | (with_reducible refine mul_int ?_ (PySem.IntMulOk.of_left (PySem.intBits_le_64 ?kma ?kmb)); (case kma => omega); (case kmb => omega)) | (with_reducible refine mul_int ?_ (PySem.IntMulOk.of_right (PySem.intBits_le_64 ?kma ?kmb)); (case kma => omega); (case kmb => omega)))) | fail "binaryOp Mult int int"
  k_with "binaryOp Pow int int" => first | ((k_here; (with_reducible refine pow_int_small ?kb1 ?kb2 ?kb3 ?_); (case kb1 => omega); (case kb2 => omega); (case kb3 => decide))) | fail "binaryOp Pow int int"
  k_with "call ref" => first | ((k_here; k_dflt (refine' use_I (c_figures _ _) ?k1 ?k2 ?k3 ?k4 ?k5 ?kK ?kd ?ku ?kp ?_; (case k1 => k_asm); (case k2 => k_asm); (case k3 => k_asm); (case k4 => k_asm); (case k5 => k_asm); (case kK => first | exact rfl | assumption); (case kd => ktr_room); (case ku => ktr_units); (case kp => first | trivial | ((try dsimp only); trivial)); intro t9 h9 tk9 F9 N9; (try dsimp only); (try k_fold)))) | fail "call ref"
  k_with "call ref" => first | ((k_here; k_dflt (refine' use_F (c_made _ _ _ _ _ _) ?k1 ?k2 ?k3 ?k4 ?k5 ?kK ?kd ?ku ?kp ?_; (case k1 => k_asm); (case k2 => k_asm); (case k3 => k_asm); (case k4 => k_asm); (case k5 => k_asm); (case kK => first | exact rfl | assumption); (case kd => ktr_room); (case ku => ktr_units); (case kp => first | trivial | ((try dsimp only); walk_at "p_room")); intro D9 t9 u9 h9 tk9 F9 N9 hne9; (try dsimp only); (try k_fold)))) | fail "call ref"
  k_with "call ref" => first | ((k_here; k_dflt (refine' use_F (c_rest _ _ _ _ _ _) ?k1 ?k2 ?k3 ?k4 ?k5 ?kK ?kd ?ku ?kp ?_; (case k1 => k_asm); (case k2 => k_asm); (case k3 => k_asm); (case k4 => k_asm); (case k5 => k_asm); (case kK => first | exact rfl | assumption); (case kd => ktr_room); (case ku => ktr_units); (case kp => first | trivial | ((try dsimp only); trivial)); intro D9 t9 u9 h9 tk9 F9 N9 hne9; (try dsimp only); (try k_fold)))) | fail "call ref"
  k_fill
  intro dp un gd cn cs a ccd cl outer A₀ base h₀ L m s Q E B F X T hk hd hu hpre ret
  try dsimp only at hpre
  try dsimp only at ret
  obtain ⟨hDa, hSa, hDb, hSb, hpre⟩ := hpre
  obtain ⟨ta, ua, ia⟩ := id hDa
  obtain ⟨tb, ub, ib⟩ := id hDb
  obtain ⟨sa1, sa2, sa3, sa4⟩ := id hSa
  obtain ⟨sb1, sb2, sb3, sb4⟩ := id hSb
  obtain ⟨hx2, hd1, hd2, hR1, hR2⟩ := hpre
  have hb0 : (if x2 < 0 then -x2 else x2) ≠ 0 := by split <;> omega
  have hb1 : -1000000000000000 ≤ (if x2 < 0 then -x2 else x2) ∧ (if x2 < 0 then -x2 else x2) ≤ 1000000000000000 := by split <;> omega
  have ha1 : 0 ≤ (if x1 < 0 then -x1 else x1) ∧ (if x1 < 0 then -x1 else x1) ≤ 1000000000000000 := by split <;> omega
  have hf1 : figs (if x1 < 0 then -x1 else x1) ≤ 16 := figs_abs hSa
  have hf2 : figs (if x2 < 0 then -x2 else x2) ≤ 16 := figs_abs hSb
  have hf3 := figs_pos (if x1 < 0 then -x1 else x1)
  have hf4 := figs_pos (if x2 < 0 then -x2 else x2)
  refine wpAny_call ?_
  k_dflt (walk_at "p_enter")
  k_steps
  all_goals first | (exfalso; exact absurd (show x2 = 0 by with_reducible assumption) hx2) | skip
  all_goals ((try dsimp only); (try k_unfold); (try dsimp only [Done]); refine done_F ret (by assumption) (by assumption) (by k_mem) ?_ ?_)
  all_goals (clear ret)
  all_goals with_reducible first | exact dv_Xp (by assumption) | exact dv_Xn (by assumption) | exact dv_Ep (by assumption) | exact dv_En (by assumption)
end
section
theorem c_round {w mean mg mb} (A : Addr) (x1 e1 : Int) (p : Int) (u : Tok) (d : Int) (v : Tok) : Calls w mean mg mb 136 4 [.ref A, .int p u, .int d v] (fun h => Dec h A x1 e1 ∧ Sm x1 e1 ∧ (0 < 0 - p - e1 → x1 ≠ 0 → ∀ f, RdF x1 (0 - p - e1) f → Room f (e1 + (0 - p - e1)) d ∧ Room (0 - f) (e1 + (0 - p - e1)) d)) (RetA (rdX x1 e1 p d) (rdE x1 e1 p d)) := by
  unfold Calls
  k_with_none
  k_with "p_enter" => first | ((refine' enter_pure ?k1 ?k2 ?k3 ?k5 ?kA ?kF ?kK ?k6 ?k7 ?k8 ?k9 ?kB ?_ ?c2 ?c3 ?c4 ?c5; (case kA => exact rfl); (case kF => exact rfl); (case kK => assumption); (case k1 => k_asm); (case k2 => k_asm); (case k3 => k_asm); (case k5 => k_asm); (case k6 => k_is); (case k7 => k_is); (case k8 => ktr_room); (case k9 => exact BindsTo.of_eq rfl); (case c5 => decide); (case kB => exact locs rfl); (case c2 => exact rfl); (case c3 => exact rfl); (case c4 => exact rfl); k_whole; intro L' h' F' N' B' X' T'; (try dsimp only); (try k_fold))) | fail "p_enter"
  k_with "h_enter" => first | ((refine' enter_hand ?k1 ?k2 ?kN ?k3 ?k5 ?kA ?kF ?kK ?k6 ?k7 ?k8 ?k9 ?kB ?_ ?c2 ?c3 ?c4 ?c5; (case kA => exact rfl); (case kF => exact rfl); (case kK => assumption); (case k1 => k_asm); (case k2 => k_asm); (case kN => k_asm); (case k3 => k_asm); (case k5 => k_asm); (case k6 => k_is); (case k7 => k_is); (case k8 => ktr_room); (case k9 => exact BindsTo.of_eq rfl); (case c5 => decide); (case kB => exact locs rfl); (case c2 => exact rfl); (case c3 => exact rfl); (case c4 => exact rfl); k_whole)) | fail "h_enter"
  k_with "subscriptTail" => first | ((k_here; (with_reducible show wpAny _ _ (subscriptTail _ _ (Value.ref _) (Value.int _ _)) _ _ _); k_dflt (refine' item_tupleT ?t ?a ?b ?c ?d ?_; (case t => exact Fr.tup (by assumption) (by assumption)); (case a => decide); (case b => decide); (case c => rfl); (case d => rfl); k_whole))) | fail "subscriptTail"
  k_with "k_ne" => first | (first | exact ne_all (by with_reducible assumption) (by k_mem) | exact ne_all' (by with_reducible assumption) (by k_mem) | fail "k_ne") | fail "k_ne"
  k_with "p_sm" => first | (first | with_reducible assumption | exact Sm.neg (by with_reducible assumption) | exact sm_lit (by omega) (by omega) (by omega) (by omega)) | fail "p_sm"
  k_with "p_room" => first | (first | with_reducible assumption | exact (‹(_ : Int) < 0 → Room _ _ _›) (by with_reducible assumption) | exact rd_room1 (by with_reducible assumption) (by with_reducible assumption) (by with_reducible assumption) (by first | exact .inl rfl | exact .inr rfl) | exact rd_room2 (by with_reducible assumption) (by with_reducible assumption) (by with_reducible assumption) (by first | exact .inl rfl | exact .inr rfl)) | fail "p_room"
  k_with "p_half" => first | (first | with_reducible exact half_gt (by with_reducible assumption) | with_reducible exact half_tie (by with_reducible assumption) (by with_reducible assumption) | with_reducible exact half_lt (by with_reducible assumption) (by with_reducible assumption) | with_reducible exact half_even (by with_reducible assumption) (by with_reducible assumption)) | fail "p_half"
  k_with "p_rd" => first | (first | exact dec_eq (dec_base (by assumption) (by with_reducible assumption)) ⟨rd_sameX (.inl (by with_reducible assumption)), rd_sameE (.inl (by with_reducible assumption))⟩ | exact dec_eq (dec_base (by assumption) (by with_reducible assumption)) ⟨rd_sameX (.inr (by with_reducible assumption)), rd_sameE (.inr (by with_reducible assumption))⟩ | exact dec_eq (dec_news (by assumption) (by k_mem)) (rd_pos (by with_reducible assumption) (by with_reducible assumption) (by walk_at "p_half") (by with_reducible assumption) (by with_reducible assumption)) | exact dec_eq (dec_news (by assumption) (by k_mem)) (rd_neg (by with_reducible assumption) (by with_reducible assumption) (by walk_at "p_half") (by with_reducible assumption) (by with_reducible assumption)) | exact dec_eq ⟨_, _, tupK (Frag.In.keeps (by assumption) (Fr.keep (by assumption))) (by k_is)⟩ (rd_zero (by with_reducible assumption) (by with_reducible assumption) (by walk_at "p_half") (by with_reducible assumption))) | fail "p_rd"
  k_with "p_ne" => first | (first | exact pow10_ne _ | with_reducible assumption | exact root_ne (by with_reducible assumption) | omega) | fail "p_ne"
  k_with "p_py" => first | (first | decide +kernel | exact py_pow (by omega) | exact root_py (by with_reducible assumption) | exact py_of (k := 20) (by decide) (by omega) | exact py_of (k := 60) (by decide) (by omega)) | fail "p_py"
  k_with "binaryOp FloorDiv int int" => first | ((k_here; (with_reducible refine floordiv_int ?kbe ?_ (Or.inl (PyProof.noPylong_of_log2 ?kbp))); (case kbe => walk_at "p_ne"); (case kbp => walk_at "p_py"))) | fail "binaryOp FloorDiv int int"
  k_with "binaryOp Mod int int" => first | ((k_here; (with_reducible refine mod_int' ?kbe ?_); (case kbe => walk_at "p_ne"))) | fail "binaryOp Mod int int"
  k_with "binaryOp Mult int int" => first | ((k_here; first | (with_reducible refine mul_int ?_ (PySem.IntMulOk.of_left (PySem.intBits_le_64 ?kma ?kmb)); (case kma => omega); (case kmb => omega)) | (with_reducible refine mul_int ?_ (PySem.IntMulOk.of_right (PySem.intBits_le_64 ?kma ?kmb)); (case kma => omega); (case kmb => omega)))) | fail "binaryOp Mult int int"
  k_with "binaryOp Pow int int" => first | ((k_here; (with_reducible refine pow_int_small ?kb1 ?kb2 ?kb3 ?_); (case kb1 => omega); (case kb2 => omega); (case kb3 => decide))) | fail "binaryOp Pow int int"
  k_with "call ref" => first | ((k_here; k_dflt (refine' use_I (c_figures _ _) ?k1 ?k2 ?k3 ?k4 ?k5 ?kK ?kd ?ku ?kp ?_; (case k1 => k_asm); (case k2 => k_asm); (case k3 => k_asm); (case k4 => k_asm); (case k5 => k_asm); (case kK => first | exact rfl | assumption); (case kd => ktr_room); (case ku => ktr_units); (case kp => first | trivial | ((try dsimp only); trivial)); intro t9 h9 tk9 F9 N9; (try dsimp only); (try k_fold)))) | fail "call ref"
  k_with "call ref" => first | ((k_here; k_dflt (refine' use_F (c_made _ _ _ _ _ _) ?k1 ?k2 ?k3 ?k4 ?k5 ?kK ?kd ?ku ?kp ?_; (case k1 => k_asm); (case k2 => k_asm); (case k3 => k_asm); (case k4 => k_asm); (case k5 => k_asm); (case kK => first | exact rfl | assumption); (case kd => ktr_room); (case ku => ktr_units); (case kp => first | trivial | ((try dsimp only); walk_at "p_room")); intro D9 t9 u9 h9 tk9 F9 N9 hne9; (try dsimp only); (try k_fold)))) | fail "call ref"
  k_fill
  intro dp un gd cn cs a ccd cl outer A₀ base h₀ L m s Q E B F X T hk hd hu hpre ret
  try dsimp only at hpre
  try dsimp only at ret
  obtain ⟨hDa, hSa, hpre⟩ := hpre
  obtain ⟨ta, ua, ia⟩ := id hDa
  obtain ⟨sa1, sa2, sa3, sa4⟩ := id hSa
  have hf1 : figs (if x1 < 0 then -x1 else x1) ≤ 16 := figs_abs hSa
  have hf3 := figs_pos (if x1 < 0 then -x1 else x1)
  refine wpAny_call ?_
  k_dflt (walk_at "p_enter")
  k_steps
  all_goals ((try dsimp only); (try k_unfold); (try dsimp only [Done]); refine done_A ret (by assumption) ?_)
  all_goals (clear ret)
  all_goals walk_at "p_rd"
end
section
theorem c_root {w mean mg mb} (A : Addr) (x1 e1 : Int) (d : Int) (v : Tok) : Calls w mean mg mb 150 4 [.ref A, .int d v] (fun h => Dec h A x1 e1 ∧ Sm x1 e1 ∧ 0 ≤ x1 ∧ x1 ≤ 1000000 ∧ 1 ≤ d ∧ d ≤ 5 ∧ Room (rtW x1 (2 * d + 4)) (rtE x1 e1 (2 * d + 4)) d ∧ Room (rtW x1 (2 * d + 4 + 1)) (rtE x1 e1 (2 * d + 4 + 1)) d) (RetF (mkX (rtW x1 (rtP e1 d)) d) (mkE (rtW x1 (rtP e1 d)) (rtE x1 e1 (rtP e1 d)) d)) := by
  unfold Calls
  k_with_none
  k_with "p_enter" => first | ((refine' enter_pure ?k1 ?k2 ?k3 ?k5 ?kA ?kF ?kK ?k6 ?k7 ?k8 ?k9 ?kB ?_ ?c2 ?c3 ?c4 ?c5; (case kA => exact rfl); (case kF => exact rfl); (case kK => assumption); (case k1 => k_asm); (case k2 => k_asm); (case k3 => k_asm); (case k5 => k_asm); (case k6 => k_is); (case k7 => k_is); (case k8 => ktr_room); (case k9 => exact BindsTo.of_eq rfl); (case c5 => decide); (case kB => exact locs rfl); (case c2 => exact rfl); (case c3 => exact rfl); (case c4 => exact rfl); k_whole; intro L' h' F' N' B' X' T'; (try dsimp only); (try k_fold))) | fail "p_enter"
  k_with "h_enter" => first | ((refine' enter_hand ?k1 ?k2 ?kN ?k3 ?k5 ?kA ?kF ?kK ?k6 ?k7 ?k8 ?k9 ?kB ?_ ?c2 ?c3 ?c4 ?c5; (case kA => exact rfl); (case kF => exact rfl); (case kK => assumption); (case k1 => k_asm); (case k2 => k_asm); (case kN => k_asm); (case k3 => k_asm); (case k5 => k_asm); (case k6 => k_is); (case k7 => k_is); (case k8 => ktr_room); (case k9 => exact BindsTo.of_eq rfl); (case c5 => decide); (case kB => exact locs rfl); (case c2 => exact rfl); (case c3 => exact rfl); (case c4 => exact rfl); k_whole)) | fail "h_enter"
  k_with "subscriptTail" => first | ((k_here; (with_reducible show wpAny _ _ (subscriptTail _ _ (Value.ref _) (Value.int _ _)) _ _ _); k_dflt (refine' item_tupleT ?t ?a ?b ?c ?d ?_; (case t => exact Fr.tup (by assumption) (by assumption)); (case a => decide); (case b => decide); (case c => rfl); (case d => rfl); k_whole))) | fail "subscriptTail"
  k_with "k_ne" => first | (first | exact ne_all (by with_reducible assumption) (by k_mem) | exact ne_all' (by with_reducible assumption) (by k_mem) | fail "k_ne") | fail "k_ne"
  k_with "p_sm" => first | (first | with_reducible assumption | exact Sm.neg (by with_reducible assumption) | exact sm_lit (by omega) (by omega) (by omega) (by omega)) | fail "p_sm"
  k_with "p_room" => first | (first | with_reducible assumption | exact (‹(_ : Int) < 0 → Room _ _ _›) (by with_reducible assumption) | exact rd_room1 (by with_reducible assumption) (by with_reducible assumption) (by with_reducible assumption) (by first | exact .inl rfl | exact .inr rfl) | exact rd_room2 (by with_reducible assumption) (by with_reducible assumption) (by with_reducible assumption) (by first | exact .inl rfl | exact .inr rfl)) | fail "p_room"
  k_with "p_half" => first | (first | with_reducible exact half_gt (by with_reducible assumption) | with_reducible exact half_tie (by with_reducible assumption) (by with_reducible assumption) | with_reducible exact half_lt (by with_reducible assumption) (by with_reducible assumption) | with_reducible exact half_even (by with_reducible assumption) (by with_reducible assumption)) | fail "p_half"
  k_with "p_rd" => first | (first | exact dec_eq (dec_base (by assumption) (by with_reducible assumption)) ⟨rd_sameX (.inl (by with_reducible assumption)), rd_sameE (.inl (by with_reducible assumption))⟩ | exact dec_eq (dec_base (by assumption) (by with_reducible assumption)) ⟨rd_sameX (.inr (by with_reducible assumption)), rd_sameE (.inr (by with_reducible assumption))⟩ | exact dec_eq (dec_news (by assumption) (by k_mem)) (rd_pos (by with_reducible assumption) (by with_reducible assumption) (by walk_at "p_half") (by with_reducible assumption) (by with_reducible assumption)) | exact dec_eq (dec_news (by assumption) (by k_mem)) (rd_neg (by with_reducible assumption) (by with_reducible assumption) (by walk_at "p_half") (by with_reducible assumption) (by with_reducible assumption)) | exact dec_eq ⟨_, _, tupK (Frag.In.keeps (by assumption) (Fr.keep (by assumption))) (by k_is)⟩ (rd_zero (by with_reducible assumption) (by with_reducible assumption) (by walk_at "p_half") (by with_reducible assumption))) | fail "p_rd"
  k_with "p_ne" => first | (first | exact pow10_ne _ | with_reducible assumption | exact root_ne (by with_reducible assumption) | omega) | fail "p_ne"
  k_with "p_py" => first | (first | decide +kernel | exact py_pow (by omega) | exact root_py (by with_reducible assumption) | exact py_of (k := 20) (by decide) (by omega) | exact py_of (k := 60) (by decide) (by omega)) | fail "p_py"
  k_with "binaryOp FloorDiv int int" => first | ((k_here; (with_reducible refine floordiv_int ?kbe ?_ (Or.inl (PyProof.noPylong_of_log2 ?kbp))); (case kbe => walk_at "p_ne"); (case kbp => walk_at "p_py"))) | fail "binaryOp FloorDiv int int"
  k_with "binaryOp Mod int int" => first | ((k_here; (with_reducible refine mod_int' ?kbe ?_); (case kbe => walk_at "p_ne"))) | fail "binaryOp Mod int int"
  k_with "binaryOp Mult int int" => first | ((k_here; first | (with_reducible refine mul_int ?_ (PySem.IntMulOk.of_left (PySem.intBits_le_64 ?kma ?kmb)); (case kma => omega); (case kmb => omega)) | (with_reducible refine mul_int ?_ (PySem.IntMulOk.of_right (PySem.intBits_le_64 ?kma ?kmb)); (case kma => omega); (case kmb => omega)))) | fail "binaryOp Mult int int"
  k_with "binaryOp Pow int int" => first | ((k_here; (with_reducible refine pow_int_small ?kb1 ?kb2 ?kb3 ?_); (case kb1 => omega); (case kb2 => omega); (case kb3 => decide))) | fail "binaryOp Pow int int"
  k_with "call ref" => first | ((k_here; k_dflt (refine' use_F (c_made _ _ _ _ _ _) ?k1 ?k2 ?k3 ?k4 ?k5 ?kK ?kd ?ku ?kp ?_; (case k1 => k_asm); (case k2 => k_asm); (case k3 => k_asm); (case k4 => k_asm); (case k5 => k_asm); (case kK => first | exact rfl | assumption); (case kd => ktr_room); (case ku => ktr_units); (case kp => first | trivial | ((try dsimp only); walk_at "p_room")); intro D9 t9 u9 h9 tk9 F9 N9 hne9; (try dsimp only); (try k_fold)))) | fail "call ref"
  k_with "call ref" => first | ((k_here; k_dflt (refine' use_F (c_rest _ _ _ _ _ _) ?k1 ?k2 ?k3 ?k4 ?k5 ?kK ?kd ?ku ?kp ?_; (case k1 => k_asm); (case k2 => k_asm); (case k3 => k_asm); (case k4 => k_asm); (case k5 => k_asm); (case kK => first | exact rfl | assumption); (case kd => ktr_room); (case ku => ktr_units); (case kp => first | trivial | ((try dsimp only); trivial)); intro D9 t9 u9 h9 tk9 F9 N9 hne9; (try dsimp only); (try k_fold)))) | fail "call ref"
  k_with "call ref" => first | ((k_here; k_dflt (refine' use_I (c_rootof _ _) ?k1 ?k2 ?k3 ?k4 ?k5 ?kK ?kd ?ku ?kp ?_; (case k1 => k_asm); (case k2 => k_asm); (case k3 => k_asm); (case k4 => k_asm); (case k5 => k_asm); (case kK => first | exact rfl | assumption); (case kd => ktr_room); (case ku => ktr_units); (case kp => first | trivial | ((try dsimp only); first | omega | walk_at "p_room")); intro t9 h9 tk9 F9 N9; (try dsimp only); (try k_fold)))) | fail "call ref"
  k_fill
  intro dp un gd cn cs a ccd cl outer A₀ base h₀ L m s Q E B F X T hk hd hu hpre ret
  try dsimp only at hpre
  try dsimp only at ret
  obtain ⟨hDa, hSa, hpre⟩ := hpre
  obtain ⟨ta, ua, ia⟩ := id hDa
  obtain ⟨sa1, sa2, sa3, sa4⟩ := id hSa
  obtain ⟨hx1, hx2, hd1, hd2, hR1, hR2⟩ := hpre
  have hq1 := rt_bd (x := x1) (P := 2 * d + 4) hx1 hx2 (by omega)
  have hq2 := rt_bd (x := x1) (P := 2 * d + 4 + 1) hx1 hx2 (by omega)
  dsimp only [rtS] at hq1 hq2
  refine wpAny_call ?_
  k_dflt (walk_at "p_enter")
  k_steps
  all_goals first | (exfalso; exact absurd (show x1 < 0 by with_reducible assumption) (by omega)) | skip
  all_goals ((try dsimp only); (try k_unfold); (try dsimp only [Done]); refine done_F ret (by assumption) (by assumption) (by k_mem) ?_ ?_)
  all_goals (clear ret)
  all_goals with_reducible first | exact rt_Xo (by assumption) | exact rt_Xe (by assumption) | exact rt_Eo (by assumption) | exact rt_Ee (by assumption)
end
section
theorem c_whole {w mean mg mb} (A : Addr) (x1 e1 : Int) (d : Int) (v : Tok) : Calls w mean mg mb 129 4 [.ref A, .int d v] (fun h => Dec h A x1 e1 ∧ Sm x1 e1 ∧ (e1 < 0 → Room (flo x1 e1) 0 d)) (RetA (whX x1 e1 d) (whE x1 e1 d)) := by
  unfold Calls
  k_with_none
  k_with "p_enter" => first | ((refine' enter_pure ?k1 ?k2 ?k3 ?k5 ?kA ?kF ?kK ?k6 ?k7 ?k8 ?k9 ?kB ?_ ?c2 ?c3 ?c4 ?c5; (case kA => exact rfl); (case kF => exact rfl); (case kK => assumption); (case k1 => k_asm); (case k2 => k_asm); (case k3 => k_asm); (case k5 => k_asm); (case k6 => k_is); (case k7 => k_is); (case k8 => ktr_room); (case k9 => exact BindsTo.of_eq rfl); (case c5 => decide); (case kB => exact locs rfl); (case c2 => exact rfl); (case c3 => exact rfl); (case c4 => exact rfl); k_whole; intro L' h' F' N' B' X' T'; (try dsimp only); (try k_fold))) | fail "p_enter"
  k_with "h_enter" => first | ((refine' enter_hand ?k1 ?k2 ?kN ?k3 ?k5 ?kA ?kF ?kK ?k6 ?k7 ?k8 ?k9 ?kB ?_ ?c2 ?c3 ?c4 ?c5; (case kA => exact rfl); (case kF => exact rfl); (case kK => assumption); (case k1 => k_asm); (case k2 => k_asm); (case kN => k_asm); (case k3 => k_asm); (case k5 => k_asm); (case k6 => k_is); (case k7 => k_is); (case k8 => ktr_room); (case k9 => exact BindsTo.of_eq rfl); (case c5 => decide); (case kB => exact locs rfl); (case c2 => exact rfl); (case c3 => exact rfl); (case c4 => exact rfl); k_whole)) | fail "h_enter"
  k_with "subscriptTail" => first | ((k_here; (with_reducible show wpAny _ _ (subscriptTail _ _ (Value.ref _) (Value.int _ _)) _ _ _); k_dflt (refine' item_tupleT ?t ?a ?b ?c ?d ?_; (case t => exact Fr.tup (by assumption) (by assumption)); (case a => decide); (case b => decide); (case c => rfl); (case d => rfl); k_whole))) | fail "subscriptTail"
  k_with "k_ne" => first | (first | exact ne_all (by with_reducible assumption) (by k_mem) | exact ne_all' (by with_reducible assumption) (by k_mem) | fail "k_ne") | fail "k_ne"
  k_with "p_sm" => first | (first | with_reducible assumption | exact Sm.neg (by with_reducible assumption) | exact sm_lit (by omega) (by omega) (by omega) (by omega)) | fail "p_sm"
  k_with "p_room" => first | (first | with_reducible assumption | exact (‹(_ : Int) < 0 → Room _ _ _›) (by with_reducible assumption) | exact rd_room1 (by with_reducible assumption) (by with_reducible assumption) (by with_reducible assumption) (by first | exact .inl rfl | exact .inr rfl) | exact rd_room2 (by with_reducible assumption) (by with_reducible assumption) (by with_reducible assumption) (by first | exact .inl rfl | exact .inr rfl)) | fail "p_room"
  k_with "p_half" => first | (first | with_reducible exact half_gt (by with_reducible assumption) | with_reducible exact half_tie (by with_reducible assumption) (by with_reducible assumption) | with_reducible exact half_lt (by with_reducible assumption) (by with_reducible assumption) | with_reducible exact half_even (by with_reducible assumption) (by with_reducible assumption)) | fail "p_half"
  k_with "p_rd" => first | (first | exact dec_eq (dec_base (by assumption) (by with_reducible assumption)) ⟨rd_sameX (.inl (by with_reducible assumption)), rd_sameE (.inl (by with_reducible assumption))⟩ | exact dec_eq (dec_base (by assumption) (by with_reducible assumption)) ⟨rd_sameX (.inr (by with_reducible assumption)), rd_sameE (.inr (by with_reducible assumption))⟩ | exact dec_eq (dec_news (by assumption) (by k_mem)) (rd_pos (by with_reducible assumption) (by with_reducible assumption) (by walk_at "p_half") (by with_reducible assumption) (by with_reducible assumption)) | exact dec_eq (dec_news (by assumption) (by k_mem)) (rd_neg (by with_reducible assumption) (by with_reducible assumption) (by walk_at "p_half") (by with_reducible assumption) (by with_reducible assumption)) | exact dec_eq ⟨_, _, tupK (Frag.In.keeps (by assumption) (Fr.keep (by assumption))) (by k_is)⟩ (rd_zero (by with_reducible assumption) (by with_reducible assumption) (by walk_at "p_half") (by with_reducible assumption))) | fail "p_rd"
  k_with "p_ne" => first | (first | exact pow10_ne _ | with_reducible assumption | exact root_ne (by with_reducible assumption) | omega) | fail "p_ne"
  k_with "p_py" => first | (first | decide +kernel | exact py_pow (by omega) | exact root_py (by with_reducible assumption) | exact py_of (k := 20) (by decide) (by omega) | exact py_of (k := 60) (by decide) (by omega)) | fail "p_py"
  k_with "binaryOp FloorDiv int int" => first | ((k_here; (with_reducible refine floordiv_int ?kbe ?_ (Or.inl (PyProof.noPylong_of_log2 ?kbp))); (case kbe => walk_at "p_ne"); (case kbp => walk_at "p_py"))) | fail "binaryOp FloorDiv int int"
  k_with "binaryOp Mod int int" => first | ((k_here; (with_reducible refine mod_int' ?kbe ?_); (case kbe => walk_at "p_ne"))) | fail "binaryOp Mod int int"
  k_with "binaryOp Mult int int" => first | ((k_here; first | (with_reducible refine mul_int ?_ (PySem.IntMulOk.of_left (PySem.intBits_le_64 ?kma ?kmb)); (case kma => omega); (case kmb => omega)) | (with_reducible refine mul_int ?_ (PySem.IntMulOk.of_right (PySem.intBits_le_64 ?kma ?kmb)); (case kma => omega); (case kmb => omega)))) | fail "binaryOp Mult int int"
  k_with "binaryOp Pow int int" => first | ((k_here; (with_reducible refine pow_int_small ?kb1 ?kb2 ?kb3 ?_); (case kb1 => omega); (case kb2 => omega); (case kb3 => decide))) | fail "binaryOp Pow int int"
  k_with "call ref" => first | ((k_here; k_dflt (refine' use_F (c_made _ _ _ _ _ _) ?k1 ?k2 ?k3 ?k4 ?k5 ?kK ?kd ?ku ?kp ?_; (case k1 => k_asm); (case k2 => k_asm); (case k3 => k_asm); (case k4 => k_asm); (case k5 => k_asm); (case kK => first | exact rfl | assumption); (case kd => ktr_room); (case ku => ktr_units); (case kp => first | trivial | ((try dsimp only); walk_at "p_room")); intro D9 t9 u9 h9 tk9 F9 N9 hne9; (try dsimp only); (try k_fold)))) | fail "call ref"
  k_with "call ref" => first | ((k_here; k_dflt (refine' use_I (c_floor _ _ _) ?k1 ?k2 ?k3 ?k4 ?k5 ?kK ?kd ?ku ?kp ?_; (case k1 => k_asm); (case k2 => k_asm); (case k3 => k_asm); (case k4 => k_asm); (case k5 => k_asm); (case kK => first | exact rfl | assumption); (case kd => ktr_room); (case ku => ktr_units); (case kp => first | trivial | ((try dsimp only); exact ⟨(by first | exact dec_base (by assumption) (by assumption) | exact dec_news (by assumption) (by k_mem)), (by walk_at "p_sm"), True.intro⟩)); intro t9 h9 tk9 F9 N9; (try dsimp only); (try k_fold)))) | fail "call ref"
  k_fill
  intro dp un gd cn cs a ccd cl outer A₀ base h₀ L m s Q E B F X T hk hd hu hpre ret
  try dsimp only at hpre
  try dsimp only at ret
  obtain ⟨hDa, hSa, hpre⟩ := hpre
  obtain ⟨ta, ua, ia⟩ := id hDa
  obtain ⟨sa1, sa2, sa3, sa4⟩ := id hSa
  refine wpAny_call ?_
  k_dflt (walk_at "p_enter")
  k_steps
  all_goals ((try dsimp only); (try k_unfold); (try dsimp only [Done]); refine done_A ret (by assumption) ?_)
  all_goals (clear ret)
  all_goals first | exact dec_eq (dec_base (by assumption) hDa) (wh_pos (by assumption)) | exact dec_eq (dec_news (by assumption) (by k_mem)) (wh_neg (by assumption))
end
noncomputable section
-- the law's own statements, reckoned out of the row's program
def bodyOf : Stmt → List Stmt
  | .FunctionDef _ _ b _ _ _ _ _ _ _ => b
  | .For _ _ b _ _ => b
  | _ => []
def scopeOf : Stmt → Scope
  | .FunctionDef _ _ _ _ _ _ sc _ _ _ => sc
  | _ => default
noncomputable def nthS : List Stmt → Nat → Stmt
  | [], _ => .Pass default
  | x :: _, 0 => x
  | _ :: r, n + 1 => nthS r n
def lawDef : Stmt := nthS PySem.Challenge.pw_pq0162_01.main.body 27
def loopBody : List Stmt := bodyOf (nthS (bodyOf lawDef) 2)
def lawScope : Scope := scopeOf lawDef
abbrev lawEnv (L a : Addr) (ccd : Value) : Env := envOf (Str.ofString "law") lawScope L a ccd

/-- a decimal that stands in the base or that the ledger bears -/
def DecL (h₀ : Heap) (tl : List (Addr × Obj)) (D : Addr) (x e : Int) : Prop := Dec h₀ D x e ∨ ∃ o t u n, (D, o) ∈ tl ∧ o.cls = .type "tuple" ∧ o.data = .seq #[.int x t, .int e u] n
/-- a pair of decimals in order -/
def PairOk (h₀ : Heap) (tl : List (Addr × Obj)) (v : Value) : Prop := ∃ P D1 x1 e1 D2 x2 e2 n, v = .ref P ∧ (P, ({ cls := .type "tuple", data := .seq #[.ref D1, .ref D2] n } : Obj)) ∈ tl ∧ DecL h₀ tl D1 x1 e1 ∧ DecL h₀ tl D2 x2 e2 ∧ Sm x1 e1 ∧ Sm x2 e2 ∧ Le2 x1 e1 x2 e2
theorem DecL.sub {h₀ : Heap} {tl tl' : List (Addr × Obj)} {D : Addr} {x e : Int} (d : DecL h₀ tl D x e) (hs : ∀ q ∈ tl, q ∈ tl') : DecL h₀ tl' D x e := by
  rcases d with d | ⟨o, t, u, n, hm, r⟩
  · exact .inl d
  · exact .inr ⟨o, t, u, n, hs _ hm, r⟩
theorem PairOk.sub {h₀ : Heap} {tl tl' : List (Addr × Obj)} {v : Value} (d : PairOk h₀ tl v) (hs : ∀ q ∈ tl, q ∈ tl') : PairOk h₀ tl' v := by
  obtain ⟨P, D1, x1, e1, D2, x2, e2, n, hv, hm, d1, d2, r⟩ := d
  exact ⟨P, D1, x1, e1, D2, x2, e2, n, hv, hs _ hm, d1.sub hs, d2.sub hs, r⟩
theorem decL_dec {h₀ h : Heap} {L D : Addr} {m : Str → Option Value} {tl news : List (Addr × Obj)} {x e : Int} (d : DecL h₀ tl D x e) (F : Fr h₀ L h m) (N : News h₀ L h news) (hs : ∀ q ∈ tl, q ∈ news) : Dec h D x e := by
  rcases d with d | ⟨o, t, u, n, hm, hc, hd⟩
  · exact dec_base F d
  · exact ⟨t, u, o, (N _ (hs _ hm)).1, hc, n, hd⟩
theorem decL_mem {h₀ : Heap} {tl : List (Addr × Obj)} {D : Addr} {x e : Int} {t u : Tok} (hm : (D, tup2 x t e u) ∈ tl) : DecL h₀ tl D x e := .inr ⟨_, t, u, _, hm, rfl, rfl⟩
theorem decL_rep {h₀ : Heap} {tl : List (Addr × Obj)} {D q : Addr} {o : Obj} {x e : Int} (r : RepA h₀ D q o x e) (hm : (q, o) ∈ tl) : DecL h₀ tl D x e := by
  rcases r with r | ⟨rfl, t, u, n, hc, hd⟩
  · exact .inl r
  · exact .inr ⟨o, t, u, n, hm, hc, hd⟩
theorem pair_ok {h₀ : Heap} {tl : List (Addr × Obj)} {P D1 D2 : Addr} {x1 e1 x2 e2 : Int} {n : Nat} (hm : (P, ({ cls := .type "tuple", data := .seq #[.ref D1, .ref D2] n } : Obj)) ∈ tl) (d1 : DecL h₀ tl D1 x1 e1) (d2 : DecL h₀ tl D2 x2 e2) (s1 : Sm x1 e1) (s2 : Sm x2 e2) (l : Le2 x1 e1 x2 e2) : PairOk h₀ tl (.ref P) :=
  ⟨P, D1, x1, e1, D2, x2, e2, n, rfl, hm, d1, d2, s1, s2, l⟩

/-- what an if that may append hands on -/
abbrev RetP (h₀ : Heap) (L Df : Addr) (m : Str → Option Value) (ps : List Value) (tl : List (Addr × Obj)) (s : Shared) (Q : Flow → Shared → Prop) : Prop :=
  ∀ ps' nf' tl' h' tk', Fr h₀ L h' m → News h₀ L h' ((Df, listOf ps'.toArray nf') :: tl') → (∀ q ∈ tl, q ∈ tl') → OwnOff tl' [Df] → (∃ more, ps' = ps ++ more ∧ more.length ≤ 1 ∧ ∀ v ∈ more, PairOk h₀ tl' v) → Q .next { s with heap := h', toks := tk' }
theorem memL {α : Type} {q : α} {l : List α} (h : q ∈ l) : List.Mem q l := h
section
variable {h₀ h' : Heap} {L Df P D1 D2 : Addr} {m : Str → Option Value} {ps : List Value} {tl : List (Addr × Obj)} {s : Shared} {Q : Flow → Shared → Prop} {q1 q2 : Addr × Obj} {n nf nf' tk' : Nat} {x1 e1 x2 e2 : Int}
theorem retP_none (ret : RetP h₀ L Df m ps tl s Q) (F : Fr h₀ L h' m) (N : News h₀ L h' ((Df, listOf ps.toArray nf) :: tl)) (ho : OwnOff tl [Df]) : Q .next { s with heap := h', toks := tk' } :=
  ret ps nf tl h' tk' F N (fun _ h => h) ho ⟨[], by simp, by simp, fun _ h => nomatch h⟩
theorem retP_app (ret : RetP h₀ L Df m ps tl s Q) (F : Fr h₀ L h' m) (N : News h₀ L h' ((P, ({ cls := .type "tuple", data := .seq #[.ref D1, .ref D2] n } : Obj)) :: q2 :: q1 :: (Df, listOf (ps.toArray.push (.ref P)) nf') :: tl))
    (n1 : @Ne Nat q1.1 Df) (n2 : @Ne Nat q2.1 Df) (n3 : @Ne Nat P Df) (ho : OwnOff tl [Df])
    (d1 : DecL h₀ ((P, ({ cls := .type "tuple", data := .seq #[.ref D1, .ref D2] n } : Obj)) :: q2 :: q1 :: tl) D1 x1 e1) (d2 : DecL h₀ ((P, ({ cls := .type "tuple", data := .seq #[.ref D1, .ref D2] n } : Obj)) :: q2 :: q1 :: tl) D2 x2 e2)
    (s1 : Sm x1 e1) (s2 : Sm x2 e2) (l : Le2 x1 e1 x2 e2) : Q .next { s with heap := h', toks := tk' } := by
  refine ret (ps ++ [.ref P]) nf' ((P, ({ cls := .type "tuple", data := .seq #[.ref D1, .ref D2] n } : Obj)) :: q2 :: q1 :: tl) h' tk' F ?_ (fun q h => .tail _ (.tail _ (.tail _ h))) ?_ ⟨[.ref P], rfl, by simp, fun v hv => ?_⟩
  · intro q hq
    rw [List.push_toArray] at N
    rcases List.mem_cons.mp hq with rfl | hq
    · exact N _ (.tail _ (.tail _ (.tail _ (.head _))))
    · rcases List.mem_cons.mp hq with rfl | hq
      · exact N _ (.head _)
      · rcases List.mem_cons.mp hq with rfl | hq
        · exact N _ (.tail _ (.head _))
        · rcases List.mem_cons.mp hq with rfl | hq
          · exact N _ (.tail _ (.tail _ (.head _)))
          · exact N _ (.tail _ (.tail _ (.tail _ (.tail _ hq))))
  · intro q hq b hb
    rw [List.mem_singleton.mp hb]
    rcases List.mem_cons.mp hq with rfl | hq
    · exact n3
    · rcases List.mem_cons.mp hq with rfl | hq
      · exact n2
      · rcases List.mem_cons.mp hq with rfl | hq
        · exact n1
        · exact ho q hq _ (List.mem_singleton.mpr rfl)
  · rw [List.mem_singleton.mp hv]
    exact pair_ok (.head _) d1 d2 s1 s2 l
end
theorem Dealt.bd {x e : Int} (h : Dealt x e) : -399 ≤ x ∧ x ≤ 399 := ⟨h.1, h.2.1⟩
theorem low_high {x1 e1 x2 e2 : Int} (h1 : Dealt x1 e1) (h2 : Dealt x2 e2) (hl : Ex2 x1 e1 x2 e2) : x1 < 0 ∨ 0 ≤ x2 := by
  by_cases h : 0 ≤ x1
  · exact .inr (ex_nonneg h1 h2 hl h)
  · exact .inl (by omega)
def tgtOf : Stmt → Expr
  | .For t _ _ _ _ => t
  | _ => default
/-- what an append hands on -/
abbrev RetQ (h₀ : Heap) (L Df : Addr) (m : Str → Option Value) (ps : List Value) (tl : List (Addr × Obj)) (s : Shared) (Q : Flow → Shared → Prop) (xa ea xb eb : Int) : Prop :=
  ∀ P D1 D2 n nf' tl' h' tk', Fr h₀ L h' m → News h₀ L h' ((Df, listOf (ps ++ [Value.ref P]).toArray nf') :: tl') → (∀ q ∈ tl, q ∈ tl') → OwnOff tl' [Df] → (P, ({ cls := .type "tuple", data := .seq #[.ref D1, .ref D2] n } : Obj)) ∈ tl' → DecL h₀ tl' D1 xa ea → DecL h₀ tl' D2 xb eb → Q .next { s with heap := h', toks := tk' }
section
variable {h₀ h' : Heap} {L Df P D1 D2 : Addr} {m : Str → Option Value} {ps : List Value} {tl : List (Addr × Obj)} {s : Shared} {Q : Flow → Shared → Prop} {q1 q2 : Addr × Obj} {n nf nf' tk' : Nat} {x1 e1 x2 e2 : Int}
theorem retQ_app (ret : RetQ h₀ L Df m ps tl s Q x1 e1 x2 e2) (F : Fr h₀ L h' m) (N : News h₀ L h' ((P, ({ cls := .type "tuple", data := .seq #[.ref D1, .ref D2] n } : Obj)) :: q2 :: q1 :: (Df, listOf (ps.toArray.push (.ref P)) nf') :: tl))
    (n1 : @Ne Nat q1.1 Df) (n2 : @Ne Nat q2.1 Df) (n3 : @Ne Nat P Df) (ho : OwnOff tl [Df])
    (d1 : DecL h₀ ((P, ({ cls := .type "tuple", data := .seq #[.ref D1, .ref D2] n } : Obj)) :: q2 :: q1 :: tl) D1 x1 e1) (d2 : DecL h₀ ((P, ({ cls := .type "tuple", data := .seq #[.ref D1, .ref D2] n } : Obj)) :: q2 :: q1 :: tl) D2 x2 e2) :
    Q .next { s with heap := h', toks := tk' } := by
  refine ret P D1 D2 n nf' ((P, ({ cls := .type "tuple", data := .seq #[.ref D1, .ref D2] n } : Obj)) :: q2 :: q1 :: tl) h' tk' F ?_ (fun q h => .tail _ (.tail _ (.tail _ h))) ?_ (.head _) d1 d2
  · intro q hq
    rw [List.push_toArray] at N
    rcases List.mem_cons.mp hq with rfl | hq
    · exact N _ (.tail _ (.tail _ (.tail _ (.head _))))
    · rcases List.mem_cons.mp hq with rfl | hq
      · exact N _ (.head _)
      · rcases List.mem_cons.mp hq with rfl | hq
        · exact N _ (.tail _ (.head _))
        · rcases List.mem_cons.mp hq with rfl | hq
          · exact N _ (.tail _ (.tail _ (.head _)))
          · exact N _ (.tail _ (.tail _ (.tail _ (.tail _ hq))))
  · intro q hq b hb
    rw [List.mem_singleton.mp hb]
    rcases List.mem_cons.mp hq with rfl | hq
    · exact n3
    · rcases List.mem_cons.mp hq with rfl | hq
      · exact n2
      · rcases List.mem_cons.mp hq with rfl | hq
        · exact n1
        · exact ho q hq _ (List.mem_singleton.mpr rfl)
end
/-- what the list's making hands on -/
abbrev RetN (h₀ : Heap) (L : Addr) (m : Addr → Str → Option Value) (tl : List (Addr × Obj)) (s : Shared) (Q : Flow → Shared → Prop) (xa ea xb eb : Int) : Prop :=
  ∀ Df P D1 D2 n nf' tl' h' tk', Fr h₀ L h' (m Df) → News h₀ L h' ((Df, listOf [Value.ref P].toArray nf') :: tl') → (∀ q ∈ tl, q ∈ tl') → OwnOff tl' [Df] → (P, ({ cls := .type "tuple", data := .seq #[.ref D1, .ref D2] n } : Obj)) ∈ tl' → DecL h₀ tl' D1 xa ea → DecL h₀ tl' D2 xb eb → Q .next { s with heap := h', toks := tk' }
theorem retN_new {h₀ h' : Heap} {L Df P D1 D2 : Addr} {m : Addr → Str → Option Value} {tl : List (Addr × Obj)} {s : Shared} {Q : Flow → Shared → Prop} {q1 q2 : Addr × Obj} {n nf' tk' : Nat} {x1 e1 x2 e2 : Int}
    (ret : RetN h₀ L m tl s Q x1 e1 x2 e2) (F : Fr h₀ L h' (m Df)) (N : News h₀ L h' ((Df, listOf #[Value.ref P] nf') :: (P, ({ cls := .type "tuple", data := .seq #[.ref D1, .ref D2] n } : Obj)) :: q2 :: q1 :: tl))
    (lt : AllLt Df ((P, ({ cls := .type "tuple", data := .seq #[.ref D1, .ref D2] n } : Obj)) :: q2 :: q1 :: tl))
    (d1 : DecL h₀ ((P, ({ cls := .type "tuple", data := .seq #[.ref D1, .ref D2] n } : Obj)) :: q2 :: q1 :: tl) D1 x1 e1) (d2 : DecL h₀ ((P, ({ cls := .type "tuple", data := .seq #[.ref D1, .ref D2] n } : Obj)) :: q2 :: q1 :: tl) D2 x2 e2) :
    Q .next { s with heap := h', toks := tk' } :=
  ret Df P D1 D2 n nf' _ h' tk' F N (fun q h => .tail _ (.tail _ (.tail _ h))) (fun q hq b hb => by rw [List.mem_singleton.mp hb]; exact Nat.ne_of_lt (kst_ltOf lt q hq)) (.head _) d1 d2
theorem news_drop1 {h₀ h : Heap} {L : Addr} {q : Addr × Obj} {l : List (Addr × Obj)} (N : News h₀ L h (q :: l)) : News h₀ L h l := fun p hp => N p (.tail _ hp)
theorem news_drop2 {h₀ h : Heap} {L : Addr} {q q' : Addr × Obj} {l : List (Addr × Obj)} (N : News h₀ L h (q :: q' :: l)) : News h₀ L h l := fun p hp => N p (.tail _ (.tail _ hp))
end
section

theorem t_add {w mean mg mb} (dp un : Nat) (gd : Option (List Code)) (a : Addr) (ccd : Value) (outer : List Env) (A₀ : Around) (base h₀ : Heap) (L : Addr) (rest : Str → Option Value) (s : Shared) (Q : Flow → Shared → Prop) (E : Value → Shared → Prop)
    (B : Below A₀ base outer h₀) (X : (hd.heap_39 w.params).In h₀) (T : Top hd.view_39 (looseW hd.view_39 [Str.ofString "BasicError"]) mean mg mb h₀) (hdp : dp + 20 < recursionLimit) (hun : un + 200 < cLine) (A Bd Cd : Addr) (pv : Value) (x1 e1 x2 e2 x3 e3 d p : Int) (t1 u1 t2 u2 t3 u3 tp td : Tok) (h1 : Dealt x1 e1) (h2 : Dealt x2 e2) (h3 : Dealt x3 e3) (hl : Ex2 x1 e1 x2 e2) (hd1 : 3 ≤ d) (hd2 : d ≤ 5) (hp1 : -2 ≤ p) (hp2 : p ≤ 2) (tl : List (Addr × Obj))
    (F : Fr h₀ L s.heap (fun y => if y = Str.ofString "high" then some (.ref Bd) else if y = Str.ofString "low" then some (.ref A) else if y = Str.ofString "places" then some (.int p tp) else if y = Str.ofString "third" then some (.ref Cd) else if y = Str.ofString "pair" then some (pv) else if y = Str.ofString "digits" then some (.int d td) else rest y)) (N : News h₀ L s.heap tl) (hA : (A, tup2 x1 t1 e1 u1) ∈ tl) (hB : (Bd, tup2 x2 t2 e2 u2) ∈ tl) (hC : (Cd, tup2 x3 t3 e3 u3) ∈ tl)
    (ret : RetN h₀ L (fun Df => fun y => if y = Str.ofString "found" then some (.ref Df) else if y = Str.ofString "high" then some (.ref Bd) else if y = Str.ofString "low" then some (.ref A) else if y = Str.ofString "places" then some (.int p tp) else if y = Str.ofString "third" then some (.ref Cd) else if y = Str.ofString "pair" then some (pv) else if y = Str.ofString "digits" then some (.int d td) else rest y) tl s Q (mkX (adC x1 e1 x3 e3) d) (mkE (adC x1 e1 x3 e3) (mn e1 e3) d) (mkX (adC x2 e2 x3 e3) d) (mkE (adC x2 e2 x3 e3) (mn e2 e3) d)) :
    wpAny (model PySem.Challenge.rw_pq0162_01.row.prog w) (ktrTop dp un gd (Str.ofString "law") lawScope L a ccd [] outer) (exec (nthS loopBody 3) (lawEnv L a ccd)) Q E s := by
  k_with_none
  k_with "p_enter" => first | ((refine' enter_pure ?k1 ?k2 ?k3 ?k5 ?kA ?kF ?kK ?k6 ?k7 ?k8 ?k9 ?kB ?_ ?c2 ?c3 ?c4 ?c5; (case kA => exact rfl); (case kF => exact rfl); (case kK => assumption); (case k1 => k_asm); (case k2 => k_asm); (case k3 => k_asm); (case k5 => k_asm); (case k6 => k_is); (case k7 => k_is); (case k8 => ktr_room); (case k9 => exact BindsTo.of_eq rfl); (case c5 => decide); (case kB => exact locs rfl); (case c2 => exact rfl); (case c3 => exact rfl); (case c4 => exact rfl); k_whole; intro L' h' F' N' B' X' T'; (try dsimp only); (try k_fold))) | fail "p_enter"
  k_with "h_enter" => first | ((refine' enter_hand ?k1 ?k2 ?kN ?k3 ?k5 ?kA ?kF ?kK ?k6 ?k7 ?k8 ?k9 ?kB ?_ ?c2 ?c3 ?c4 ?c5; (case kA => exact rfl); (case kF => exact rfl); (case kK => assumption); (case k1 => k_asm); (case k2 => k_asm); (case kN => k_asm); (case k3 => k_asm); (case k5 => k_asm); (case k6 => k_is); (case k7 => k_is); (case k8 => ktr_room); (case k9 => exact BindsTo.of_eq rfl); (case c5 => decide); (case kB => exact locs rfl); (case c2 => exact rfl); (case c3 => exact rfl); (case c4 => exact rfl); k_whole)) | fail "h_enter"
  k_with "subscriptTail" => first | ((k_here; (with_reducible show wpAny _ _ (subscriptTail _ _ (Value.ref _) (Value.int _ _)) _ _ _); k_dflt (refine' item_tupleT ?t ?a ?b ?c ?d ?_; (case t => exact Fr.tup (by assumption) (by assumption)); (case a => decide); (case b => decide); (case c => rfl); (case d => rfl); k_whole))) | fail "subscriptTail"
  k_with "k_ne" => first | (first | exact ne_all (by with_reducible assumption) (by k_mem) | exact ne_all' (by with_reducible assumption) (by k_mem) | fail "k_ne") | fail "k_ne"
  k_with "p_sm" => first | (first | with_reducible assumption | exact Sm.neg (by with_reducible assumption) | exact sm_lit (by omega) (by omega) (by omega) (by omega)) | fail "p_sm"
  k_with "p_room" => first | (first | with_reducible assumption | exact (‹(_ : Int) < 0 → Room _ _ _›) (by with_reducible assumption) | exact rd_room1 (by with_reducible assumption) (by with_reducible assumption) (by with_reducible assumption) (by first | exact .inl rfl | exact .inr rfl) | exact rd_room2 (by with_reducible assumption) (by with_reducible assumption) (by with_reducible assumption) (by first | exact .inl rfl | exact .inr rfl)) | fail "p_room"
  k_with "p_half" => first | (first | with_reducible exact half_gt (by with_reducible assumption) | with_reducible exact half_tie (by with_reducible assumption) (by with_reducible assumption) | with_reducible exact half_lt (by with_reducible assumption) (by with_reducible assumption) | with_reducible exact half_even (by with_reducible assumption) (by with_reducible assumption)) | fail "p_half"
  k_with "p_rd" => first | (first | exact dec_eq (dec_base (by assumption) (by with_reducible assumption)) ⟨rd_sameX (.inl (by with_reducible assumption)), rd_sameE (.inl (by with_reducible assumption))⟩ | exact dec_eq (dec_base (by assumption) (by with_reducible assumption)) ⟨rd_sameX (.inr (by with_reducible assumption)), rd_sameE (.inr (by with_reducible assumption))⟩ | exact dec_eq (dec_news (by assumption) (by k_mem)) (rd_pos (by with_reducible assumption) (by with_reducible assumption) (by walk_at "p_half") (by with_reducible assumption) (by with_reducible assumption)) | exact dec_eq (dec_news (by assumption) (by k_mem)) (rd_neg (by with_reducible assumption) (by with_reducible assumption) (by walk_at "p_half") (by with_reducible assumption) (by with_reducible assumption)) | exact dec_eq ⟨_, _, tupK (Frag.In.keeps (by assumption) (Fr.keep (by assumption))) (by k_is)⟩ (rd_zero (by with_reducible assumption) (by with_reducible assumption) (by walk_at "p_half") (by with_reducible assumption))) | fail "p_rd"
  k_with "p_ne" => first | (first | exact pow10_ne _ | with_reducible assumption | exact root_ne (by with_reducible assumption) | omega) | fail "p_ne"
  k_with "p_py" => first | (first | decide +kernel | exact py_pow (by omega) | exact root_py (by with_reducible assumption) | exact py_of (k := 20) (by decide) (by omega) | exact py_of (k := 60) (by decide) (by omega)) | fail "p_py"
  k_with "binaryOp FloorDiv int int" => first | ((k_here; (with_reducible refine floordiv_int ?kbe ?_ (Or.inl (PyProof.noPylong_of_log2 ?kbp))); (case kbe => walk_at "p_ne"); (case kbp => walk_at "p_py"))) | fail "binaryOp FloorDiv int int"
  k_with "binaryOp Mod int int" => first | ((k_here; (with_reducible refine mod_int' ?kbe ?_); (case kbe => walk_at "p_ne"))) | fail "binaryOp Mod int int"
  k_with "binaryOp Mult int int" => first | ((k_here; first | (with_reducible refine mul_int ?_ (PySem.IntMulOk.of_left (PySem.intBits_le_64 ?kma ?kmb)); (case kma => omega); (case kmb => omega)) | (with_reducible refine mul_int ?_ (PySem.IntMulOk.of_right (PySem.intBits_le_64 ?kma ?kmb)); (case kma => omega); (case kmb => omega)))) | fail "binaryOp Mult int int"
  k_with "binaryOp Pow int int" => first | ((k_here; (with_reducible refine pow_int_small ?kb1 ?kb2 ?kb3 ?_); (case kb1 => omega); (case kb2 => omega); (case kb3 => decide))) | fail "binaryOp Pow int int"
  k_with "k_ne" => first | (first | exact not_at (by with_reducible assumption) (by k_mem) (fun hh9 => absurd (Value.type.inj hh9) (by decide)) | exact not_at' (by with_reducible assumption) (by k_mem) (fun hh9 => absurd (Value.type.inj hh9) (by decide)) | fail "k_ne") | fail "k_ne"
  k_with "p_sm" => first | (first | exact Dealt.sm (by with_reducible assumption) | (with_reducible refine mk_sm ?zmk_sm0 ?zmk_sm1; (case zmk_sm0 => walk_at "p_room"); (case zmk_sm1 => omega)) | (with_reducible refine wh_sm ?zwh_sm0 ?zwh_sm1 ?zwh_sm2; (case zwh_sm0 => with_reducible assumption); (case zwh_sm1 => omega); (case zwh_sm2 => omega)) | (with_reducible refine rd_sm ?zrd_sm0 ?zrd_sm1 ?zrd_sm2 ?zrd_sm3 ?zrd_sm4; (case zrd_sm0 => with_reducible assumption); (case zrd_sm1 => omega); (case zrd_sm2 => omega); (case zrd_sm3 => omega); (case zrd_sm4 => omega))) | fail "p_sm"
  k_with "p_ex" => first | (first | with_reducible exact ex_yes (by assumption) | with_reducible exact ex_no (by assumption)) | fail "p_ex"
  k_with "p_room" => first | (first | (with_reducible refine room_add ?zroom_add0 ?zroom_add1 ?zroom_add2; (case zroom_add0 => with_reducible assumption); (case zroom_add1 => with_reducible assumption); (case zroom_add2 => omega)) | (with_reducible refine room_add ?zroom_add0 ?zroom_add1 ?zroom_add2; (case zroom_add0 => with_reducible assumption); (case zroom_add1 => exact Dealt.neg (by with_reducible assumption)); (case zroom_add2 => omega)) | (with_reducible refine room_mul ?zroom_mul0 ?zroom_mul1 ?zroom_mul2; (case zroom_mul0 => with_reducible assumption); (case zroom_mul1 => with_reducible assumption); (case zroom_mul2 => omega)) | (with_reducible refine room_div1 ?zroom_div10 ?zroom_div11 ?zroom_div12 ?zroom_div13 ?zroom_div14; (case zroom_div10 => with_reducible assumption); (case zroom_div11 => with_reducible assumption); (case zroom_div12 => omega); (case zroom_div13 => omega); (case zroom_div14 => omega)) | (with_reducible refine room_div2 ?zroom_div20 ?zroom_div21 ?zroom_div22 ?zroom_div23 ?zroom_div24; (case zroom_div20 => with_reducible assumption); (case zroom_div21 => with_reducible assumption); (case zroom_div22 => omega); (case zroom_div23 => omega); (case zroom_div24 => omega)) | (with_reducible refine room_dvC ?zroom_dvC0 ?zroom_dvC1 ?zroom_dvC2 ?zroom_dvC3 ?zroom_dvC4; (case zroom_dvC0 => with_reducible assumption); (case zroom_dvC1 => with_reducible assumption); (case zroom_dvC2 => omega); (case zroom_dvC3 => omega); (case zroom_dvC4 => omega)) | (with_reducible refine rt_roomP ?zrt_roomP0 ?zrt_roomP1 ?zrt_roomP2 ?zrt_roomP3; (case zrt_roomP0 => with_reducible assumption); (case zrt_roomP1 => omega); (case zrt_roomP2 => omega); (case zrt_roomP3 => omega)) | (with_reducible refine rt_room ?zrt_room0 ?zrt_room1 ?zrt_room2 ?zrt_room3 ?zrt_room4; (case zrt_room0 => with_reducible assumption); (case zrt_room1 => omega); (case zrt_room2 => omega); (case zrt_room3 => omega); (case zrt_room4 => omega))) | fail "p_room"
  k_with "p_le" => first | (first | (with_reducible refine mono_add ?zmono_add0 ?zmono_add1 ?zmono_add2 ?zmono_add3 ?zmono_add4 ?zmono_add5; (case zmono_add0 => with_reducible assumption); (case zmono_add1 => with_reducible assumption); (case zmono_add2 => with_reducible assumption); (case zmono_add3 => walk_at "p_ex"); (case zmono_add4 => omega); (case zmono_add5 => omega)) | (with_reducible refine mono_sub1 ?zmono_sub10 ?zmono_sub11 ?zmono_sub12 ?zmono_sub13 ?zmono_sub14 ?zmono_sub15; (case zmono_sub10 => with_reducible assumption); (case zmono_sub11 => with_reducible assumption); (case zmono_sub12 => with_reducible assumption); (case zmono_sub13 => walk_at "p_ex"); (case zmono_sub14 => omega); (case zmono_sub15 => omega)) | (with_reducible refine mono_sub2 ?zmono_sub20 ?zmono_sub21 ?zmono_sub22 ?zmono_sub23 ?zmono_sub24 ?zmono_sub25; (case zmono_sub20 => with_reducible assumption); (case zmono_sub21 => with_reducible assumption); (case zmono_sub22 => with_reducible assumption); (case zmono_sub23 => walk_at "p_ex"); (case zmono_sub24 => omega); (case zmono_sub25 => omega)) | (with_reducible refine mono_wh ?zmono_wh0 ?zmono_wh1 ?zmono_wh2 ?zmono_wh3 ?zmono_wh4; (case zmono_wh0 => with_reducible assumption); (case zmono_wh1 => with_reducible assumption); (case zmono_wh2 => walk_at "p_ex"); (case zmono_wh3 => omega); (case zmono_wh4 => omega)) | (with_reducible refine mono_rd ?zmono_rd0 ?zmono_rd1 ?zmono_rd2 ?zmono_rd3 ?zmono_rd4 ?zmono_rd5 ?zmono_rd6; (case zmono_rd0 => with_reducible assumption); (case zmono_rd1 => with_reducible assumption); (case zmono_rd2 => walk_at "p_ex"); (case zmono_rd3 => omega); (case zmono_rd4 => omega); (case zmono_rd5 => omega); (case zmono_rd6 => omega)) | (with_reducible refine mono_mul ?zmono_mul0 ?zmono_mul1 ?zmono_mul2 ?zmono_mul3 ?zmono_mul4 ?zmono_mul5 ?zmono_mul6; (case zmono_mul0 => with_reducible assumption); (case zmono_mul1 => with_reducible assumption); (case zmono_mul2 => with_reducible assumption); (case zmono_mul3 => walk_at "p_ex"); (case zmono_mul4 => omega); (case zmono_mul5 => omega); (case zmono_mul6 => omega)) | (with_reducible refine mono_div ?zmono_div0 ?zmono_div1 ?zmono_div2 ?zmono_div3 ?zmono_div4 ?zmono_div5 ?zmono_div6; (case zmono_div0 => with_reducible assumption); (case zmono_div1 => with_reducible assumption); (case zmono_div2 => with_reducible assumption); (case zmono_div3 => walk_at "p_ex"); (case zmono_div4 => omega); (case zmono_div5 => omega); (case zmono_div6 => omega)) | (with_reducible refine mono_rt ?zmono_rt0 ?zmono_rt1 ?zmono_rt2 ?zmono_rt3 ?zmono_rt4 ?zmono_rt5; (case zmono_rt0 => with_reducible assumption); (case zmono_rt1 => with_reducible assumption); (case zmono_rt2 => walk_at "p_ex"); (case zmono_rt3 => omega); (case zmono_rt4 => omega); (case zmono_rt5 => omega))) | fail "p_le"
  k_with "p_dec" => first | (first | exact dec_news (by assumption) (by k_mem) | exact dec_rep (by with_reducible assumption) (by assumption) (by assumption) (by k_mem)) | fail "p_dec"
  k_with "p_decl" => first | (first | exact decL_mem (by k_mem) | exact decL_rep (by with_reducible assumption) (by k_mem) | fail "p_decl") | fail "p_decl"
  k_with "k_mem" => first | (first | exact memL (by with_reducible assumption) | fail "k_mem") | fail "k_mem"
  k_with "p_ex" => first | (with_reducible assumption) | fail "p_ex"
  k_with "call ref" => first | ((k_here; k_dflt (refine' use_F (c_add _ _ _ _ _ _ _ _) ?k1 ?k2 ?k3 ?k4 ?k5 ?kK ?kd ?ku ?kp ?_; (case k1 => k_asm); (case k2 => k_asm); (case k3 => k_asm); (case k4 => k_asm); (case k5 => k_asm); (case kK => first | exact rfl | assumption); (case kd => ktr_room); (case ku => ktr_units); (case kp => first | trivial | ((try dsimp only); exact ⟨(by walk_at "p_dec"), (by walk_at "p_sm"), (by walk_at "p_dec"), (by walk_at "p_sm"), by first | assumption | walk_at "p_room"⟩)); intro D9 t9 u9 h9 tk9 F9 N9 hne9; (try dsimp only); (try k_fold)))) | fail "call ref"
  have kMark9 := kstMark
  revert X
  k_fill
  intro X
  conv => arg 3; arg 1; whnf
  unfold lawEnv
  conv => arg 3; arg 2; arg 2; whnf
  conv => arg 2; arg 5; whnf
  k_steps
  all_goals first
    | exact retN_new ret (by assumption) (by assumption) (by simp only [AllLt, and_true]; assumption) (by walk_at "p_decl") (by walk_at "p_decl")
    | fail "end"
end
section

theorem t_sub1 {w mean mg mb} (dp un : Nat) (gd : Option (List Code)) (a : Addr) (ccd : Value) (outer : List Env) (A₀ : Around) (base h₀ : Heap) (L : Addr) (rest : Str → Option Value) (s : Shared) (Q : Flow → Shared → Prop) (E : Value → Shared → Prop)
    (B : Below A₀ base outer h₀) (X : (hd.heap_39 w.params).In h₀) (T : Top hd.view_39 (looseW hd.view_39 [Str.ofString "BasicError"]) mean mg mb h₀) (hdp : dp + 20 < recursionLimit) (hun : un + 200 < cLine) (A Bd Cd Df : Addr) (pv : Value) (x1 e1 x2 e2 x3 e3 d p : Int) (t1 u1 t2 u2 t3 u3 tp td : Tok) (h1 : Dealt x1 e1) (h2 : Dealt x2 e2) (h3 : Dealt x3 e3) (hl : Ex2 x1 e1 x2 e2) (hd1 : 3 ≤ d) (hd2 : d ≤ 5) (hp1 : -2 ≤ p) (hp2 : p ≤ 2) (ps : List Value) (nf : Nat) (tl : List (Addr × Obj)) (hps : ps.length ≤ 100)
    (F : Fr h₀ L s.heap (fun y => if y = Str.ofString "found" then some (.ref Df) else if y = Str.ofString "high" then some (.ref Bd) else if y = Str.ofString "low" then some (.ref A) else if y = Str.ofString "places" then some (.int p tp) else if y = Str.ofString "third" then some (.ref Cd) else if y = Str.ofString "pair" then some (pv) else if y = Str.ofString "digits" then some (.int d td) else rest y)) (N : News h₀ L s.heap ((Df, listOf ps.toArray nf) :: tl)) (hA : (A, tup2 x1 t1 e1 u1) ∈ tl) (hB : (Bd, tup2 x2 t2 e2 u2) ∈ tl) (hC : (Cd, tup2 x3 t3 e3 u3) ∈ tl) (ho : OwnOff tl [Df])
    (ret : RetQ h₀ L Df (fun y => if y = Str.ofString "found" then some (.ref Df) else if y = Str.ofString "high" then some (.ref Bd) else if y = Str.ofString "low" then some (.ref A) else if y = Str.ofString "places" then some (.int p tp) else if y = Str.ofString "third" then some (.ref Cd) else if y = Str.ofString "pair" then some (pv) else if y = Str.ofString "digits" then some (.int d td) else rest y) ps tl s Q (mkX (adC x1 e1 (0 - x3) e3) d) (mkE (adC x1 e1 (0 - x3) e3) (mn e1 e3) d) (mkX (adC x2 e2 (0 - x3) e3) d) (mkE (adC x2 e2 (0 - x3) e3) (mn e2 e3) d)) :
    wpAny (model PySem.Challenge.rw_pq0162_01.row.prog w) (ktrTop dp un gd (Str.ofString "law") lawScope L a ccd [] outer) (exec (nthS loopBody 4) (lawEnv L a ccd)) Q E s := by
  k_with_none
  k_with "p_enter" => first | ((refine' enter_pure ?k1 ?k2 ?k3 ?k5 ?kA ?kF ?kK ?k6 ?k7 ?k8 ?k9 ?kB ?_ ?c2 ?c3 ?c4 ?c5; (case kA => exact rfl); (case kF => exact rfl); (case kK => assumption); (case k1 => k_asm); (case k2 => k_asm); (case k3 => k_asm); (case k5 => k_asm); (case k6 => k_is); (case k7 => k_is); (case k8 => ktr_room); (case k9 => exact BindsTo.of_eq rfl); (case c5 => decide); (case kB => exact locs rfl); (case c2 => exact rfl); (case c3 => exact rfl); (case c4 => exact rfl); k_whole; intro L' h' F' N' B' X' T'; (try dsimp only); (try k_fold))) | fail "p_enter"
  k_with "h_enter" => first | ((refine' enter_hand ?k1 ?k2 ?kN ?k3 ?k5 ?kA ?kF ?kK ?k6 ?k7 ?k8 ?k9 ?kB ?_ ?c2 ?c3 ?c4 ?c5; (case kA => exact rfl); (case kF => exact rfl); (case kK => assumption); (case k1 => k_asm); (case k2 => k_asm); (case kN => k_asm); (case k3 => k_asm); (case k5 => k_asm); (case k6 => k_is); (case k7 => k_is); (case k8 => ktr_room); (case k9 => exact BindsTo.of_eq rfl); (case c5 => decide); (case kB => exact locs rfl); (case c2 => exact rfl); (case c3 => exact rfl); (case c4 => exact rfl); k_whole)) | fail "h_enter"
  k_with "subscriptTail" => first | ((k_here; (with_reducible show wpAny _ _ (subscriptTail _ _ (Value.ref _) (Value.int _ _)) _ _ _); k_dflt (refine' item_tupleT ?t ?a ?b ?c ?d ?_; (case t => exact Fr.tup (by assumption) (by assumption)); (case a => decide); (case b => decide); (case c => rfl); (case d => rfl); k_whole))) | fail "subscriptTail"
  k_with "k_ne" => first | (first | exact ne_all (by with_reducible assumption) (by k_mem) | exact ne_all' (by with_reducible assumption) (by k_mem) | fail "k_ne") | fail "k_ne"
  k_with "p_sm" => first | (first | with_reducible assumption | exact Sm.neg (by with_reducible assumption) | exact sm_lit (by omega) (by omega) (by omega) (by omega)) | fail "p_sm"
  k_with "p_room" => first | (first | with_reducible assumption | exact (‹(_ : Int) < 0 → Room _ _ _›) (by with_reducible assumption) | exact rd_room1 (by with_reducible assumption) (by with_reducible assumption) (by with_reducible assumption) (by first | exact .inl rfl | exact .inr rfl) | exact rd_room2 (by with_reducible assumption) (by with_reducible assumption) (by with_reducible assumption) (by first | exact .inl rfl | exact .inr rfl)) | fail "p_room"
  k_with "p_half" => first | (first | with_reducible exact half_gt (by with_reducible assumption) | with_reducible exact half_tie (by with_reducible assumption) (by with_reducible assumption) | with_reducible exact half_lt (by with_reducible assumption) (by with_reducible assumption) | with_reducible exact half_even (by with_reducible assumption) (by with_reducible assumption)) | fail "p_half"
  k_with "p_rd" => first | (first | exact dec_eq (dec_base (by assumption) (by with_reducible assumption)) ⟨rd_sameX (.inl (by with_reducible assumption)), rd_sameE (.inl (by with_reducible assumption))⟩ | exact dec_eq (dec_base (by assumption) (by with_reducible assumption)) ⟨rd_sameX (.inr (by with_reducible assumption)), rd_sameE (.inr (by with_reducible assumption))⟩ | exact dec_eq (dec_news (by assumption) (by k_mem)) (rd_pos (by with_reducible assumption) (by with_reducible assumption) (by walk_at "p_half") (by with_reducible assumption) (by with_reducible assumption)) | exact dec_eq (dec_news (by assumption) (by k_mem)) (rd_neg (by with_reducible assumption) (by with_reducible assumption) (by walk_at "p_half") (by with_reducible assumption) (by with_reducible assumption)) | exact dec_eq ⟨_, _, tupK (Frag.In.keeps (by assumption) (Fr.keep (by assumption))) (by k_is)⟩ (rd_zero (by with_reducible assumption) (by with_reducible assumption) (by walk_at "p_half") (by with_reducible assumption))) | fail "p_rd"
  k_with "p_ne" => first | (first | exact pow10_ne _ | with_reducible assumption | exact root_ne (by with_reducible assumption) | omega) | fail "p_ne"
  k_with "p_py" => first | (first | decide +kernel | exact py_pow (by omega) | exact root_py (by with_reducible assumption) | exact py_of (k := 20) (by decide) (by omega) | exact py_of (k := 60) (by decide) (by omega)) | fail "p_py"
  k_with "binaryOp FloorDiv int int" => first | ((k_here; (with_reducible refine floordiv_int ?kbe ?_ (Or.inl (PyProof.noPylong_of_log2 ?kbp))); (case kbe => walk_at "p_ne"); (case kbp => walk_at "p_py"))) | fail "binaryOp FloorDiv int int"
  k_with "binaryOp Mod int int" => first | ((k_here; (with_reducible refine mod_int' ?kbe ?_); (case kbe => walk_at "p_ne"))) | fail "binaryOp Mod int int"
  k_with "binaryOp Mult int int" => first | ((k_here; first | (with_reducible refine mul_int ?_ (PySem.IntMulOk.of_left (PySem.intBits_le_64 ?kma ?kmb)); (case kma => omega); (case kmb => omega)) | (with_reducible refine mul_int ?_ (PySem.IntMulOk.of_right (PySem.intBits_le_64 ?kma ?kmb)); (case kma => omega); (case kmb => omega)))) | fail "binaryOp Mult int int"
  k_with "binaryOp Pow int int" => first | ((k_here; (with_reducible refine pow_int_small ?kb1 ?kb2 ?kb3 ?_); (case kb1 => omega); (case kb2 => omega); (case kb3 => decide))) | fail "binaryOp Pow int int"
  k_with "k_ne" => first | (first | exact not_at (by with_reducible assumption) (by k_mem) (fun hh9 => absurd (Value.type.inj hh9) (by decide)) | exact not_at' (by with_reducible assumption) (by k_mem) (fun hh9 => absurd (Value.type.inj hh9) (by decide)) | fail "k_ne") | fail "k_ne"
  k_with "p_sm" => first | (first | exact Dealt.sm (by with_reducible assumption) | (with_reducible refine mk_sm ?zmk_sm0 ?zmk_sm1; (case zmk_sm0 => walk_at "p_room"); (case zmk_sm1 => omega)) | (with_reducible refine wh_sm ?zwh_sm0 ?zwh_sm1 ?zwh_sm2; (case zwh_sm0 => with_reducible assumption); (case zwh_sm1 => omega); (case zwh_sm2 => omega)) | (with_reducible refine rd_sm ?zrd_sm0 ?zrd_sm1 ?zrd_sm2 ?zrd_sm3 ?zrd_sm4; (case zrd_sm0 => with_reducible assumption); (case zrd_sm1 => omega); (case zrd_sm2 => omega); (case zrd_sm3 => omega); (case zrd_sm4 => omega))) | fail "p_sm"
  k_with "p_ex" => first | (first | with_reducible exact ex_yes (by assumption) | with_reducible exact ex_no (by assumption)) | fail "p_ex"
  k_with "p_room" => first | (first | (with_reducible refine room_add ?zroom_add0 ?zroom_add1 ?zroom_add2; (case zroom_add0 => with_reducible assumption); (case zroom_add1 => with_reducible assumption); (case zroom_add2 => omega)) | (with_reducible refine room_add ?zroom_add0 ?zroom_add1 ?zroom_add2; (case zroom_add0 => with_reducible assumption); (case zroom_add1 => exact Dealt.neg (by with_reducible assumption)); (case zroom_add2 => omega)) | (with_reducible refine room_mul ?zroom_mul0 ?zroom_mul1 ?zroom_mul2; (case zroom_mul0 => with_reducible assumption); (case zroom_mul1 => with_reducible assumption); (case zroom_mul2 => omega)) | (with_reducible refine room_div1 ?zroom_div10 ?zroom_div11 ?zroom_div12 ?zroom_div13 ?zroom_div14; (case zroom_div10 => with_reducible assumption); (case zroom_div11 => with_reducible assumption); (case zroom_div12 => omega); (case zroom_div13 => omega); (case zroom_div14 => omega)) | (with_reducible refine room_div2 ?zroom_div20 ?zroom_div21 ?zroom_div22 ?zroom_div23 ?zroom_div24; (case zroom_div20 => with_reducible assumption); (case zroom_div21 => with_reducible assumption); (case zroom_div22 => omega); (case zroom_div23 => omega); (case zroom_div24 => omega)) | (with_reducible refine room_dvC ?zroom_dvC0 ?zroom_dvC1 ?zroom_dvC2 ?zroom_dvC3 ?zroom_dvC4; (case zroom_dvC0 => with_reducible assumption); (case zroom_dvC1 => with_reducible assumption); (case zroom_dvC2 => omega); (case zroom_dvC3 => omega); (case zroom_dvC4 => omega)) | (with_reducible refine rt_roomP ?zrt_roomP0 ?zrt_roomP1 ?zrt_roomP2 ?zrt_roomP3; (case zrt_roomP0 => with_reducible assumption); (case zrt_roomP1 => omega); (case zrt_roomP2 => omega); (case zrt_roomP3 => omega)) | (with_reducible refine rt_room ?zrt_room0 ?zrt_room1 ?zrt_room2 ?zrt_room3 ?zrt_room4; (case zrt_room0 => with_reducible assumption); (case zrt_room1 => omega); (case zrt_room2 => omega); (case zrt_room3 => omega); (case zrt_room4 => omega))) | fail "p_room"
  k_with "p_le" => first | (first | (with_reducible refine mono_add ?zmono_add0 ?zmono_add1 ?zmono_add2 ?zmono_add3 ?zmono_add4 ?zmono_add5; (case zmono_add0 => with_reducible assumption); (case zmono_add1 => with_reducible assumption); (case zmono_add2 => with_reducible assumption); (case zmono_add3 => walk_at "p_ex"); (case zmono_add4 => omega); (case zmono_add5 => omega)) | (with_reducible refine mono_sub1 ?zmono_sub10 ?zmono_sub11 ?zmono_sub12 ?zmono_sub13 ?zmono_sub14 ?zmono_sub15; (case zmono_sub10 => with_reducible assumption); (case zmono_sub11 => with_reducible assumption); (case zmono_sub12 => with_reducible assumption); (case zmono_sub13 => walk_at "p_ex"); (case zmono_sub14 => omega); (case zmono_sub15 => omega)) | (with_reducible refine mono_sub2 ?zmono_sub20 ?zmono_sub21 ?zmono_sub22 ?zmono_sub23 ?zmono_sub24 ?zmono_sub25; (case zmono_sub20 => with_reducible assumption); (case zmono_sub21 => with_reducible assumption); (case zmono_sub22 => with_reducible assumption); (case zmono_sub23 => walk_at "p_ex"); (case zmono_sub24 => omega); (case zmono_sub25 => omega)) | (with_reducible refine mono_wh ?zmono_wh0 ?zmono_wh1 ?zmono_wh2 ?zmono_wh3 ?zmono_wh4; (case zmono_wh0 => with_reducible assumption); (case zmono_wh1 => with_reducible assumption); (case zmono_wh2 => walk_at "p_ex"); (case zmono_wh3 => omega); (case zmono_wh4 => omega)) | (with_reducible refine mono_rd ?zmono_rd0 ?zmono_rd1 ?zmono_rd2 ?zmono_rd3 ?zmono_rd4 ?zmono_rd5 ?zmono_rd6; (case zmono_rd0 => with_reducible assumption); (case zmono_rd1 => with_reducible assumption); (case zmono_rd2 => walk_at "p_ex"); (case zmono_rd3 => omega); (case zmono_rd4 => omega); (case zmono_rd5 => omega); (case zmono_rd6 => omega)) | (with_reducible refine mono_mul ?zmono_mul0 ?zmono_mul1 ?zmono_mul2 ?zmono_mul3 ?zmono_mul4 ?zmono_mul5 ?zmono_mul6; (case zmono_mul0 => with_reducible assumption); (case zmono_mul1 => with_reducible assumption); (case zmono_mul2 => with_reducible assumption); (case zmono_mul3 => walk_at "p_ex"); (case zmono_mul4 => omega); (case zmono_mul5 => omega); (case zmono_mul6 => omega)) | (with_reducible refine mono_div ?zmono_div0 ?zmono_div1 ?zmono_div2 ?zmono_div3 ?zmono_div4 ?zmono_div5 ?zmono_div6; (case zmono_div0 => with_reducible assumption); (case zmono_div1 => with_reducible assumption); (case zmono_div2 => with_reducible assumption); (case zmono_div3 => walk_at "p_ex"); (case zmono_div4 => omega); (case zmono_div5 => omega); (case zmono_div6 => omega)) | (with_reducible refine mono_rt ?zmono_rt0 ?zmono_rt1 ?zmono_rt2 ?zmono_rt3 ?zmono_rt4 ?zmono_rt5; (case zmono_rt0 => with_reducible assumption); (case zmono_rt1 => with_reducible assumption); (case zmono_rt2 => walk_at "p_ex"); (case zmono_rt3 => omega); (case zmono_rt4 => omega); (case zmono_rt5 => omega))) | fail "p_le"
  k_with "p_dec" => first | (first | exact dec_news (by assumption) (by k_mem) | exact dec_rep (by with_reducible assumption) (by assumption) (by assumption) (by k_mem)) | fail "p_dec"
  k_with "p_decl" => first | (first | exact decL_mem (by k_mem) | exact decL_rep (by with_reducible assumption) (by k_mem) | fail "p_decl") | fail "p_decl"
  k_with "k_mem" => first | (first | exact memL (by with_reducible assumption) | fail "k_mem") | fail "k_mem"
  k_with "p_ex" => first | (with_reducible assumption) | fail "p_ex"
  k_with "call ref" => first | ((k_here; k_dflt (refine' use_F (c_sub _ _ _ _ _ _ _ _) ?k1 ?k2 ?k3 ?k4 ?k5 ?kK ?kd ?ku ?kp ?_; (case k1 => k_asm); (case k2 => k_asm); (case k3 => k_asm); (case k4 => k_asm); (case k5 => k_asm); (case kK => first | exact rfl | assumption); (case kd => ktr_room); (case ku => ktr_units); (case kp => first | trivial | ((try dsimp only); exact ⟨(by walk_at "p_dec"), (by walk_at "p_sm"), (by walk_at "p_dec"), (by walk_at "p_sm"), by first | assumption | walk_at "p_room"⟩)); intro D9 t9 u9 h9 tk9 F9 N9 hne9; (try dsimp only); (try k_fold)))) | fail "call ref"
  have kMark9 := kstMark
  revert X
  k_fill
  intro X
  conv => arg 3; arg 1; whnf
  unfold lawEnv
  conv => arg 3; arg 2; arg 2; whnf
  conv => arg 2; arg 5; whnf
  have hq1 := h1.bd
  have hq2 := h2.bd
  have hq3 := low_high h1 h2 hl
  k_steps
  all_goals first
    | exact retQ_app ret (by assumption) (by assumption) (by k_ne) (by k_ne) (by k_ne) ho (by walk_at "p_decl") (by walk_at "p_decl")
    | fail "end"
end
section

theorem t_sub2 {w mean mg mb} (dp un : Nat) (gd : Option (List Code)) (a : Addr) (ccd : Value) (outer : List Env) (A₀ : Around) (base h₀ : Heap) (L : Addr) (rest : Str → Option Value) (s : Shared) (Q : Flow → Shared → Prop) (E : Value → Shared → Prop)
    (B : Below A₀ base outer h₀) (X : (hd.heap_39 w.params).In h₀) (T : Top hd.view_39 (looseW hd.view_39 [Str.ofString "BasicError"]) mean mg mb h₀) (hdp : dp + 20 < recursionLimit) (hun : un + 200 < cLine) (A Bd Cd Df : Addr) (pv : Value) (x1 e1 x2 e2 x3 e3 d p : Int) (t1 u1 t2 u2 t3 u3 tp td : Tok) (h1 : Dealt x1 e1) (h2 : Dealt x2 e2) (h3 : Dealt x3 e3) (hl : Ex2 x1 e1 x2 e2) (hd1 : 3 ≤ d) (hd2 : d ≤ 5) (hp1 : -2 ≤ p) (hp2 : p ≤ 2) (ps : List Value) (nf : Nat) (tl : List (Addr × Obj)) (hps : ps.length ≤ 100)
    (F : Fr h₀ L s.heap (fun y => if y = Str.ofString "found" then some (.ref Df) else if y = Str.ofString "high" then some (.ref Bd) else if y = Str.ofString "low" then some (.ref A) else if y = Str.ofString "places" then some (.int p tp) else if y = Str.ofString "third" then some (.ref Cd) else if y = Str.ofString "pair" then some (pv) else if y = Str.ofString "digits" then some (.int d td) else rest y)) (N : News h₀ L s.heap ((Df, listOf ps.toArray nf) :: tl)) (hA : (A, tup2 x1 t1 e1 u1) ∈ tl) (hB : (Bd, tup2 x2 t2 e2 u2) ∈ tl) (hC : (Cd, tup2 x3 t3 e3 u3) ∈ tl) (ho : OwnOff tl [Df])
    (ret : RetQ h₀ L Df (fun y => if y = Str.ofString "found" then some (.ref Df) else if y = Str.ofString "high" then some (.ref Bd) else if y = Str.ofString "low" then some (.ref A) else if y = Str.ofString "places" then some (.int p tp) else if y = Str.ofString "third" then some (.ref Cd) else if y = Str.ofString "pair" then some (pv) else if y = Str.ofString "digits" then some (.int d td) else rest y) ps tl s Q (mkX (adC x3 e3 (0 - x2) e2) d) (mkE (adC x3 e3 (0 - x2) e2) (mn e3 e2) d) (mkX (adC x3 e3 (0 - x1) e1) d) (mkE (adC x3 e3 (0 - x1) e1) (mn e3 e1) d)) :
    wpAny (model PySem.Challenge.rw_pq0162_01.row.prog w) (ktrTop dp un gd (Str.ofString "law") lawScope L a ccd [] outer) (exec (nthS loopBody 5) (lawEnv L a ccd)) Q E s := by
  k_with_none
  k_with "p_enter" => first | ((refine' enter_pure ?k1 ?k2 ?k3 ?k5 ?kA ?kF ?kK ?k6 ?k7 ?k8 ?k9 ?kB ?_ ?c2 ?c3 ?c4 ?c5; (case kA => exact rfl); (case kF => exact rfl); (case kK => assumption); (case k1 => k_asm); (case k2 => k_asm); (case k3 => k_asm); (case k5 => k_asm); (case k6 => k_is); (case k7 => k_is); (case k8 => ktr_room); (case k9 => exact BindsTo.of_eq rfl); (case c5 => decide); (case kB => exact locs rfl); (case c2 => exact rfl); (case c3 => exact rfl); (case c4 => exact rfl); k_whole; intro L' h' F' N' B' X' T'; (try dsimp only); (try k_fold))) | fail "p_enter"
  k_with "h_enter" => first | ((refine' enter_hand ?k1 ?k2 ?kN ?k3 ?k5 ?kA ?kF ?kK ?k6 ?k7 ?k8 ?k9 ?kB ?_ ?c2 ?c3 ?c4 ?c5; (case kA => exact rfl); (case kF => exact rfl); (case kK => assumption); (case k1 => k_asm); (case k2 => k_asm); (case kN => k_asm); (case k3 => k_asm); (case k5 => k_asm); (case k6 => k_is); (case k7 => k_is); (case k8 => ktr_room); (case k9 => exact BindsTo.of_eq rfl); (case c5 => decide); (case kB => exact locs rfl); (case c2 => exact rfl); (case c3 => exact rfl); (case c4 => exact rfl); k_whole)) | fail "h_enter"
  k_with "subscriptTail" => first | ((k_here; (with_reducible show wpAny _ _ (subscriptTail _ _ (Value.ref _) (Value.int _ _)) _ _ _); k_dflt (refine' item_tupleT ?t ?a ?b ?c ?d ?_; (case t => exact Fr.tup (by assumption) (by assumption)); (case a => decide); (case b => decide); (case c => rfl); (case d => rfl); k_whole))) | fail "subscriptTail"
  k_with "k_ne" => first | (first | exact ne_all (by with_reducible assumption) (by k_mem) | exact ne_all' (by with_reducible assumption) (by k_mem) | fail "k_ne") | fail "k_ne"
  k_with "p_sm" => first | (first | with_reducible assumption | exact Sm.neg (by with_reducible assumption) | exact sm_lit (by omega) (by omega) (by omega) (by omega)) | fail "p_sm"
  k_with "p_room" => first | (first | with_reducible assumption | exact (‹(_ : Int) < 0 → Room _ _ _›) (by with_reducible assumption) | exact rd_room1 (by with_reducible assumption) (by with_reducible assumption) (by with_reducible assumption) (by first | exact .inl rfl | exact .inr rfl) | exact rd_room2 (by with_reducible assumption) (by with_reducible assumption) (by with_reducible assumption) (by first | exact .inl rfl | exact .inr rfl)) | fail "p_room"
  k_with "p_half" => first | (first | with_reducible exact half_gt (by with_reducible assumption) | with_reducible exact half_tie (by with_reducible assumption) (by with_reducible assumption) | with_reducible exact half_lt (by with_reducible assumption) (by with_reducible assumption) | with_reducible exact half_even (by with_reducible assumption) (by with_reducible assumption)) | fail "p_half"
  k_with "p_rd" => first | (first | exact dec_eq (dec_base (by assumption) (by with_reducible assumption)) ⟨rd_sameX (.inl (by with_reducible assumption)), rd_sameE (.inl (by with_reducible assumption))⟩ | exact dec_eq (dec_base (by assumption) (by with_reducible assumption)) ⟨rd_sameX (.inr (by with_reducible assumption)), rd_sameE (.inr (by with_reducible assumption))⟩ | exact dec_eq (dec_news (by assumption) (by k_mem)) (rd_pos (by with_reducible assumption) (by with_reducible assumption) (by walk_at "p_half") (by with_reducible assumption) (by with_reducible assumption)) | exact dec_eq (dec_news (by assumption) (by k_mem)) (rd_neg (by with_reducible assumption) (by with_reducible assumption) (by walk_at "p_half") (by with_reducible assumption) (by with_reducible assumption)) | exact dec_eq ⟨_, _, tupK (Frag.In.keeps (by assumption) (Fr.keep (by assumption))) (by k_is)⟩ (rd_zero (by with_reducible assumption) (by with_reducible assumption) (by walk_at "p_half") (by with_reducible assumption))) | fail "p_rd"
  k_with "p_ne" => first | (first | exact pow10_ne _ | with_reducible assumption | exact root_ne (by with_reducible assumption) | omega) | fail "p_ne"
  k_with "p_py" => first | (first | decide +kernel | exact py_pow (by omega) | exact root_py (by with_reducible assumption) | exact py_of (k := 20) (by decide) (by omega) | exact py_of (k := 60) (by decide) (by omega)) | fail "p_py"
  k_with "binaryOp FloorDiv int int" => first | ((k_here; (with_reducible refine floordiv_int ?kbe ?_ (Or.inl (PyProof.noPylong_of_log2 ?kbp))); (case kbe => walk_at "p_ne"); (case kbp => walk_at "p_py"))) | fail "binaryOp FloorDiv int int"
  k_with "binaryOp Mod int int" => first | ((k_here; (with_reducible refine mod_int' ?kbe ?_); (case kbe => walk_at "p_ne"))) | fail "binaryOp Mod int int"
  k_with "binaryOp Mult int int" => first | ((k_here; first | (with_reducible refine mul_int ?_ (PySem.IntMulOk.of_left (PySem.intBits_le_64 ?kma ?kmb)); (case kma => omega); (case kmb => omega)) | (with_reducible refine mul_int ?_ (PySem.IntMulOk.of_right (PySem.intBits_le_64 ?kma ?kmb)); (case kma => omega); (case kmb => omega)))) | fail "binaryOp Mult int int"
  k_with "binaryOp Pow int int" => first | ((k_here; (with_reducible refine pow_int_small ?kb1 ?kb2 ?kb3 ?_); (case kb1 => omega); (case kb2 => omega); (case kb3 => decide))) | fail "binaryOp Pow int int"
  k_with "k_ne" => first | (first | exact not_at (by with_reducible assumption) (by k_mem) (fun hh9 => absurd (Value.type.inj hh9) (by decide)) | exact not_at' (by with_reducible assumption) (by k_mem) (fun hh9 => absurd (Value.type.inj hh9) (by decide)) | fail "k_ne") | fail "k_ne"
  k_with "p_sm" => first | (first | exact Dealt.sm (by with_reducible assumption) | (with_reducible refine mk_sm ?zmk_sm0 ?zmk_sm1; (case zmk_sm0 => walk_at "p_room"); (case zmk_sm1 => omega)) | (with_reducible refine wh_sm ?zwh_sm0 ?zwh_sm1 ?zwh_sm2; (case zwh_sm0 => with_reducible assumption); (case zwh_sm1 => omega); (case zwh_sm2 => omega)) | (with_reducible refine rd_sm ?zrd_sm0 ?zrd_sm1 ?zrd_sm2 ?zrd_sm3 ?zrd_sm4; (case zrd_sm0 => with_reducible assumption); (case zrd_sm1 => omega); (case zrd_sm2 => omega); (case zrd_sm3 => omega); (case zrd_sm4 => omega))) | fail "p_sm"
  k_with "p_ex" => first | (first | with_reducible exact ex_yes (by assumption) | with_reducible exact ex_no (by assumption)) | fail "p_ex"
  k_with "p_room" => first | (first | (with_reducible refine room_add ?zroom_add0 ?zroom_add1 ?zroom_add2; (case zroom_add0 => with_reducible assumption); (case zroom_add1 => with_reducible assumption); (case zroom_add2 => omega)) | (with_reducible refine room_add ?zroom_add0 ?zroom_add1 ?zroom_add2; (case zroom_add0 => with_reducible assumption); (case zroom_add1 => exact Dealt.neg (by with_reducible assumption)); (case zroom_add2 => omega)) | (with_reducible refine room_mul ?zroom_mul0 ?zroom_mul1 ?zroom_mul2; (case zroom_mul0 => with_reducible assumption); (case zroom_mul1 => with_reducible assumption); (case zroom_mul2 => omega)) | (with_reducible refine room_div1 ?zroom_div10 ?zroom_div11 ?zroom_div12 ?zroom_div13 ?zroom_div14; (case zroom_div10 => with_reducible assumption); (case zroom_div11 => with_reducible assumption); (case zroom_div12 => omega); (case zroom_div13 => omega); (case zroom_div14 => omega)) | (with_reducible refine room_div2 ?zroom_div20 ?zroom_div21 ?zroom_div22 ?zroom_div23 ?zroom_div24; (case zroom_div20 => with_reducible assumption); (case zroom_div21 => with_reducible assumption); (case zroom_div22 => omega); (case zroom_div23 => omega); (case zroom_div24 => omega)) | (with_reducible refine room_dvC ?zroom_dvC0 ?zroom_dvC1 ?zroom_dvC2 ?zroom_dvC3 ?zroom_dvC4; (case zroom_dvC0 => with_reducible assumption); (case zroom_dvC1 => with_reducible assumption); (case zroom_dvC2 => omega); (case zroom_dvC3 => omega); (case zroom_dvC4 => omega)) | (with_reducible refine rt_roomP ?zrt_roomP0 ?zrt_roomP1 ?zrt_roomP2 ?zrt_roomP3; (case zrt_roomP0 => with_reducible assumption); (case zrt_roomP1 => omega); (case zrt_roomP2 => omega); (case zrt_roomP3 => omega)) | (with_reducible refine rt_room ?zrt_room0 ?zrt_room1 ?zrt_room2 ?zrt_room3 ?zrt_room4; (case zrt_room0 => with_reducible assumption); (case zrt_room1 => omega); (case zrt_room2 => omega); (case zrt_room3 => omega); (case zrt_room4 => omega))) | fail "p_room"
  k_with "p_le" => first | (first | (with_reducible refine mono_add ?zmono_add0 ?zmono_add1 ?zmono_add2 ?zmono_add3 ?zmono_add4 ?zmono_add5; (case zmono_add0 => with_reducible assumption); (case zmono_add1 => with_reducible assumption); (case zmono_add2 => with_reducible assumption); (case zmono_add3 => walk_at "p_ex"); (case zmono_add4 => omega); (case zmono_add5 => omega)) | (with_reducible refine mono_sub1 ?zmono_sub10 ?zmono_sub11 ?zmono_sub12 ?zmono_sub13 ?zmono_sub14 ?zmono_sub15; (case zmono_sub10 => with_reducible assumption); (case zmono_sub11 => with_reducible assumption); (case zmono_sub12 => with_reducible assumption); (case zmono_sub13 => walk_at "p_ex"); (case zmono_sub14 => omega); (case zmono_sub15 => omega)) | (with_reducible refine mono_sub2 ?zmono_sub20 ?zmono_sub21 ?zmono_sub22 ?zmono_sub23 ?zmono_sub24 ?zmono_sub25; (case zmono_sub20 => with_reducible assumption); (case zmono_sub21 => with_reducible assumption); (case zmono_sub22 => with_reducible assumption); (case zmono_sub23 => walk_at "p_ex"); (case zmono_sub24 => omega); (case zmono_sub25 => omega)) | (with_reducible refine mono_wh ?zmono_wh0 ?zmono_wh1 ?zmono_wh2 ?zmono_wh3 ?zmono_wh4; (case zmono_wh0 => with_reducible assumption); (case zmono_wh1 => with_reducible assumption); (case zmono_wh2 => walk_at "p_ex"); (case zmono_wh3 => omega); (case zmono_wh4 => omega)) | (with_reducible refine mono_rd ?zmono_rd0 ?zmono_rd1 ?zmono_rd2 ?zmono_rd3 ?zmono_rd4 ?zmono_rd5 ?zmono_rd6; (case zmono_rd0 => with_reducible assumption); (case zmono_rd1 => with_reducible assumption); (case zmono_rd2 => walk_at "p_ex"); (case zmono_rd3 => omega); (case zmono_rd4 => omega); (case zmono_rd5 => omega); (case zmono_rd6 => omega)) | (with_reducible refine mono_mul ?zmono_mul0 ?zmono_mul1 ?zmono_mul2 ?zmono_mul3 ?zmono_mul4 ?zmono_mul5 ?zmono_mul6; (case zmono_mul0 => with_reducible assumption); (case zmono_mul1 => with_reducible assumption); (case zmono_mul2 => with_reducible assumption); (case zmono_mul3 => walk_at "p_ex"); (case zmono_mul4 => omega); (case zmono_mul5 => omega); (case zmono_mul6 => omega)) | (with_reducible refine mono_div ?zmono_div0 ?zmono_div1 ?zmono_div2 ?zmono_div3 ?zmono_div4 ?zmono_div5 ?zmono_div6; (case zmono_div0 => with_reducible assumption); (case zmono_div1 => with_reducible assumption); (case zmono_div2 => with_reducible assumption); (case zmono_div3 => walk_at "p_ex"); (case zmono_div4 => omega); (case zmono_div5 => omega); (case zmono_div6 => omega)) | (with_reducible refine mono_rt ?zmono_rt0 ?zmono_rt1 ?zmono_rt2 ?zmono_rt3 ?zmono_rt4 ?zmono_rt5; (case zmono_rt0 => with_reducible assumption); (case zmono_rt1 => with_reducible assumption); (case zmono_rt2 => walk_at "p_ex"); (case zmono_rt3 => omega); (case zmono_rt4 => omega); (case zmono_rt5 => omega))) | fail "p_le"
  k_with "p_dec" => first | (first | exact dec_news (by assumption) (by k_mem) | exact dec_rep (by with_reducible assumption) (by assumption) (by assumption) (by k_mem)) | fail "p_dec"
  k_with "p_decl" => first | (first | exact decL_mem (by k_mem) | exact decL_rep (by with_reducible assumption) (by k_mem) | fail "p_decl") | fail "p_decl"
  k_with "k_mem" => first | (first | exact memL (by with_reducible assumption) | fail "k_mem") | fail "k_mem"
  k_with "p_ex" => first | (with_reducible assumption) | fail "p_ex"
  k_with "call ref" => first | ((k_here; k_dflt (refine' use_F (c_sub _ _ _ _ _ _ _ _) ?k1 ?k2 ?k3 ?k4 ?k5 ?kK ?kd ?ku ?kp ?_; (case k1 => k_asm); (case k2 => k_asm); (case k3 => k_asm); (case k4 => k_asm); (case k5 => k_asm); (case kK => first | exact rfl | assumption); (case kd => ktr_room); (case ku => ktr_units); (case kp => first | trivial | ((try dsimp only); exact ⟨(by walk_at "p_dec"), (by walk_at "p_sm"), (by walk_at "p_dec"), (by walk_at "p_sm"), by first | assumption | walk_at "p_room"⟩)); intro D9 t9 u9 h9 tk9 F9 N9 hne9; (try dsimp only); (try k_fold)))) | fail "call ref"
  have kMark9 := kstMark
  revert X
  k_fill
  intro X
  conv => arg 3; arg 1; whnf
  unfold lawEnv
  conv => arg 3; arg 2; arg 2; whnf
  conv => arg 2; arg 5; whnf
  have hq1 := h1.bd
  have hq2 := h2.bd
  have hq3 := low_high h1 h2 hl
  k_steps
  all_goals first
    | exact retQ_app ret (by assumption) (by assumption) (by k_ne) (by k_ne) (by k_ne) ho (by walk_at "p_decl") (by walk_at "p_decl")
    | fail "end"
end
section

theorem t_wh {w mean mg mb} (dp un : Nat) (gd : Option (List Code)) (a : Addr) (ccd : Value) (outer : List Env) (A₀ : Around) (base h₀ : Heap) (L : Addr) (rest : Str → Option Value) (s : Shared) (Q : Flow → Shared → Prop) (E : Value → Shared → Prop)
    (B : Below A₀ base outer h₀) (X : (hd.heap_39 w.params).In h₀) (T : Top hd.view_39 (looseW hd.view_39 [Str.ofString "BasicError"]) mean mg mb h₀) (hdp : dp + 20 < recursionLimit) (hun : un + 200 < cLine) (A Bd Cd Df : Addr) (pv : Value) (x1 e1 x2 e2 x3 e3 d p : Int) (t1 u1 t2 u2 t3 u3 tp td : Tok) (h1 : Dealt x1 e1) (h2 : Dealt x2 e2) (h3 : Dealt x3 e3) (hl : Ex2 x1 e1 x2 e2) (hd1 : 3 ≤ d) (hd2 : d ≤ 5) (hp1 : -2 ≤ p) (hp2 : p ≤ 2) (ps : List Value) (nf : Nat) (tl : List (Addr × Obj)) (hps : ps.length ≤ 100)
    (F : Fr h₀ L s.heap (fun y => if y = Str.ofString "found" then some (.ref Df) else if y = Str.ofString "high" then some (.ref Bd) else if y = Str.ofString "low" then some (.ref A) else if y = Str.ofString "places" then some (.int p tp) else if y = Str.ofString "third" then some (.ref Cd) else if y = Str.ofString "pair" then some (pv) else if y = Str.ofString "digits" then some (.int d td) else rest y)) (N : News h₀ L s.heap ((Df, listOf ps.toArray nf) :: tl)) (hA : (A, tup2 x1 t1 e1 u1) ∈ tl) (hB : (Bd, tup2 x2 t2 e2 u2) ∈ tl) (hC : (Cd, tup2 x3 t3 e3 u3) ∈ tl) (ho : OwnOff tl [Df])
    (ret : RetQ h₀ L Df (fun y => if y = Str.ofString "found" then some (.ref Df) else if y = Str.ofString "high" then some (.ref Bd) else if y = Str.ofString "low" then some (.ref A) else if y = Str.ofString "places" then some (.int p tp) else if y = Str.ofString "third" then some (.ref Cd) else if y = Str.ofString "pair" then some (pv) else if y = Str.ofString "digits" then some (.int d td) else rest y) ps tl s Q (whX x1 e1 d) (whE x1 e1 d) (whX x2 e2 d) (whE x2 e2 d)) :
    wpAny (model PySem.Challenge.rw_pq0162_01.row.prog w) (ktrTop dp un gd (Str.ofString "law") lawScope L a ccd [] outer) (exec (nthS loopBody 6) (lawEnv L a ccd)) Q E s := by
  k_with_none
  k_with "p_enter" => first | ((refine' enter_pure ?k1 ?k2 ?k3 ?k5 ?kA ?kF ?kK ?k6 ?k7 ?k8 ?k9 ?kB ?_ ?c2 ?c3 ?c4 ?c5; (case kA => exact rfl); (case kF => exact rfl); (case kK => assumption); (case k1 => k_asm); (case k2 => k_asm); (case k3 => k_asm); (case k5 => k_asm); (case k6 => k_is); (case k7 => k_is); (case k8 => ktr_room); (case k9 => exact BindsTo.of_eq rfl); (case c5 => decide); (case kB => exact locs rfl); (case c2 => exact rfl); (case c3 => exact rfl); (case c4 => exact rfl); k_whole; intro L' h' F' N' B' X' T'; (try dsimp only); (try k_fold))) | fail "p_enter"
  k_with "h_enter" => first | ((refine' enter_hand ?k1 ?k2 ?kN ?k3 ?k5 ?kA ?kF ?kK ?k6 ?k7 ?k8 ?k9 ?kB ?_ ?c2 ?c3 ?c4 ?c5; (case kA => exact rfl); (case kF => exact rfl); (case kK => assumption); (case k1 => k_asm); (case k2 => k_asm); (case kN => k_asm); (case k3 => k_asm); (case k5 => k_asm); (case k6 => k_is); (case k7 => k_is); (case k8 => ktr_room); (case k9 => exact BindsTo.of_eq rfl); (case c5 => decide); (case kB => exact locs rfl); (case c2 => exact rfl); (case c3 => exact rfl); (case c4 => exact rfl); k_whole)) | fail "h_enter"
  k_with "subscriptTail" => first | ((k_here; (with_reducible show wpAny _ _ (subscriptTail _ _ (Value.ref _) (Value.int _ _)) _ _ _); k_dflt (refine' item_tupleT ?t ?a ?b ?c ?d ?_; (case t => exact Fr.tup (by assumption) (by assumption)); (case a => decide); (case b => decide); (case c => rfl); (case d => rfl); k_whole))) | fail "subscriptTail"
  k_with "k_ne" => first | (first | exact ne_all (by with_reducible assumption) (by k_mem) | exact ne_all' (by with_reducible assumption) (by k_mem) | fail "k_ne") | fail "k_ne"
  k_with "p_sm" => first | (first | with_reducible assumption | exact Sm.neg (by with_reducible assumption) | exact sm_lit (by omega) (by omega) (by omega) (by omega)) | fail "p_sm"
  k_with "p_room" => first | (first | with_reducible assumption | exact (‹(_ : Int) < 0 → Room _ _ _›) (by with_reducible assumption) | exact rd_room1 (by with_reducible assumption) (by with_reducible assumption) (by with_reducible assumption) (by first | exact .inl rfl | exact .inr rfl) | exact rd_room2 (by with_reducible assumption) (by with_reducible assumption) (by with_reducible assumption) (by first | exact .inl rfl | exact .inr rfl)) | fail "p_room"
  k_with "p_half" => first | (first | with_reducible exact half_gt (by with_reducible assumption) | with_reducible exact half_tie (by with_reducible assumption) (by with_reducible assumption) | with_reducible exact half_lt (by with_reducible assumption) (by with_reducible assumption) | with_reducible exact half_even (by with_reducible assumption) (by with_reducible assumption)) | fail "p_half"
  k_with "p_rd" => first | (first | exact dec_eq (dec_base (by assumption) (by with_reducible assumption)) ⟨rd_sameX (.inl (by with_reducible assumption)), rd_sameE (.inl (by with_reducible assumption))⟩ | exact dec_eq (dec_base (by assumption) (by with_reducible assumption)) ⟨rd_sameX (.inr (by with_reducible assumption)), rd_sameE (.inr (by with_reducible assumption))⟩ | exact dec_eq (dec_news (by assumption) (by k_mem)) (rd_pos (by with_reducible assumption) (by with_reducible assumption) (by walk_at "p_half") (by with_reducible assumption) (by with_reducible assumption)) | exact dec_eq (dec_news (by assumption) (by k_mem)) (rd_neg (by with_reducible assumption) (by with_reducible assumption) (by walk_at "p_half") (by with_reducible assumption) (by with_reducible assumption)) | exact dec_eq ⟨_, _, tupK (Frag.In.keeps (by assumption) (Fr.keep (by assumption))) (by k_is)⟩ (rd_zero (by with_reducible assumption) (by with_reducible assumption) (by walk_at "p_half") (by with_reducible assumption))) | fail "p_rd"
  k_with "p_ne" => first | (first | exact pow10_ne _ | with_reducible assumption | exact root_ne (by with_reducible assumption) | omega) | fail "p_ne"
  k_with "p_py" => first | (first | decide +kernel | exact py_pow (by omega) | exact root_py (by with_reducible assumption) | exact py_of (k := 20) (by decide) (by omega) | exact py_of (k := 60) (by decide) (by omega)) | fail "p_py"
  k_with "binaryOp FloorDiv int int" => first | ((k_here; (with_reducible refine floordiv_int ?kbe ?_ (Or.inl (PyProof.noPylong_of_log2 ?kbp))); (case kbe => walk_at "p_ne"); (case kbp => walk_at "p_py"))) | fail "binaryOp FloorDiv int int"
  k_with "binaryOp Mod int int" => first | ((k_here; (with_reducible refine mod_int' ?kbe ?_); (case kbe => walk_at "p_ne"))) | fail "binaryOp Mod int int"
  k_with "binaryOp Mult int int" => first | ((k_here; first | (with_reducible refine mul_int ?_ (PySem.IntMulOk.of_left (PySem.intBits_le_64 ?kma ?kmb)); (case kma => omega); (case kmb => omega)) | (with_reducible refine mul_int ?_ (PySem.IntMulOk.of_right (PySem.intBits_le_64 ?kma ?kmb)); (case kma => omega); (case kmb => omega)))) | fail "binaryOp Mult int int"
  k_with "binaryOp Pow int int" => first | ((k_here; (with_reducible refine pow_int_small ?kb1 ?kb2 ?kb3 ?_); (case kb1 => omega); (case kb2 => omega); (case kb3 => decide))) | fail "binaryOp Pow int int"
  k_with "k_ne" => first | (first | exact not_at (by with_reducible assumption) (by k_mem) (fun hh9 => absurd (Value.type.inj hh9) (by decide)) | exact not_at' (by with_reducible assumption) (by k_mem) (fun hh9 => absurd (Value.type.inj hh9) (by decide)) | fail "k_ne") | fail "k_ne"
  k_with "p_sm" => first | (first | exact Dealt.sm (by with_reducible assumption) | (with_reducible refine mk_sm ?zmk_sm0 ?zmk_sm1; (case zmk_sm0 => walk_at "p_room"); (case zmk_sm1 => omega)) | (with_reducible refine wh_sm ?zwh_sm0 ?zwh_sm1 ?zwh_sm2; (case zwh_sm0 => with_reducible assumption); (case zwh_sm1 => omega); (case zwh_sm2 => omega)) | (with_reducible refine rd_sm ?zrd_sm0 ?zrd_sm1 ?zrd_sm2 ?zrd_sm3 ?zrd_sm4; (case zrd_sm0 => with_reducible assumption); (case zrd_sm1 => omega); (case zrd_sm2 => omega); (case zrd_sm3 => omega); (case zrd_sm4 => omega))) | fail "p_sm"
  k_with "p_ex" => first | (first | with_reducible exact ex_yes (by assumption) | with_reducible exact ex_no (by assumption)) | fail "p_ex"
  k_with "p_room" => first | (first | (with_reducible refine room_add ?zroom_add0 ?zroom_add1 ?zroom_add2; (case zroom_add0 => with_reducible assumption); (case zroom_add1 => with_reducible assumption); (case zroom_add2 => omega)) | (with_reducible refine room_add ?zroom_add0 ?zroom_add1 ?zroom_add2; (case zroom_add0 => with_reducible assumption); (case zroom_add1 => exact Dealt.neg (by with_reducible assumption)); (case zroom_add2 => omega)) | (with_reducible refine room_mul ?zroom_mul0 ?zroom_mul1 ?zroom_mul2; (case zroom_mul0 => with_reducible assumption); (case zroom_mul1 => with_reducible assumption); (case zroom_mul2 => omega)) | (with_reducible refine room_div1 ?zroom_div10 ?zroom_div11 ?zroom_div12 ?zroom_div13 ?zroom_div14; (case zroom_div10 => with_reducible assumption); (case zroom_div11 => with_reducible assumption); (case zroom_div12 => omega); (case zroom_div13 => omega); (case zroom_div14 => omega)) | (with_reducible refine room_div2 ?zroom_div20 ?zroom_div21 ?zroom_div22 ?zroom_div23 ?zroom_div24; (case zroom_div20 => with_reducible assumption); (case zroom_div21 => with_reducible assumption); (case zroom_div22 => omega); (case zroom_div23 => omega); (case zroom_div24 => omega)) | (with_reducible refine room_dvC ?zroom_dvC0 ?zroom_dvC1 ?zroom_dvC2 ?zroom_dvC3 ?zroom_dvC4; (case zroom_dvC0 => with_reducible assumption); (case zroom_dvC1 => with_reducible assumption); (case zroom_dvC2 => omega); (case zroom_dvC3 => omega); (case zroom_dvC4 => omega)) | (with_reducible refine rt_roomP ?zrt_roomP0 ?zrt_roomP1 ?zrt_roomP2 ?zrt_roomP3; (case zrt_roomP0 => with_reducible assumption); (case zrt_roomP1 => omega); (case zrt_roomP2 => omega); (case zrt_roomP3 => omega)) | (with_reducible refine rt_room ?zrt_room0 ?zrt_room1 ?zrt_room2 ?zrt_room3 ?zrt_room4; (case zrt_room0 => with_reducible assumption); (case zrt_room1 => omega); (case zrt_room2 => omega); (case zrt_room3 => omega); (case zrt_room4 => omega))) | fail "p_room"
  k_with "p_le" => first | (first | (with_reducible refine mono_add ?zmono_add0 ?zmono_add1 ?zmono_add2 ?zmono_add3 ?zmono_add4 ?zmono_add5; (case zmono_add0 => with_reducible assumption); (case zmono_add1 => with_reducible assumption); (case zmono_add2 => with_reducible assumption); (case zmono_add3 => walk_at "p_ex"); (case zmono_add4 => omega); (case zmono_add5 => omega)) | (with_reducible refine mono_sub1 ?zmono_sub10 ?zmono_sub11 ?zmono_sub12 ?zmono_sub13 ?zmono_sub14 ?zmono_sub15; (case zmono_sub10 => with_reducible assumption); (case zmono_sub11 => with_reducible assumption); (case zmono_sub12 => with_reducible assumption); (case zmono_sub13 => walk_at "p_ex"); (case zmono_sub14 => omega); (case zmono_sub15 => omega)) | (with_reducible refine mono_sub2 ?zmono_sub20 ?zmono_sub21 ?zmono_sub22 ?zmono_sub23 ?zmono_sub24 ?zmono_sub25; (case zmono_sub20 => with_reducible assumption); (case zmono_sub21 => with_reducible assumption); (case zmono_sub22 => with_reducible assumption); (case zmono_sub23 => walk_at "p_ex"); (case zmono_sub24 => omega); (case zmono_sub25 => omega)) | (with_reducible refine mono_wh ?zmono_wh0 ?zmono_wh1 ?zmono_wh2 ?zmono_wh3 ?zmono_wh4; (case zmono_wh0 => with_reducible assumption); (case zmono_wh1 => with_reducible assumption); (case zmono_wh2 => walk_at "p_ex"); (case zmono_wh3 => omega); (case zmono_wh4 => omega)) | (with_reducible refine mono_rd ?zmono_rd0 ?zmono_rd1 ?zmono_rd2 ?zmono_rd3 ?zmono_rd4 ?zmono_rd5 ?zmono_rd6; (case zmono_rd0 => with_reducible assumption); (case zmono_rd1 => with_reducible assumption); (case zmono_rd2 => walk_at "p_ex"); (case zmono_rd3 => omega); (case zmono_rd4 => omega); (case zmono_rd5 => omega); (case zmono_rd6 => omega)) | (with_reducible refine mono_mul ?zmono_mul0 ?zmono_mul1 ?zmono_mul2 ?zmono_mul3 ?zmono_mul4 ?zmono_mul5 ?zmono_mul6; (case zmono_mul0 => with_reducible assumption); (case zmono_mul1 => with_reducible assumption); (case zmono_mul2 => with_reducible assumption); (case zmono_mul3 => walk_at "p_ex"); (case zmono_mul4 => omega); (case zmono_mul5 => omega); (case zmono_mul6 => omega)) | (with_reducible refine mono_div ?zmono_div0 ?zmono_div1 ?zmono_div2 ?zmono_div3 ?zmono_div4 ?zmono_div5 ?zmono_div6; (case zmono_div0 => with_reducible assumption); (case zmono_div1 => with_reducible assumption); (case zmono_div2 => with_reducible assumption); (case zmono_div3 => walk_at "p_ex"); (case zmono_div4 => omega); (case zmono_div5 => omega); (case zmono_div6 => omega)) | (with_reducible refine mono_rt ?zmono_rt0 ?zmono_rt1 ?zmono_rt2 ?zmono_rt3 ?zmono_rt4 ?zmono_rt5; (case zmono_rt0 => with_reducible assumption); (case zmono_rt1 => with_reducible assumption); (case zmono_rt2 => walk_at "p_ex"); (case zmono_rt3 => omega); (case zmono_rt4 => omega); (case zmono_rt5 => omega))) | fail "p_le"
  k_with "p_dec" => first | (first | exact dec_news (by assumption) (by k_mem) | exact dec_rep (by with_reducible assumption) (by assumption) (by assumption) (by k_mem)) | fail "p_dec"
  k_with "p_decl" => first | (first | exact decL_mem (by k_mem) | exact decL_rep (by with_reducible assumption) (by k_mem) | fail "p_decl") | fail "p_decl"
  k_with "k_mem" => first | (first | exact memL (by with_reducible assumption) | fail "k_mem") | fail "k_mem"
  k_with "p_ex" => first | (with_reducible assumption) | fail "p_ex"
  k_with "call ref" => first | ((k_here; k_dflt (refine' use_A (c_whole _ _ _ _ _) ?k1 ?k2 ?k3 ?k4 ?k5 ?kK ?kd ?ku ?kp ?kq ?_; (case k1 => k_asm); (case k2 => k_asm); (case k3 => k_asm); (case k4 => k_asm); (case k5 => k_asm); (case kK => first | exact rfl | assumption); (case kd => ktr_room); (case ku => ktr_units); (case kp => exact ⟨(by walk_at "p_dec"), (by walk_at "p_sm"), by first | exact wh_pre (wh_again (by with_reducible assumption)) | exact room_wh (by with_reducible assumption) (by omega)⟩); (case kq => k_mem); intro D9 q9 o9 h9 tk9 hr9 F9 N9 hn9; (try dsimp only); (try k_fold)))) | fail "call ref"
  k_with "call ref" => first | ((k_here; k_dflt (refine' use_A (c_round _ _ _ _ _ _ _) ?k1 ?k2 ?k3 ?k4 ?k5 ?kK ?kd ?ku ?kp ?kq ?_; (case k1 => k_asm); (case k2 => k_asm); (case k3 => k_asm); (case k4 => k_asm); (case k5 => k_asm); (case kK => first | exact rfl | assumption); (case kd => ktr_room); (case ku => ktr_units); (case kp => exact ⟨(by walk_at "p_dec"), (by walk_at "p_sm"), by first | exact rd_pre (rd_again (by with_reducible assumption)) | exact room_rd (by with_reducible assumption) (by omega) (by omega) (by omega)⟩); (case kq => k_mem); intro D9 q9 o9 h9 tk9 hr9 F9 N9 hn9; (try dsimp only); (try k_fold)))) | fail "call ref"
  have kMark9 := kstMark
  revert X
  k_fill
  intro X
  conv => arg 3; arg 1; whnf
  unfold lawEnv
  conv => arg 3; arg 2; arg 2; whnf
  conv => arg 2; arg 5; whnf
  have hq1 := h1.bd
  have hq2 := h2.bd
  have hq3 := low_high h1 h2 hl
  k_steps
  all_goals first
    | exact retQ_app ret (by assumption) (by assumption) (by k_ne) (by k_ne) (by k_ne) ho (by walk_at "p_decl") (by walk_at "p_decl")
    | fail "end"
end
section

theorem t_rd {w mean mg mb} (dp un : Nat) (gd : Option (List Code)) (a : Addr) (ccd : Value) (outer : List Env) (A₀ : Around) (base h₀ : Heap) (L : Addr) (rest : Str → Option Value) (s : Shared) (Q : Flow → Shared → Prop) (E : Value → Shared → Prop)
    (B : Below A₀ base outer h₀) (X : (hd.heap_39 w.params).In h₀) (T : Top hd.view_39 (looseW hd.view_39 [Str.ofString "BasicError"]) mean mg mb h₀) (hdp : dp + 20 < recursionLimit) (hun : un + 200 < cLine) (A Bd Cd Df : Addr) (pv : Value) (x1 e1 x2 e2 x3 e3 d p : Int) (t1 u1 t2 u2 t3 u3 tp td : Tok) (h1 : Dealt x1 e1) (h2 : Dealt x2 e2) (h3 : Dealt x3 e3) (hl : Ex2 x1 e1 x2 e2) (hd1 : 3 ≤ d) (hd2 : d ≤ 5) (hp1 : -2 ≤ p) (hp2 : p ≤ 2) (ps : List Value) (nf : Nat) (tl : List (Addr × Obj)) (hps : ps.length ≤ 100)
    (F : Fr h₀ L s.heap (fun y => if y = Str.ofString "found" then some (.ref Df) else if y = Str.ofString "high" then some (.ref Bd) else if y = Str.ofString "low" then some (.ref A) else if y = Str.ofString "places" then some (.int p tp) else if y = Str.ofString "third" then some (.ref Cd) else if y = Str.ofString "pair" then some (pv) else if y = Str.ofString "digits" then some (.int d td) else rest y)) (N : News h₀ L s.heap ((Df, listOf ps.toArray nf) :: tl)) (hA : (A, tup2 x1 t1 e1 u1) ∈ tl) (hB : (Bd, tup2 x2 t2 e2 u2) ∈ tl) (hC : (Cd, tup2 x3 t3 e3 u3) ∈ tl) (ho : OwnOff tl [Df])
    (ret : RetQ h₀ L Df (fun y => if y = Str.ofString "found" then some (.ref Df) else if y = Str.ofString "high" then some (.ref Bd) else if y = Str.ofString "low" then some (.ref A) else if y = Str.ofString "places" then some (.int p tp) else if y = Str.ofString "third" then some (.ref Cd) else if y = Str.ofString "pair" then some (pv) else if y = Str.ofString "digits" then some (.int d td) else rest y) ps tl s Q (rdX x1 e1 p d) (rdE x1 e1 p d) (rdX x2 e2 p d) (rdE x2 e2 p d)) :
    wpAny (model PySem.Challenge.rw_pq0162_01.row.prog w) (ktrTop dp un gd (Str.ofString "law") lawScope L a ccd [] outer) (exec (nthS loopBody 7) (lawEnv L a ccd)) Q E s := by
  k_with_none
  k_with "p_enter" => first | ((refine' enter_pure ?k1 ?k2 ?k3 ?k5 ?kA ?kF ?kK ?k6 ?k7 ?k8 ?k9 ?kB ?_ ?c2 ?c3 ?c4 ?c5; (case kA => exact rfl); (case kF => exact rfl); (case kK => assumption); (case k1 => k_asm); (case k2 => k_asm); (case k3 => k_asm); (case k5 => k_asm); (case k6 => k_is); (case k7 => k_is); (case k8 => ktr_room); (case k9 => exact BindsTo.of_eq rfl); (case c5 => decide); (case kB => exact locs rfl); (case c2 => exact rfl); (case c3 => exact rfl); (case c4 => exact rfl); k_whole; intro L' h' F' N' B' X' T'; (try dsimp only); (try k_fold))) | fail "p_enter"
  k_with "h_enter" => first | ((refine' enter_hand ?k1 ?k2 ?kN ?k3 ?k5 ?kA ?kF ?kK ?k6 ?k7 ?k8 ?k9 ?kB ?_ ?c2 ?c3 ?c4 ?c5; (case kA => exact rfl); (case kF => exact rfl); (case kK => assumption); (case k1 => k_asm); (case k2 => k_asm); (case kN => k_asm); (case k3 => k_asm); (case k5 => k_asm); (case k6 => k_is); (case k7 => k_is); (case k8 => ktr_room); (case k9 => exact BindsTo.of_eq rfl); (case c5 => decide); (case kB => exact locs rfl); (case c2 => exact rfl); (case c3 => exact rfl); (case c4 => exact rfl); k_whole)) | fail "h_enter"
  k_with "subscriptTail" => first | ((k_here; (with_reducible show wpAny _ _ (subscriptTail _ _ (Value.ref _) (Value.int _ _)) _ _ _); k_dflt (refine' item_tupleT ?t ?a ?b ?c ?d ?_; (case t => exact Fr.tup (by assumption) (by assumption)); (case a => decide); (case b => decide); (case c => rfl); (case d => rfl); k_whole))) | fail "subscriptTail"
  k_with "k_ne" => first | (first | exact ne_all (by with_reducible assumption) (by k_mem) | exact ne_all' (by with_reducible assumption) (by k_mem) | fail "k_ne") | fail "k_ne"
  k_with "p_sm" => first | (first | with_reducible assumption | exact Sm.neg (by with_reducible assumption) | exact sm_lit (by omega) (by omega) (by omega) (by omega)) | fail "p_sm"
  k_with "p_room" => first | (first | with_reducible assumption | exact (‹(_ : Int) < 0 → Room _ _ _›) (by with_reducible assumption) | exact rd_room1 (by with_reducible assumption) (by with_reducible assumption) (by with_reducible assumption) (by first | exact .inl rfl | exact .inr rfl) | exact rd_room2 (by with_reducible assumption) (by with_reducible assumption) (by with_reducible assumption) (by first | exact .inl rfl | exact .inr rfl)) | fail "p_room"
  k_with "p_half" => first | (first | with_reducible exact half_gt (by with_reducible assumption) | with_reducible exact half_tie (by with_reducible assumption) (by with_reducible assumption) | with_reducible exact half_lt (by with_reducible assumption) (by with_reducible assumption) | with_reducible exact half_even (by with_reducible assumption) (by with_reducible assumption)) | fail "p_half"
  k_with "p_rd" => first | (first | exact dec_eq (dec_base (by assumption) (by with_reducible assumption)) ⟨rd_sameX (.inl (by with_reducible assumption)), rd_sameE (.inl (by with_reducible assumption))⟩ | exact dec_eq (dec_base (by assumption) (by with_reducible assumption)) ⟨rd_sameX (.inr (by with_reducible assumption)), rd_sameE (.inr (by with_reducible assumption))⟩ | exact dec_eq (dec_news (by assumption) (by k_mem)) (rd_pos (by with_reducible assumption) (by with_reducible assumption) (by walk_at "p_half") (by with_reducible assumption) (by with_reducible assumption)) | exact dec_eq (dec_news (by assumption) (by k_mem)) (rd_neg (by with_reducible assumption) (by with_reducible assumption) (by walk_at "p_half") (by with_reducible assumption) (by with_reducible assumption)) | exact dec_eq ⟨_, _, tupK (Frag.In.keeps (by assumption) (Fr.keep (by assumption))) (by k_is)⟩ (rd_zero (by with_reducible assumption) (by with_reducible assumption) (by walk_at "p_half") (by with_reducible assumption))) | fail "p_rd"
  k_with "p_ne" => first | (first | exact pow10_ne _ | with_reducible assumption | exact root_ne (by with_reducible assumption) | omega) | fail "p_ne"
  k_with "p_py" => first | (first | decide +kernel | exact py_pow (by omega) | exact root_py (by with_reducible assumption) | exact py_of (k := 20) (by decide) (by omega) | exact py_of (k := 60) (by decide) (by omega)) | fail "p_py"
  k_with "binaryOp FloorDiv int int" => first | ((k_here; (with_reducible refine floordiv_int ?kbe ?_ (Or.inl (PyProof.noPylong_of_log2 ?kbp))); (case kbe => walk_at "p_ne"); (case kbp => walk_at "p_py"))) | fail "binaryOp FloorDiv int int"
  k_with "binaryOp Mod int int" => first | ((k_here; (with_reducible refine mod_int' ?kbe ?_); (case kbe => walk_at "p_ne"))) | fail "binaryOp Mod int int"
  k_with "binaryOp Mult int int" => first | ((k_here; first | (with_reducible refine mul_int ?_ (PySem.IntMulOk.of_left (PySem.intBits_le_64 ?kma ?kmb)); (case kma => omega); (case kmb => omega)) | (with_reducible refine mul_int ?_ (PySem.IntMulOk.of_right (PySem.intBits_le_64 ?kma ?kmb)); (case kma => omega); (case kmb => omega)))) | fail "binaryOp Mult int int"
  k_with "binaryOp Pow int int" => first | ((k_here; (with_reducible refine pow_int_small ?kb1 ?kb2 ?kb3 ?_); (case kb1 => omega); (case kb2 => omega); (case kb3 => decide))) | fail "binaryOp Pow int int"
  k_with "k_ne" => first | (first | exact not_at (by with_reducible assumption) (by k_mem) (fun hh9 => absurd (Value.type.inj hh9) (by decide)) | exact not_at' (by with_reducible assumption) (by k_mem) (fun hh9 => absurd (Value.type.inj hh9) (by decide)) | fail "k_ne") | fail "k_ne"
  k_with "p_sm" => first | (first | exact Dealt.sm (by with_reducible assumption) | (with_reducible refine mk_sm ?zmk_sm0 ?zmk_sm1; (case zmk_sm0 => walk_at "p_room"); (case zmk_sm1 => omega)) | (with_reducible refine wh_sm ?zwh_sm0 ?zwh_sm1 ?zwh_sm2; (case zwh_sm0 => with_reducible assumption); (case zwh_sm1 => omega); (case zwh_sm2 => omega)) | (with_reducible refine rd_sm ?zrd_sm0 ?zrd_sm1 ?zrd_sm2 ?zrd_sm3 ?zrd_sm4; (case zrd_sm0 => with_reducible assumption); (case zrd_sm1 => omega); (case zrd_sm2 => omega); (case zrd_sm3 => omega); (case zrd_sm4 => omega))) | fail "p_sm"
  k_with "p_ex" => first | (first | with_reducible exact ex_yes (by assumption) | with_reducible exact ex_no (by assumption)) | fail "p_ex"
  k_with "p_room" => first | (first | (with_reducible refine room_add ?zroom_add0 ?zroom_add1 ?zroom_add2; (case zroom_add0 => with_reducible assumption); (case zroom_add1 => with_reducible assumption); (case zroom_add2 => omega)) | (with_reducible refine room_add ?zroom_add0 ?zroom_add1 ?zroom_add2; (case zroom_add0 => with_reducible assumption); (case zroom_add1 => exact Dealt.neg (by with_reducible assumption)); (case zroom_add2 => omega)) | (with_reducible refine room_mul ?zroom_mul0 ?zroom_mul1 ?zroom_mul2; (case zroom_mul0 => with_reducible assumption); (case zroom_mul1 => with_reducible assumption); (case zroom_mul2 => omega)) | (with_reducible refine room_div1 ?zroom_div10 ?zroom_div11 ?zroom_div12 ?zroom_div13 ?zroom_div14; (case zroom_div10 => with_reducible assumption); (case zroom_div11 => with_reducible assumption); (case zroom_div12 => omega); (case zroom_div13 => omega); (case zroom_div14 => omega)) | (with_reducible refine room_div2 ?zroom_div20 ?zroom_div21 ?zroom_div22 ?zroom_div23 ?zroom_div24; (case zroom_div20 => with_reducible assumption); (case zroom_div21 => with_reducible assumption); (case zroom_div22 => omega); (case zroom_div23 => omega); (case zroom_div24 => omega)) | (with_reducible refine room_dvC ?zroom_dvC0 ?zroom_dvC1 ?zroom_dvC2 ?zroom_dvC3 ?zroom_dvC4; (case zroom_dvC0 => with_reducible assumption); (case zroom_dvC1 => with_reducible assumption); (case zroom_dvC2 => omega); (case zroom_dvC3 => omega); (case zroom_dvC4 => omega)) | (with_reducible refine rt_roomP ?zrt_roomP0 ?zrt_roomP1 ?zrt_roomP2 ?zrt_roomP3; (case zrt_roomP0 => with_reducible assumption); (case zrt_roomP1 => omega); (case zrt_roomP2 => omega); (case zrt_roomP3 => omega)) | (with_reducible refine rt_room ?zrt_room0 ?zrt_room1 ?zrt_room2 ?zrt_room3 ?zrt_room4; (case zrt_room0 => with_reducible assumption); (case zrt_room1 => omega); (case zrt_room2 => omega); (case zrt_room3 => omega); (case zrt_room4 => omega))) | fail "p_room"
  k_with "p_le" => first | (first | (with_reducible refine mono_add ?zmono_add0 ?zmono_add1 ?zmono_add2 ?zmono_add3 ?zmono_add4 ?zmono_add5; (case zmono_add0 => with_reducible assumption); (case zmono_add1 => with_reducible assumption); (case zmono_add2 => with_reducible assumption); (case zmono_add3 => walk_at "p_ex"); (case zmono_add4 => omega); (case zmono_add5 => omega)) | (with_reducible refine mono_sub1 ?zmono_sub10 ?zmono_sub11 ?zmono_sub12 ?zmono_sub13 ?zmono_sub14 ?zmono_sub15; (case zmono_sub10 => with_reducible assumption); (case zmono_sub11 => with_reducible assumption); (case zmono_sub12 => with_reducible assumption); (case zmono_sub13 => walk_at "p_ex"); (case zmono_sub14 => omega); (case zmono_sub15 => omega)) | (with_reducible refine mono_sub2 ?zmono_sub20 ?zmono_sub21 ?zmono_sub22 ?zmono_sub23 ?zmono_sub24 ?zmono_sub25; (case zmono_sub20 => with_reducible assumption); (case zmono_sub21 => with_reducible assumption); (case zmono_sub22 => with_reducible assumption); (case zmono_sub23 => walk_at "p_ex"); (case zmono_sub24 => omega); (case zmono_sub25 => omega)) | (with_reducible refine mono_wh ?zmono_wh0 ?zmono_wh1 ?zmono_wh2 ?zmono_wh3 ?zmono_wh4; (case zmono_wh0 => with_reducible assumption); (case zmono_wh1 => with_reducible assumption); (case zmono_wh2 => walk_at "p_ex"); (case zmono_wh3 => omega); (case zmono_wh4 => omega)) | (with_reducible refine mono_rd ?zmono_rd0 ?zmono_rd1 ?zmono_rd2 ?zmono_rd3 ?zmono_rd4 ?zmono_rd5 ?zmono_rd6; (case zmono_rd0 => with_reducible assumption); (case zmono_rd1 => with_reducible assumption); (case zmono_rd2 => walk_at "p_ex"); (case zmono_rd3 => omega); (case zmono_rd4 => omega); (case zmono_rd5 => omega); (case zmono_rd6 => omega)) | (with_reducible refine mono_mul ?zmono_mul0 ?zmono_mul1 ?zmono_mul2 ?zmono_mul3 ?zmono_mul4 ?zmono_mul5 ?zmono_mul6; (case zmono_mul0 => with_reducible assumption); (case zmono_mul1 => with_reducible assumption); (case zmono_mul2 => with_reducible assumption); (case zmono_mul3 => walk_at "p_ex"); (case zmono_mul4 => omega); (case zmono_mul5 => omega); (case zmono_mul6 => omega)) | (with_reducible refine mono_div ?zmono_div0 ?zmono_div1 ?zmono_div2 ?zmono_div3 ?zmono_div4 ?zmono_div5 ?zmono_div6; (case zmono_div0 => with_reducible assumption); (case zmono_div1 => with_reducible assumption); (case zmono_div2 => with_reducible assumption); (case zmono_div3 => walk_at "p_ex"); (case zmono_div4 => omega); (case zmono_div5 => omega); (case zmono_div6 => omega)) | (with_reducible refine mono_rt ?zmono_rt0 ?zmono_rt1 ?zmono_rt2 ?zmono_rt3 ?zmono_rt4 ?zmono_rt5; (case zmono_rt0 => with_reducible assumption); (case zmono_rt1 => with_reducible assumption); (case zmono_rt2 => walk_at "p_ex"); (case zmono_rt3 => omega); (case zmono_rt4 => omega); (case zmono_rt5 => omega))) | fail "p_le"
  k_with "p_dec" => first | (first | exact dec_news (by assumption) (by k_mem) | exact dec_rep (by with_reducible assumption) (by assumption) (by assumption) (by k_mem)) | fail "p_dec"
  k_with "p_decl" => first | (first | exact decL_mem (by k_mem) | exact decL_rep (by with_reducible assumption) (by k_mem) | fail "p_decl") | fail "p_decl"
  k_with "k_mem" => first | (first | exact memL (by with_reducible assumption) | fail "k_mem") | fail "k_mem"
  k_with "p_ex" => first | (with_reducible assumption) | fail "p_ex"
  k_with "call ref" => first | ((k_here; k_dflt (refine' use_A (c_whole _ _ _ _ _) ?k1 ?k2 ?k3 ?k4 ?k5 ?kK ?kd ?ku ?kp ?kq ?_; (case k1 => k_asm); (case k2 => k_asm); (case k3 => k_asm); (case k4 => k_asm); (case k5 => k_asm); (case kK => first | exact rfl | assumption); (case kd => ktr_room); (case ku => ktr_units); (case kp => exact ⟨(by walk_at "p_dec"), (by walk_at "p_sm"), by first | exact wh_pre (wh_again (by with_reducible assumption)) | exact room_wh (by with_reducible assumption) (by omega)⟩); (case kq => k_mem); intro D9 q9 o9 h9 tk9 hr9 F9 N9 hn9; (try dsimp only); (try k_fold)))) | fail "call ref"
  k_with "call ref" => first | ((k_here; k_dflt (refine' use_A (c_round _ _ _ _ _ _ _) ?k1 ?k2 ?k3 ?k4 ?k5 ?kK ?kd ?ku ?kp ?kq ?_; (case k1 => k_asm); (case k2 => k_asm); (case k3 => k_asm); (case k4 => k_asm); (case k5 => k_asm); (case kK => first | exact rfl | assumption); (case kd => ktr_room); (case ku => ktr_units); (case kp => exact ⟨(by walk_at "p_dec"), (by walk_at "p_sm"), by first | exact rd_pre (rd_again (by with_reducible assumption)) | exact room_rd (by with_reducible assumption) (by omega) (by omega) (by omega)⟩); (case kq => k_mem); intro D9 q9 o9 h9 tk9 hr9 F9 N9 hn9; (try dsimp only); (try k_fold)))) | fail "call ref"
  have kMark9 := kstMark
  revert X
  k_fill
  intro X
  conv => arg 3; arg 1; whnf
  unfold lawEnv
  conv => arg 3; arg 2; arg 2; whnf
  conv => arg 2; arg 5; whnf
  have hq1 := h1.bd
  have hq2 := h2.bd
  have hq3 := low_high h1 h2 hl
  k_steps
  all_goals first
    | exact retQ_app ret (by assumption) (by assumption) (by k_ne) (by k_ne) (by k_ne) ho (by walk_at "p_decl") (by walk_at "p_decl")
    | fail "end"
end
section

theorem t_mul {w mean mg mb} (dp un : Nat) (gd : Option (List Code)) (a : Addr) (ccd : Value) (outer : List Env) (A₀ : Around) (base h₀ : Heap) (L : Addr) (rest : Str → Option Value) (s : Shared) (Q : Flow → Shared → Prop) (E : Value → Shared → Prop)
    (B : Below A₀ base outer h₀) (X : (hd.heap_39 w.params).In h₀) (T : Top hd.view_39 (looseW hd.view_39 [Str.ofString "BasicError"]) mean mg mb h₀) (hdp : dp + 20 < recursionLimit) (hun : un + 200 < cLine) (A Bd Cd Df : Addr) (pv : Value) (x1 e1 x2 e2 x3 e3 d p : Int) (t1 u1 t2 u2 t3 u3 tp td : Tok) (h1 : Dealt x1 e1) (h2 : Dealt x2 e2) (h3 : Dealt x3 e3) (hl : Ex2 x1 e1 x2 e2) (hd1 : 3 ≤ d) (hd2 : d ≤ 5) (hp1 : -2 ≤ p) (hp2 : p ≤ 2) (ps : List Value) (nf : Nat) (tl : List (Addr × Obj)) (hps : ps.length ≤ 100)
    (F : Fr h₀ L s.heap (fun y => if y = Str.ofString "found" then some (.ref Df) else if y = Str.ofString "high" then some (.ref Bd) else if y = Str.ofString "low" then some (.ref A) else if y = Str.ofString "places" then some (.int p tp) else if y = Str.ofString "third" then some (.ref Cd) else if y = Str.ofString "pair" then some (pv) else if y = Str.ofString "digits" then some (.int d td) else rest y)) (N : News h₀ L s.heap ((Df, listOf ps.toArray nf) :: tl)) (hA : (A, tup2 x1 t1 e1 u1) ∈ tl) (hB : (Bd, tup2 x2 t2 e2 u2) ∈ tl) (hC : (Cd, tup2 x3 t3 e3 u3) ∈ tl) (ho : OwnOff tl [Df])
    (ret : RetP h₀ L Df (fun y => if y = Str.ofString "found" then some (.ref Df) else if y = Str.ofString "high" then some (.ref Bd) else if y = Str.ofString "low" then some (.ref A) else if y = Str.ofString "places" then some (.int p tp) else if y = Str.ofString "third" then some (.ref Cd) else if y = Str.ofString "pair" then some (pv) else if y = Str.ofString "digits" then some (.int d td) else rest y) ps tl s Q) :
    wpAny (model PySem.Challenge.rw_pq0162_01.row.prog w) (ktrTop dp un gd (Str.ofString "law") lawScope L a ccd [] outer) (exec (nthS loopBody 8) (lawEnv L a ccd)) Q E s := by
  k_with_none
  k_with "p_enter" => first | ((refine' enter_pure ?k1 ?k2 ?k3 ?k5 ?kA ?kF ?kK ?k6 ?k7 ?k8 ?k9 ?kB ?_ ?c2 ?c3 ?c4 ?c5; (case kA => exact rfl); (case kF => exact rfl); (case kK => assumption); (case k1 => k_asm); (case k2 => k_asm); (case k3 => k_asm); (case k5 => k_asm); (case k6 => k_is); (case k7 => k_is); (case k8 => ktr_room); (case k9 => exact BindsTo.of_eq rfl); (case c5 => decide); (case kB => exact locs rfl); (case c2 => exact rfl); (case c3 => exact rfl); (case c4 => exact rfl); k_whole; intro L' h' F' N' B' X' T'; (try dsimp only); (try k_fold))) | fail "p_enter"
  k_with "h_enter" => first | ((refine' enter_hand ?k1 ?k2 ?kN ?k3 ?k5 ?kA ?kF ?kK ?k6 ?k7 ?k8 ?k9 ?kB ?_ ?c2 ?c3 ?c4 ?c5; (case kA => exact rfl); (case kF => exact rfl); (case kK => assumption); (case k1 => k_asm); (case k2 => k_asm); (case kN => k_asm); (case k3 => k_asm); (case k5 => k_asm); (case k6 => k_is); (case k7 => k_is); (case k8 => ktr_room); (case k9 => exact BindsTo.of_eq rfl); (case c5 => decide); (case kB => exact locs rfl); (case c2 => exact rfl); (case c3 => exact rfl); (case c4 => exact rfl); k_whole)) | fail "h_enter"
  k_with "subscriptTail" => first | ((k_here; (with_reducible show wpAny _ _ (subscriptTail _ _ (Value.ref _) (Value.int _ _)) _ _ _); k_dflt (refine' item_tupleT ?t ?a ?b ?c ?d ?_; (case t => exact Fr.tup (by assumption) (by assumption)); (case a => decide); (case b => decide); (case c => rfl); (case d => rfl); k_whole))) | fail "subscriptTail"
  k_with "k_ne" => first | (first | exact ne_all (by with_reducible assumption) (by k_mem) | exact ne_all' (by with_reducible assumption) (by k_mem) | fail "k_ne") | fail "k_ne"
  k_with "p_sm" => first | (first | with_reducible assumption | exact Sm.neg (by with_reducible assumption) | exact sm_lit (by omega) (by omega) (by omega) (by omega)) | fail "p_sm"
  k_with "p_room" => first | (first | with_reducible assumption | exact (‹(_ : Int) < 0 → Room _ _ _›) (by with_reducible assumption) | exact rd_room1 (by with_reducible assumption) (by with_reducible assumption) (by with_reducible assumption) (by first | exact .inl rfl | exact .inr rfl) | exact rd_room2 (by with_reducible assumption) (by with_reducible assumption) (by with_reducible assumption) (by first | exact .inl rfl | exact .inr rfl)) | fail "p_room"
  k_with "p_half" => first | (first | with_reducible exact half_gt (by with_reducible assumption) | with_reducible exact half_tie (by with_reducible assumption) (by with_reducible assumption) | with_reducible exact half_lt (by with_reducible assumption) (by with_reducible assumption) | with_reducible exact half_even (by with_reducible assumption) (by with_reducible assumption)) | fail "p_half"
  k_with "p_rd" => first | (first | exact dec_eq (dec_base (by assumption) (by with_reducible assumption)) ⟨rd_sameX (.inl (by with_reducible assumption)), rd_sameE (.inl (by with_reducible assumption))⟩ | exact dec_eq (dec_base (by assumption) (by with_reducible assumption)) ⟨rd_sameX (.inr (by with_reducible assumption)), rd_sameE (.inr (by with_reducible assumption))⟩ | exact dec_eq (dec_news (by assumption) (by k_mem)) (rd_pos (by with_reducible assumption) (by with_reducible assumption) (by walk_at "p_half") (by with_reducible assumption) (by with_reducible assumption)) | exact dec_eq (dec_news (by assumption) (by k_mem)) (rd_neg (by with_reducible assumption) (by with_reducible assumption) (by walk_at "p_half") (by with_reducible assumption) (by with_reducible assumption)) | exact dec_eq ⟨_, _, tupK (Frag.In.keeps (by assumption) (Fr.keep (by assumption))) (by k_is)⟩ (rd_zero (by with_reducible assumption) (by with_reducible assumption) (by walk_at "p_half") (by with_reducible assumption))) | fail "p_rd"
  k_with "p_ne" => first | (first | exact pow10_ne _ | with_reducible assumption | exact root_ne (by with_reducible assumption) | omega) | fail "p_ne"
  k_with "p_py" => first | (first | decide +kernel | exact py_pow (by omega) | exact root_py (by with_reducible assumption) | exact py_of (k := 20) (by decide) (by omega) | exact py_of (k := 60) (by decide) (by omega)) | fail "p_py"
  k_with "binaryOp FloorDiv int int" => first | ((k_here; (with_reducible refine floordiv_int ?kbe ?_ (Or.inl (PyProof.noPylong_of_log2 ?kbp))); (case kbe => walk_at "p_ne"); (case kbp => walk_at "p_py"))) | fail "binaryOp FloorDiv int int"
  k_with "binaryOp Mod int int" => first | ((k_here; (with_reducible refine mod_int' ?kbe ?_); (case kbe => walk_at "p_ne"))) | fail "binaryOp Mod int int"
  k_with "binaryOp Mult int int" => first | ((k_here; first | (with_reducible refine mul_int ?_ (PySem.IntMulOk.of_left (PySem.intBits_le_64 ?kma ?kmb)); (case kma => omega); (case kmb => omega)) | (with_reducible refine mul_int ?_ (PySem.IntMulOk.of_right (PySem.intBits_le_64 ?kma ?kmb)); (case kma => omega); (case kmb => omega)))) | fail "binaryOp Mult int int"
  k_with "binaryOp Pow int int" => first | ((k_here; (with_reducible refine pow_int_small ?kb1 ?kb2 ?kb3 ?_); (case kb1 => omega); (case kb2 => omega); (case kb3 => decide))) | fail "binaryOp Pow int int"
  k_with "k_ne" => first | (first | exact not_at (by with_reducible assumption) (by k_mem) (fun hh9 => absurd (Value.type.inj hh9) (by decide)) | exact not_at' (by with_reducible assumption) (by k_mem) (fun hh9 => absurd (Value.type.inj hh9) (by decide)) | fail "k_ne") | fail "k_ne"
  k_with "p_sm" => first | (first | exact Dealt.sm (by with_reducible assumption) | (with_reducible refine mk_sm ?zmk_sm0 ?zmk_sm1; (case zmk_sm0 => walk_at "p_room"); (case zmk_sm1 => omega)) | (with_reducible refine wh_sm ?zwh_sm0 ?zwh_sm1 ?zwh_sm2; (case zwh_sm0 => with_reducible assumption); (case zwh_sm1 => omega); (case zwh_sm2 => omega)) | (with_reducible refine rd_sm ?zrd_sm0 ?zrd_sm1 ?zrd_sm2 ?zrd_sm3 ?zrd_sm4; (case zrd_sm0 => with_reducible assumption); (case zrd_sm1 => omega); (case zrd_sm2 => omega); (case zrd_sm3 => omega); (case zrd_sm4 => omega))) | fail "p_sm"
  k_with "p_ex" => first | (first | with_reducible exact ex_yes (by assumption) | with_reducible exact ex_no (by assumption)) | fail "p_ex"
  k_with "p_room" => first | (first | (with_reducible refine room_add ?zroom_add0 ?zroom_add1 ?zroom_add2; (case zroom_add0 => with_reducible assumption); (case zroom_add1 => with_reducible assumption); (case zroom_add2 => omega)) | (with_reducible refine room_add ?zroom_add0 ?zroom_add1 ?zroom_add2; (case zroom_add0 => with_reducible assumption); (case zroom_add1 => exact Dealt.neg (by with_reducible assumption)); (case zroom_add2 => omega)) | (with_reducible refine room_mul ?zroom_mul0 ?zroom_mul1 ?zroom_mul2; (case zroom_mul0 => with_reducible assumption); (case zroom_mul1 => with_reducible assumption); (case zroom_mul2 => omega)) | (with_reducible refine room_div1 ?zroom_div10 ?zroom_div11 ?zroom_div12 ?zroom_div13 ?zroom_div14; (case zroom_div10 => with_reducible assumption); (case zroom_div11 => with_reducible assumption); (case zroom_div12 => omega); (case zroom_div13 => omega); (case zroom_div14 => omega)) | (with_reducible refine room_div2 ?zroom_div20 ?zroom_div21 ?zroom_div22 ?zroom_div23 ?zroom_div24; (case zroom_div20 => with_reducible assumption); (case zroom_div21 => with_reducible assumption); (case zroom_div22 => omega); (case zroom_div23 => omega); (case zroom_div24 => omega)) | (with_reducible refine room_dvC ?zroom_dvC0 ?zroom_dvC1 ?zroom_dvC2 ?zroom_dvC3 ?zroom_dvC4; (case zroom_dvC0 => with_reducible assumption); (case zroom_dvC1 => with_reducible assumption); (case zroom_dvC2 => omega); (case zroom_dvC3 => omega); (case zroom_dvC4 => omega)) | (with_reducible refine rt_roomP ?zrt_roomP0 ?zrt_roomP1 ?zrt_roomP2 ?zrt_roomP3; (case zrt_roomP0 => with_reducible assumption); (case zrt_roomP1 => omega); (case zrt_roomP2 => omega); (case zrt_roomP3 => omega)) | (with_reducible refine rt_room ?zrt_room0 ?zrt_room1 ?zrt_room2 ?zrt_room3 ?zrt_room4; (case zrt_room0 => with_reducible assumption); (case zrt_room1 => omega); (case zrt_room2 => omega); (case zrt_room3 => omega); (case zrt_room4 => omega))) | fail "p_room"
  k_with "p_le" => first | (first | (with_reducible refine mono_add ?zmono_add0 ?zmono_add1 ?zmono_add2 ?zmono_add3 ?zmono_add4 ?zmono_add5; (case zmono_add0 => with_reducible assumption); (case zmono_add1 => with_reducible assumption); (case zmono_add2 => with_reducible assumption); (case zmono_add3 => walk_at "p_ex"); (case zmono_add4 => omega); (case zmono_add5 => omega)) | (with_reducible refine mono_sub1 ?zmono_sub10 ?zmono_sub11 ?zmono_sub12 ?zmono_sub13 ?zmono_sub14 ?zmono_sub15; (case zmono_sub10 => with_reducible assumption); (case zmono_sub11 => with_reducible assumption); (case zmono_sub12 => with_reducible assumption); (case zmono_sub13 => walk_at "p_ex"); (case zmono_sub14 => omega); (case zmono_sub15 => omega)) | (with_reducible refine mono_sub2 ?zmono_sub20 ?zmono_sub21 ?zmono_sub22 ?zmono_sub23 ?zmono_sub24 ?zmono_sub25; (case zmono_sub20 => with_reducible assumption); (case zmono_sub21 => with_reducible assumption); (case zmono_sub22 => with_reducible assumption); (case zmono_sub23 => walk_at "p_ex"); (case zmono_sub24 => omega); (case zmono_sub25 => omega)) | (with_reducible refine mono_wh ?zmono_wh0 ?zmono_wh1 ?zmono_wh2 ?zmono_wh3 ?zmono_wh4; (case zmono_wh0 => with_reducible assumption); (case zmono_wh1 => with_reducible assumption); (case zmono_wh2 => walk_at "p_ex"); (case zmono_wh3 => omega); (case zmono_wh4 => omega)) | (with_reducible refine mono_rd ?zmono_rd0 ?zmono_rd1 ?zmono_rd2 ?zmono_rd3 ?zmono_rd4 ?zmono_rd5 ?zmono_rd6; (case zmono_rd0 => with_reducible assumption); (case zmono_rd1 => with_reducible assumption); (case zmono_rd2 => walk_at "p_ex"); (case zmono_rd3 => omega); (case zmono_rd4 => omega); (case zmono_rd5 => omega); (case zmono_rd6 => omega)) | (with_reducible refine mono_mul ?zmono_mul0 ?zmono_mul1 ?zmono_mul2 ?zmono_mul3 ?zmono_mul4 ?zmono_mul5 ?zmono_mul6; (case zmono_mul0 => with_reducible assumption); (case zmono_mul1 => with_reducible assumption); (case zmono_mul2 => with_reducible assumption); (case zmono_mul3 => walk_at "p_ex"); (case zmono_mul4 => omega); (case zmono_mul5 => omega); (case zmono_mul6 => omega)) | (with_reducible refine mono_div ?zmono_div0 ?zmono_div1 ?zmono_div2 ?zmono_div3 ?zmono_div4 ?zmono_div5 ?zmono_div6; (case zmono_div0 => with_reducible assumption); (case zmono_div1 => with_reducible assumption); (case zmono_div2 => with_reducible assumption); (case zmono_div3 => walk_at "p_ex"); (case zmono_div4 => omega); (case zmono_div5 => omega); (case zmono_div6 => omega)) | (with_reducible refine mono_rt ?zmono_rt0 ?zmono_rt1 ?zmono_rt2 ?zmono_rt3 ?zmono_rt4 ?zmono_rt5; (case zmono_rt0 => with_reducible assumption); (case zmono_rt1 => with_reducible assumption); (case zmono_rt2 => walk_at "p_ex"); (case zmono_rt3 => omega); (case zmono_rt4 => omega); (case zmono_rt5 => omega))) | fail "p_le"
  k_with "p_dec" => first | (first | exact dec_news (by assumption) (by k_mem) | exact dec_rep (by with_reducible assumption) (by assumption) (by assumption) (by k_mem)) | fail "p_dec"
  k_with "p_decl" => first | (first | exact decL_mem (by k_mem) | exact decL_rep (by with_reducible assumption) (by k_mem) | fail "p_decl") | fail "p_decl"
  k_with "k_mem" => first | (first | exact memL (by with_reducible assumption) | fail "k_mem") | fail "k_mem"
  k_with "p_ex" => first | (with_reducible assumption) | fail "p_ex"
  k_with "call ref" => first | ((k_here; k_dflt (refine' use_F (c_mul _ _ _ _ _ _ _ _) ?k1 ?k2 ?k3 ?k4 ?k5 ?kK ?kd ?ku ?kp ?_; (case k1 => k_asm); (case k2 => k_asm); (case k3 => k_asm); (case k4 => k_asm); (case k5 => k_asm); (case kK => first | exact rfl | assumption); (case kd => ktr_room); (case ku => ktr_units); (case kp => first | trivial | ((try dsimp only); exact ⟨(by walk_at "p_dec"), (by walk_at "p_sm"), (by walk_at "p_dec"), (by walk_at "p_sm"), by first | assumption | walk_at "p_room"⟩)); intro D9 t9 u9 h9 tk9 F9 N9 hne9; (try dsimp only); (try k_fold)))) | fail "call ref"
  have kMark9 := kstMark
  revert X
  k_fill
  intro X
  conv => arg 3; arg 1; whnf
  unfold lawEnv
  conv => arg 3; arg 2; arg 2; whnf
  conv => arg 2; arg 5; whnf
  have hq1 := h1.bd
  have hq2 := h2.bd
  have hq3 := low_high h1 h2 hl
  k_steps
  all_goals first
    | exact retP_none ret (by assumption) (by assumption) ho
    | exact retP_app ret (by assumption) (by assumption) (by k_ne) (by k_ne) (by k_ne) ho (decL_mem (by k_mem)) (decL_mem (by k_mem)) (by walk_at "p_sm") (by walk_at "p_sm") (by walk_at "p_le")
    | fail "end"
end
section

theorem t_div {w mean mg mb} (dp un : Nat) (gd : Option (List Code)) (a : Addr) (ccd : Value) (outer : List Env) (A₀ : Around) (base h₀ : Heap) (L : Addr) (rest : Str → Option Value) (s : Shared) (Q : Flow → Shared → Prop) (E : Value → Shared → Prop)
    (B : Below A₀ base outer h₀) (X : (hd.heap_39 w.params).In h₀) (T : Top hd.view_39 (looseW hd.view_39 [Str.ofString "BasicError"]) mean mg mb h₀) (hdp : dp + 20 < recursionLimit) (hun : un + 200 < cLine) (A Bd Cd Df : Addr) (pv : Value) (x1 e1 x2 e2 x3 e3 d p : Int) (t1 u1 t2 u2 t3 u3 tp td : Tok) (h1 : Dealt x1 e1) (h2 : Dealt x2 e2) (h3 : Dealt x3 e3) (hl : Ex2 x1 e1 x2 e2) (hd1 : 3 ≤ d) (hd2 : d ≤ 5) (hp1 : -2 ≤ p) (hp2 : p ≤ 2) (ps : List Value) (nf : Nat) (tl : List (Addr × Obj)) (hps : ps.length ≤ 100)
    (F : Fr h₀ L s.heap (fun y => if y = Str.ofString "found" then some (.ref Df) else if y = Str.ofString "high" then some (.ref Bd) else if y = Str.ofString "low" then some (.ref A) else if y = Str.ofString "places" then some (.int p tp) else if y = Str.ofString "third" then some (.ref Cd) else if y = Str.ofString "pair" then some (pv) else if y = Str.ofString "digits" then some (.int d td) else rest y)) (N : News h₀ L s.heap ((Df, listOf ps.toArray nf) :: tl)) (hA : (A, tup2 x1 t1 e1 u1) ∈ tl) (hB : (Bd, tup2 x2 t2 e2 u2) ∈ tl) (hC : (Cd, tup2 x3 t3 e3 u3) ∈ tl) (ho : OwnOff tl [Df])
    (ret : RetP h₀ L Df (fun y => if y = Str.ofString "found" then some (.ref Df) else if y = Str.ofString "high" then some (.ref Bd) else if y = Str.ofString "low" then some (.ref A) else if y = Str.ofString "places" then some (.int p tp) else if y = Str.ofString "third" then some (.ref Cd) else if y = Str.ofString "pair" then some (pv) else if y = Str.ofString "digits" then some (.int d td) else rest y) ps tl s Q) :
    wpAny (model PySem.Challenge.rw_pq0162_01.row.prog w) (ktrTop dp un gd (Str.ofString "law") lawScope L a ccd [] outer) (exec (nthS loopBody 9) (lawEnv L a ccd)) Q E s := by
  k_with_none
  k_with "p_enter" => first | ((refine' enter_pure ?k1 ?k2 ?k3 ?k5 ?kA ?kF ?kK ?k6 ?k7 ?k8 ?k9 ?kB ?_ ?c2 ?c3 ?c4 ?c5; (case kA => exact rfl); (case kF => exact rfl); (case kK => assumption); (case k1 => k_asm); (case k2 => k_asm); (case k3 => k_asm); (case k5 => k_asm); (case k6 => k_is); (case k7 => k_is); (case k8 => ktr_room); (case k9 => exact BindsTo.of_eq rfl); (case c5 => decide); (case kB => exact locs rfl); (case c2 => exact rfl); (case c3 => exact rfl); (case c4 => exact rfl); k_whole; intro L' h' F' N' B' X' T'; (try dsimp only); (try k_fold))) | fail "p_enter"
  k_with "h_enter" => first | ((refine' enter_hand ?k1 ?k2 ?kN ?k3 ?k5 ?kA ?kF ?kK ?k6 ?k7 ?k8 ?k9 ?kB ?_ ?c2 ?c3 ?c4 ?c5; (case kA => exact rfl); (case kF => exact rfl); (case kK => assumption); (case k1 => k_asm); (case k2 => k_asm); (case kN => k_asm); (case k3 => k_asm); (case k5 => k_asm); (case k6 => k_is); (case k7 => k_is); (case k8 => ktr_room); (case k9 => exact BindsTo.of_eq rfl); (case c5 => decide); (case kB => exact locs rfl); (case c2 => exact rfl); (case c3 => exact rfl); (case c4 => exact rfl); k_whole)) | fail "h_enter"
  k_with "subscriptTail" => first | ((k_here; (with_reducible show wpAny _ _ (subscriptTail _ _ (Value.ref _) (Value.int _ _)) _ _ _); k_dflt (refine' item_tupleT ?t ?a ?b ?c ?d ?_; (case t => exact Fr.tup (by assumption) (by assumption)); (case a => decide); (case b => decide); (case c => rfl); (case d => rfl); k_whole))) | fail "subscriptTail"
  k_with "k_ne" => first | (first | exact ne_all (by with_reducible assumption) (by k_mem) | exact ne_all' (by with_reducible assumption) (by k_mem) | fail "k_ne") | fail "k_ne"
  k_with "p_sm" => first | (first | with_reducible assumption | exact Sm.neg (by with_reducible assumption) | exact sm_lit (by omega) (by omega) (by omega) (by omega)) | fail "p_sm"
  k_with "p_room" => first | (first | with_reducible assumption | exact (‹(_ : Int) < 0 → Room _ _ _›) (by with_reducible assumption) | exact rd_room1 (by with_reducible assumption) (by with_reducible assumption) (by with_reducible assumption) (by first | exact .inl rfl | exact .inr rfl) | exact rd_room2 (by with_reducible assumption) (by with_reducible assumption) (by with_reducible assumption) (by first | exact .inl rfl | exact .inr rfl)) | fail "p_room"
  k_with "p_half" => first | (first | with_reducible exact half_gt (by with_reducible assumption) | with_reducible exact half_tie (by with_reducible assumption) (by with_reducible assumption) | with_reducible exact half_lt (by with_reducible assumption) (by with_reducible assumption) | with_reducible exact half_even (by with_reducible assumption) (by with_reducible assumption)) | fail "p_half"
  k_with "p_rd" => first | (first | exact dec_eq (dec_base (by assumption) (by with_reducible assumption)) ⟨rd_sameX (.inl (by with_reducible assumption)), rd_sameE (.inl (by with_reducible assumption))⟩ | exact dec_eq (dec_base (by assumption) (by with_reducible assumption)) ⟨rd_sameX (.inr (by with_reducible assumption)), rd_sameE (.inr (by with_reducible assumption))⟩ | exact dec_eq (dec_news (by assumption) (by k_mem)) (rd_pos (by with_reducible assumption) (by with_reducible assumption) (by walk_at "p_half") (by with_reducible assumption) (by with_reducible assumption)) | exact dec_eq (dec_news (by assumption) (by k_mem)) (rd_neg (by with_reducible assumption) (by with_reducible assumption) (by walk_at "p_half") (by with_reducible assumption) (by with_reducible assumption)) | exact dec_eq ⟨_, _, tupK (Frag.In.keeps (by assumption) (Fr.keep (by assumption))) (by k_is)⟩ (rd_zero (by with_reducible assumption) (by with_reducible assumption) (by walk_at "p_half") (by with_reducible assumption))) | fail "p_rd"
  k_with "p_ne" => first | (first | exact pow10_ne _ | with_reducible assumption | exact root_ne (by with_reducible assumption) | omega) | fail "p_ne"
  k_with "p_py" => first | (first | decide +kernel | exact py_pow (by omega) | exact root_py (by with_reducible assumption) | exact py_of (k := 20) (by decide) (by omega) | exact py_of (k := 60) (by decide) (by omega)) | fail "p_py"
  k_with "binaryOp FloorDiv int int" => first | ((k_here; (with_reducible refine floordiv_int ?kbe ?_ (Or.inl (PyProof.noPylong_of_log2 ?kbp))); (case kbe => walk_at "p_ne"); (case kbp => walk_at "p_py"))) | fail "binaryOp FloorDiv int int"
  k_with "binaryOp Mod int int" => first | ((k_here; (with_reducible refine mod_int' ?kbe ?_); (case kbe => walk_at "p_ne"))) | fail "binaryOp Mod int int"
  k_with "binaryOp Mult int int" => first | ((k_here; first | (with_reducible refine mul_int ?_ (PySem.IntMulOk.of_left (PySem.intBits_le_64 ?kma ?kmb)); (case kma => omega); (case kmb => omega)) | (with_reducible refine mul_int ?_ (PySem.IntMulOk.of_right (PySem.intBits_le_64 ?kma ?kmb)); (case kma => omega); (case kmb => omega)))) | fail "binaryOp Mult int int"
  k_with "binaryOp Pow int int" => first | ((k_here; (with_reducible refine pow_int_small ?kb1 ?kb2 ?kb3 ?_); (case kb1 => omega); (case kb2 => omega); (case kb3 => decide))) | fail "binaryOp Pow int int"
  k_with "k_ne" => first | (first | exact not_at (by with_reducible assumption) (by k_mem) (fun hh9 => absurd (Value.type.inj hh9) (by decide)) | exact not_at' (by with_reducible assumption) (by k_mem) (fun hh9 => absurd (Value.type.inj hh9) (by decide)) | fail "k_ne") | fail "k_ne"
  k_with "p_sm" => first | (first | exact Dealt.sm (by with_reducible assumption) | (with_reducible refine mk_sm ?zmk_sm0 ?zmk_sm1; (case zmk_sm0 => walk_at "p_room"); (case zmk_sm1 => omega)) | (with_reducible refine wh_sm ?zwh_sm0 ?zwh_sm1 ?zwh_sm2; (case zwh_sm0 => with_reducible assumption); (case zwh_sm1 => omega); (case zwh_sm2 => omega)) | (with_reducible refine rd_sm ?zrd_sm0 ?zrd_sm1 ?zrd_sm2 ?zrd_sm3 ?zrd_sm4; (case zrd_sm0 => with_reducible assumption); (case zrd_sm1 => omega); (case zrd_sm2 => omega); (case zrd_sm3 => omega); (case zrd_sm4 => omega))) | fail "p_sm"
  k_with "p_ex" => first | (first | with_reducible exact ex_yes (by assumption) | with_reducible exact ex_no (by assumption)) | fail "p_ex"
  k_with "p_room" => first | (first | (with_reducible refine room_add ?zroom_add0 ?zroom_add1 ?zroom_add2; (case zroom_add0 => with_reducible assumption); (case zroom_add1 => with_reducible assumption); (case zroom_add2 => omega)) | (with_reducible refine room_add ?zroom_add0 ?zroom_add1 ?zroom_add2; (case zroom_add0 => with_reducible assumption); (case zroom_add1 => exact Dealt.neg (by with_reducible assumption)); (case zroom_add2 => omega)) | (with_reducible refine room_mul ?zroom_mul0 ?zroom_mul1 ?zroom_mul2; (case zroom_mul0 => with_reducible assumption); (case zroom_mul1 => with_reducible assumption); (case zroom_mul2 => omega)) | (with_reducible refine room_div1 ?zroom_div10 ?zroom_div11 ?zroom_div12 ?zroom_div13 ?zroom_div14; (case zroom_div10 => with_reducible assumption); (case zroom_div11 => with_reducible assumption); (case zroom_div12 => omega); (case zroom_div13 => omega); (case zroom_div14 => omega)) | (with_reducible refine room_div2 ?zroom_div20 ?zroom_div21 ?zroom_div22 ?zroom_div23 ?zroom_div24; (case zroom_div20 => with_reducible assumption); (case zroom_div21 => with_reducible assumption); (case zroom_div22 => omega); (case zroom_div23 => omega); (case zroom_div24 => omega)) | (with_reducible refine room_dvC ?zroom_dvC0 ?zroom_dvC1 ?zroom_dvC2 ?zroom_dvC3 ?zroom_dvC4; (case zroom_dvC0 => with_reducible assumption); (case zroom_dvC1 => with_reducible assumption); (case zroom_dvC2 => omega); (case zroom_dvC3 => omega); (case zroom_dvC4 => omega)) | (with_reducible refine rt_roomP ?zrt_roomP0 ?zrt_roomP1 ?zrt_roomP2 ?zrt_roomP3; (case zrt_roomP0 => with_reducible assumption); (case zrt_roomP1 => omega); (case zrt_roomP2 => omega); (case zrt_roomP3 => omega)) | (with_reducible refine rt_room ?zrt_room0 ?zrt_room1 ?zrt_room2 ?zrt_room3 ?zrt_room4; (case zrt_room0 => with_reducible assumption); (case zrt_room1 => omega); (case zrt_room2 => omega); (case zrt_room3 => omega); (case zrt_room4 => omega))) | fail "p_room"
  k_with "p_le" => first | (first | (with_reducible refine mono_add ?zmono_add0 ?zmono_add1 ?zmono_add2 ?zmono_add3 ?zmono_add4 ?zmono_add5; (case zmono_add0 => with_reducible assumption); (case zmono_add1 => with_reducible assumption); (case zmono_add2 => with_reducible assumption); (case zmono_add3 => walk_at "p_ex"); (case zmono_add4 => omega); (case zmono_add5 => omega)) | (with_reducible refine mono_sub1 ?zmono_sub10 ?zmono_sub11 ?zmono_sub12 ?zmono_sub13 ?zmono_sub14 ?zmono_sub15; (case zmono_sub10 => with_reducible assumption); (case zmono_sub11 => with_reducible assumption); (case zmono_sub12 => with_reducible assumption); (case zmono_sub13 => walk_at "p_ex"); (case zmono_sub14 => omega); (case zmono_sub15 => omega)) | (with_reducible refine mono_sub2 ?zmono_sub20 ?zmono_sub21 ?zmono_sub22 ?zmono_sub23 ?zmono_sub24 ?zmono_sub25; (case zmono_sub20 => with_reducible assumption); (case zmono_sub21 => with_reducible assumption); (case zmono_sub22 => with_reducible assumption); (case zmono_sub23 => walk_at "p_ex"); (case zmono_sub24 => omega); (case zmono_sub25 => omega)) | (with_reducible refine mono_wh ?zmono_wh0 ?zmono_wh1 ?zmono_wh2 ?zmono_wh3 ?zmono_wh4; (case zmono_wh0 => with_reducible assumption); (case zmono_wh1 => with_reducible assumption); (case zmono_wh2 => walk_at "p_ex"); (case zmono_wh3 => omega); (case zmono_wh4 => omega)) | (with_reducible refine mono_rd ?zmono_rd0 ?zmono_rd1 ?zmono_rd2 ?zmono_rd3 ?zmono_rd4 ?zmono_rd5 ?zmono_rd6; (case zmono_rd0 => with_reducible assumption); (case zmono_rd1 => with_reducible assumption); (case zmono_rd2 => walk_at "p_ex"); (case zmono_rd3 => omega); (case zmono_rd4 => omega); (case zmono_rd5 => omega); (case zmono_rd6 => omega)) | (with_reducible refine mono_mul ?zmono_mul0 ?zmono_mul1 ?zmono_mul2 ?zmono_mul3 ?zmono_mul4 ?zmono_mul5 ?zmono_mul6; (case zmono_mul0 => with_reducible assumption); (case zmono_mul1 => with_reducible assumption); (case zmono_mul2 => with_reducible assumption); (case zmono_mul3 => walk_at "p_ex"); (case zmono_mul4 => omega); (case zmono_mul5 => omega); (case zmono_mul6 => omega)) | (with_reducible refine mono_div ?zmono_div0 ?zmono_div1 ?zmono_div2 ?zmono_div3 ?zmono_div4 ?zmono_div5 ?zmono_div6; (case zmono_div0 => with_reducible assumption); (case zmono_div1 => with_reducible assumption); (case zmono_div2 => with_reducible assumption); (case zmono_div3 => walk_at "p_ex"); (case zmono_div4 => omega); (case zmono_div5 => omega); (case zmono_div6 => omega)) | (with_reducible refine mono_rt ?zmono_rt0 ?zmono_rt1 ?zmono_rt2 ?zmono_rt3 ?zmono_rt4 ?zmono_rt5; (case zmono_rt0 => with_reducible assumption); (case zmono_rt1 => with_reducible assumption); (case zmono_rt2 => walk_at "p_ex"); (case zmono_rt3 => omega); (case zmono_rt4 => omega); (case zmono_rt5 => omega))) | fail "p_le"
  k_with "p_dec" => first | (first | exact dec_news (by assumption) (by k_mem) | exact dec_rep (by with_reducible assumption) (by assumption) (by assumption) (by k_mem)) | fail "p_dec"
  k_with "p_decl" => first | (first | exact decL_mem (by k_mem) | exact decL_rep (by with_reducible assumption) (by k_mem) | fail "p_decl") | fail "p_decl"
  k_with "k_mem" => first | (first | exact memL (by with_reducible assumption) | fail "k_mem") | fail "k_mem"
  k_with "p_ex" => first | (with_reducible assumption) | fail "p_ex"
  k_with "call ref" => first | ((k_here; k_dflt (refine' use_F (c_div _ _ _ _ _ _ _ _) ?k1 ?k2 ?k3 ?k4 ?k5 ?kK ?kd ?ku ?kp ?_; (case k1 => k_asm); (case k2 => k_asm); (case k3 => k_asm); (case k4 => k_asm); (case k5 => k_asm); (case kK => first | exact rfl | assumption); (case kd => ktr_room); (case ku => ktr_units); (case kp => first | trivial | ((try dsimp only); exact ⟨(by walk_at "p_dec"), (by walk_at "p_sm"), (by walk_at "p_dec"), (by walk_at "p_sm"), by first | assumption | omega, by omega, by omega, by first | assumption | walk_at "p_room", by first | assumption | walk_at "p_room"⟩)); intro D9 t9 u9 h9 tk9 F9 N9 hne9; (try dsimp only); (try k_fold)))) | fail "call ref"
  have kMark9 := kstMark
  revert X
  k_fill
  intro X
  conv => arg 3; arg 1; whnf
  unfold lawEnv
  conv => arg 3; arg 2; arg 2; whnf
  conv => arg 2; arg 5; whnf
  have hq1 := h1.bd
  have hq2 := h2.bd
  have hq3 := low_high h1 h2 hl
  k_steps
  all_goals first
    | exact retP_none ret (by assumption) (by assumption) ho
    | exact retP_app ret (by assumption) (by assumption) (by k_ne) (by k_ne) (by k_ne) ho (decL_mem (by k_mem)) (decL_mem (by k_mem)) (by walk_at "p_sm") (by walk_at "p_sm") (by walk_at "p_le")
    | fail "end"
end
section

theorem t_root {w mean mg mb} (dp un : Nat) (gd : Option (List Code)) (a : Addr) (ccd : Value) (outer : List Env) (A₀ : Around) (base h₀ : Heap) (L : Addr) (rest : Str → Option Value) (s : Shared) (Q : Flow → Shared → Prop) (E : Value → Shared → Prop)
    (B : Below A₀ base outer h₀) (X : (hd.heap_39 w.params).In h₀) (T : Top hd.view_39 (looseW hd.view_39 [Str.ofString "BasicError"]) mean mg mb h₀) (hdp : dp + 20 < recursionLimit) (hun : un + 200 < cLine) (A Bd Cd Df : Addr) (pv : Value) (x1 e1 x2 e2 x3 e3 d p : Int) (t1 u1 t2 u2 t3 u3 tp td : Tok) (h1 : Dealt x1 e1) (h2 : Dealt x2 e2) (h3 : Dealt x3 e3) (hl : Ex2 x1 e1 x2 e2) (hd1 : 3 ≤ d) (hd2 : d ≤ 5) (hp1 : -2 ≤ p) (hp2 : p ≤ 2) (ps : List Value) (nf : Nat) (tl : List (Addr × Obj)) (hps : ps.length ≤ 100)
    (F : Fr h₀ L s.heap (fun y => if y = Str.ofString "found" then some (.ref Df) else if y = Str.ofString "high" then some (.ref Bd) else if y = Str.ofString "low" then some (.ref A) else if y = Str.ofString "places" then some (.int p tp) else if y = Str.ofString "third" then some (.ref Cd) else if y = Str.ofString "pair" then some (pv) else if y = Str.ofString "digits" then some (.int d td) else rest y)) (N : News h₀ L s.heap ((Df, listOf ps.toArray nf) :: tl)) (hA : (A, tup2 x1 t1 e1 u1) ∈ tl) (hB : (Bd, tup2 x2 t2 e2 u2) ∈ tl) (hC : (Cd, tup2 x3 t3 e3 u3) ∈ tl) (ho : OwnOff tl [Df])
    (ret : RetP h₀ L Df (fun y => if y = Str.ofString "found" then some (.ref Df) else if y = Str.ofString "high" then some (.ref Bd) else if y = Str.ofString "low" then some (.ref A) else if y = Str.ofString "places" then some (.int p tp) else if y = Str.ofString "third" then some (.ref Cd) else if y = Str.ofString "pair" then some (pv) else if y = Str.ofString "digits" then some (.int d td) else rest y) ps tl s Q) :
    wpAny (model PySem.Challenge.rw_pq0162_01.row.prog w) (ktrTop dp un gd (Str.ofString "law") lawScope L a ccd [] outer) (exec (nthS loopBody 10) (lawEnv L a ccd)) Q E s := by
  k_with_none
  k_with "p_enter" => first | ((refine' enter_pure ?k1 ?k2 ?k3 ?k5 ?kA ?kF ?kK ?k6 ?k7 ?k8 ?k9 ?kB ?_ ?c2 ?c3 ?c4 ?c5; (case kA => exact rfl); (case kF => exact rfl); (case kK => assumption); (case k1 => k_asm); (case k2 => k_asm); (case k3 => k_asm); (case k5 => k_asm); (case k6 => k_is); (case k7 => k_is); (case k8 => ktr_room); (case k9 => exact BindsTo.of_eq rfl); (case c5 => decide); (case kB => exact locs rfl); (case c2 => exact rfl); (case c3 => exact rfl); (case c4 => exact rfl); k_whole; intro L' h' F' N' B' X' T'; (try dsimp only); (try k_fold))) | fail "p_enter"
  k_with "h_enter" => first | ((refine' enter_hand ?k1 ?k2 ?kN ?k3 ?k5 ?kA ?kF ?kK ?k6 ?k7 ?k8 ?k9 ?kB ?_ ?c2 ?c3 ?c4 ?c5; (case kA => exact rfl); (case kF => exact rfl); (case kK => assumption); (case k1 => k_asm); (case k2 => k_asm); (case kN => k_asm); (case k3 => k_asm); (case k5 => k_asm); (case k6 => k_is); (case k7 => k_is); (case k8 => ktr_room); (case k9 => exact BindsTo.of_eq rfl); (case c5 => decide); (case kB => exact locs rfl); (case c2 => exact rfl); (case c3 => exact rfl); (case c4 => exact rfl); k_whole)) | fail "h_enter"
  k_with "subscriptTail" => first | ((k_here; (with_reducible show wpAny _ _ (subscriptTail _ _ (Value.ref _) (Value.int _ _)) _ _ _); k_dflt (refine' item_tupleT ?t ?a ?b ?c ?d ?_; (case t => exact Fr.tup (by assumption) (by assumption)); (case a => decide); (case b => decide); (case c => rfl); (case d => rfl); k_whole))) | fail "subscriptTail"
  k_with "k_ne" => first | (first | exact ne_all (by with_reducible assumption) (by k_mem) | exact ne_all' (by with_reducible assumption) (by k_mem) | fail "k_ne") | fail "k_ne"
  k_with "p_sm" => first | (first | with_reducible assumption | exact Sm.neg (by with_reducible assumption) | exact sm_lit (by omega) (by omega) (by omega) (by omega)) | fail "p_sm"
  k_with "p_room" => first | (first | with_reducible assumption | exact (‹(_ : Int) < 0 → Room _ _ _›) (by with_reducible assumption) | exact rd_room1 (by with_reducible assumption) (by with_reducible assumption) (by with_reducible assumption) (by first | exact .inl rfl | exact .inr rfl) | exact rd_room2 (by with_reducible assumption) (by with_reducible assumption) (by with_reducible assumption) (by first | exact .inl rfl | exact .inr rfl)) | fail "p_room"
  k_with "p_half" => first | (first | with_reducible exact half_gt (by with_reducible assumption) | with_reducible exact half_tie (by with_reducible assumption) (by with_reducible assumption) | with_reducible exact half_lt (by with_reducible assumption) (by with_reducible assumption) | with_reducible exact half_even (by with_reducible assumption) (by with_reducible assumption)) | fail "p_half"
  k_with "p_rd" => first | (first | exact dec_eq (dec_base (by assumption) (by with_reducible assumption)) ⟨rd_sameX (.inl (by with_reducible assumption)), rd_sameE (.inl (by with_reducible assumption))⟩ | exact dec_eq (dec_base (by assumption) (by with_reducible assumption)) ⟨rd_sameX (.inr (by with_reducible assumption)), rd_sameE (.inr (by with_reducible assumption))⟩ | exact dec_eq (dec_news (by assumption) (by k_mem)) (rd_pos (by with_reducible assumption) (by with_reducible assumption) (by walk_at "p_half") (by with_reducible assumption) (by with_reducible assumption)) | exact dec_eq (dec_news (by assumption) (by k_mem)) (rd_neg (by with_reducible assumption) (by with_reducible assumption) (by walk_at "p_half") (by with_reducible assumption) (by with_reducible assumption)) | exact dec_eq ⟨_, _, tupK (Frag.In.keeps (by assumption) (Fr.keep (by assumption))) (by k_is)⟩ (rd_zero (by with_reducible assumption) (by with_reducible assumption) (by walk_at "p_half") (by with_reducible assumption))) | fail "p_rd"
  k_with "p_ne" => first | (first | exact pow10_ne _ | with_reducible assumption | exact root_ne (by with_reducible assumption) | omega) | fail "p_ne"
  k_with "p_py" => first | (first | decide +kernel | exact py_pow (by omega) | exact root_py (by with_reducible assumption) | exact py_of (k := 20) (by decide) (by omega) | exact py_of (k := 60) (by decide) (by omega)) | fail "p_py"
  k_with "binaryOp FloorDiv int int" => first | ((k_here; (with_reducible refine floordiv_int ?kbe ?_ (Or.inl (PyProof.noPylong_of_log2 ?kbp))); (case kbe => walk_at "p_ne"); (case kbp => walk_at "p_py"))) | fail "binaryOp FloorDiv int int"
  k_with "binaryOp Mod int int" => first | ((k_here; (with_reducible refine mod_int' ?kbe ?_); (case kbe => walk_at "p_ne"))) | fail "binaryOp Mod int int"
  k_with "binaryOp Mult int int" => first | ((k_here; first | (with_reducible refine mul_int ?_ (PySem.IntMulOk.of_left (PySem.intBits_le_64 ?kma ?kmb)); (case kma => omega); (case kmb => omega)) | (with_reducible refine mul_int ?_ (PySem.IntMulOk.of_right (PySem.intBits_le_64 ?kma ?kmb)); (case kma => omega); (case kmb => omega)))) | fail "binaryOp Mult int int"
  k_with "binaryOp Pow int int" => first | ((k_here; (with_reducible refine pow_int_small ?kb1 ?kb2 ?kb3 ?_); (case kb1 => omega); (case kb2 => omega); (case kb3 => decide))) | fail "binaryOp Pow int int"
  k_with "k_ne" => first | (first | exact not_at (by with_reducible assumption) (by k_mem) (fun hh9 => absurd (Value.type.inj hh9) (by decide)) | exact not_at' (by with_reducible assumption) (by k_mem) (fun hh9 => absurd (Value.type.inj hh9) (by decide)) | fail "k_ne") | fail "k_ne"
  k_with "p_sm" => first | (first | exact Dealt.sm (by with_reducible assumption) | (with_reducible refine mk_sm ?zmk_sm0 ?zmk_sm1; (case zmk_sm0 => walk_at "p_room"); (case zmk_sm1 => omega)) | (with_reducible refine wh_sm ?zwh_sm0 ?zwh_sm1 ?zwh_sm2; (case zwh_sm0 => with_reducible assumption); (case zwh_sm1 => omega); (case zwh_sm2 => omega)) | (with_reducible refine rd_sm ?zrd_sm0 ?zrd_sm1 ?zrd_sm2 ?zrd_sm3 ?zrd_sm4; (case zrd_sm0 => with_reducible assumption); (case zrd_sm1 => omega); (case zrd_sm2 => omega); (case zrd_sm3 => omega); (case zrd_sm4 => omega))) | fail "p_sm"
  k_with "p_ex" => first | (first | with_reducible exact ex_yes (by assumption) | with_reducible exact ex_no (by assumption)) | fail "p_ex"
  k_with "p_room" => first | (first | (with_reducible refine room_add ?zroom_add0 ?zroom_add1 ?zroom_add2; (case zroom_add0 => with_reducible assumption); (case zroom_add1 => with_reducible assumption); (case zroom_add2 => omega)) | (with_reducible refine room_add ?zroom_add0 ?zroom_add1 ?zroom_add2; (case zroom_add0 => with_reducible assumption); (case zroom_add1 => exact Dealt.neg (by with_reducible assumption)); (case zroom_add2 => omega)) | (with_reducible refine room_mul ?zroom_mul0 ?zroom_mul1 ?zroom_mul2; (case zroom_mul0 => with_reducible assumption); (case zroom_mul1 => with_reducible assumption); (case zroom_mul2 => omega)) | (with_reducible refine room_div1 ?zroom_div10 ?zroom_div11 ?zroom_div12 ?zroom_div13 ?zroom_div14; (case zroom_div10 => with_reducible assumption); (case zroom_div11 => with_reducible assumption); (case zroom_div12 => omega); (case zroom_div13 => omega); (case zroom_div14 => omega)) | (with_reducible refine room_div2 ?zroom_div20 ?zroom_div21 ?zroom_div22 ?zroom_div23 ?zroom_div24; (case zroom_div20 => with_reducible assumption); (case zroom_div21 => with_reducible assumption); (case zroom_div22 => omega); (case zroom_div23 => omega); (case zroom_div24 => omega)) | (with_reducible refine room_dvC ?zroom_dvC0 ?zroom_dvC1 ?zroom_dvC2 ?zroom_dvC3 ?zroom_dvC4; (case zroom_dvC0 => with_reducible assumption); (case zroom_dvC1 => with_reducible assumption); (case zroom_dvC2 => omega); (case zroom_dvC3 => omega); (case zroom_dvC4 => omega)) | (with_reducible refine rt_roomP ?zrt_roomP0 ?zrt_roomP1 ?zrt_roomP2 ?zrt_roomP3; (case zrt_roomP0 => with_reducible assumption); (case zrt_roomP1 => omega); (case zrt_roomP2 => omega); (case zrt_roomP3 => omega)) | (with_reducible refine rt_room ?zrt_room0 ?zrt_room1 ?zrt_room2 ?zrt_room3 ?zrt_room4; (case zrt_room0 => with_reducible assumption); (case zrt_room1 => omega); (case zrt_room2 => omega); (case zrt_room3 => omega); (case zrt_room4 => omega))) | fail "p_room"
  k_with "p_le" => first | (first | (with_reducible refine mono_add ?zmono_add0 ?zmono_add1 ?zmono_add2 ?zmono_add3 ?zmono_add4 ?zmono_add5; (case zmono_add0 => with_reducible assumption); (case zmono_add1 => with_reducible assumption); (case zmono_add2 => with_reducible assumption); (case zmono_add3 => walk_at "p_ex"); (case zmono_add4 => omega); (case zmono_add5 => omega)) | (with_reducible refine mono_sub1 ?zmono_sub10 ?zmono_sub11 ?zmono_sub12 ?zmono_sub13 ?zmono_sub14 ?zmono_sub15; (case zmono_sub10 => with_reducible assumption); (case zmono_sub11 => with_reducible assumption); (case zmono_sub12 => with_reducible assumption); (case zmono_sub13 => walk_at "p_ex"); (case zmono_sub14 => omega); (case zmono_sub15 => omega)) | (with_reducible refine mono_sub2 ?zmono_sub20 ?zmono_sub21 ?zmono_sub22 ?zmono_sub23 ?zmono_sub24 ?zmono_sub25; (case zmono_sub20 => with_reducible assumption); (case zmono_sub21 => with_reducible assumption); (case zmono_sub22 => with_reducible assumption); (case zmono_sub23 => walk_at "p_ex"); (case zmono_sub24 => omega); (case zmono_sub25 => omega)) | (with_reducible refine mono_wh ?zmono_wh0 ?zmono_wh1 ?zmono_wh2 ?zmono_wh3 ?zmono_wh4; (case zmono_wh0 => with_reducible assumption); (case zmono_wh1 => with_reducible assumption); (case zmono_wh2 => walk_at "p_ex"); (case zmono_wh3 => omega); (case zmono_wh4 => omega)) | (with_reducible refine mono_rd ?zmono_rd0 ?zmono_rd1 ?zmono_rd2 ?zmono_rd3 ?zmono_rd4 ?zmono_rd5 ?zmono_rd6; (case zmono_rd0 => with_reducible assumption); (case zmono_rd1 => with_reducible assumption); (case zmono_rd2 => walk_at "p_ex"); (case zmono_rd3 => omega); (case zmono_rd4 => omega); (case zmono_rd5 => omega); (case zmono_rd6 => omega)) | (with_reducible refine mono_mul ?zmono_mul0 ?zmono_mul1 ?zmono_mul2 ?zmono_mul3 ?zmono_mul4 ?zmono_mul5 ?zmono_mul6; (case zmono_mul0 => with_reducible assumption); (case zmono_mul1 => with_reducible assumption); (case zmono_mul2 => with_reducible assumption); (case zmono_mul3 => walk_at "p_ex"); (case zmono_mul4 => omega); (case zmono_mul5 => omega); (case zmono_mul6 => omega)) | (with_reducible refine mono_div ?zmono_div0 ?zmono_div1 ?zmono_div2 ?zmono_div3 ?zmono_div4 ?zmono_div5 ?zmono_div6; (case zmono_div0 => with_reducible assumption); (case zmono_div1 => with_reducible assumption); (case zmono_div2 => with_reducible assumption); (case zmono_div3 => walk_at "p_ex"); (case zmono_div4 => omega); (case zmono_div5 => omega); (case zmono_div6 => omega)) | (with_reducible refine mono_rt ?zmono_rt0 ?zmono_rt1 ?zmono_rt2 ?zmono_rt3 ?zmono_rt4 ?zmono_rt5; (case zmono_rt0 => with_reducible assumption); (case zmono_rt1 => with_reducible assumption); (case zmono_rt2 => walk_at "p_ex"); (case zmono_rt3 => omega); (case zmono_rt4 => omega); (case zmono_rt5 => omega))) | fail "p_le"
  k_with "p_dec" => first | (first | exact dec_news (by assumption) (by k_mem) | exact dec_rep (by with_reducible assumption) (by assumption) (by assumption) (by k_mem)) | fail "p_dec"
  k_with "p_decl" => first | (first | exact decL_mem (by k_mem) | exact decL_rep (by with_reducible assumption) (by k_mem) | fail "p_decl") | fail "p_decl"
  k_with "k_mem" => first | (first | exact memL (by with_reducible assumption) | fail "k_mem") | fail "k_mem"
  k_with "p_ex" => first | (with_reducible assumption) | fail "p_ex"
  k_with "call ref" => first | ((k_here; k_dflt (refine' use_F (c_root _ _ _ _ _) ?k1 ?k2 ?k3 ?k4 ?k5 ?kK ?kd ?ku ?kp ?_; (case k1 => k_asm); (case k2 => k_asm); (case k3 => k_asm); (case k4 => k_asm); (case k5 => k_asm); (case kK => first | exact rfl | assumption); (case kd => ktr_room); (case ku => ktr_units); (case kp => first | trivial | ((try dsimp only); exact ⟨(by walk_at "p_dec"), (by walk_at "p_sm"), by omega, by omega, by omega, by omega, by first | assumption | walk_at "p_room", by first | assumption | walk_at "p_room"⟩)); intro D9 t9 u9 h9 tk9 F9 N9 hne9; (try dsimp only); (try k_fold)))) | fail "call ref"
  have kMark9 := kstMark
  revert X
  k_fill
  intro X
  conv => arg 3; arg 1; whnf
  unfold lawEnv
  conv => arg 3; arg 2; arg 2; whnf
  conv => arg 2; arg 5; whnf
  have hq1 := h1.bd
  have hq2 := h2.bd
  have hq3 := low_high h1 h2 hl
  k_steps
  all_goals first
    | exact retP_none ret (by assumption) (by assumption) ho
    | exact retP_app ret (by assumption) (by assumption) (by k_ne) (by k_ne) (by k_ne) ho (decL_mem (by k_mem)) (decL_mem (by k_mem)) (by walk_at "p_sm") (by walk_at "p_sm") (by walk_at "p_le")
    | fail "end"
end
section

theorem t_turn {w mean mg mb} (dp un : Nat) (gd : Option (List Code)) (a : Addr) (ccd : Value) (outer : List Env) (A₀ : Around) (base h₀ : Heap) (L : Addr) (rest : Str → Option Value) (s : Shared) (Q : Flow → Shared → Prop) (E : Value → Shared → Prop)
    (B : Below A₀ base outer h₀) (X : (hd.heap_39 w.params).In h₀) (T : Top hd.view_39 (looseW hd.view_39 [Str.ofString "BasicError"]) mean mg mb h₀) (hdp : dp + 20 < recursionLimit) (hun : un + 200 < cLine) (m : Str → Option Value) (P D1 D2 : Addr) (x1 e1 x2 e2 : Int) (n : Nat) (news : List (Addr × Obj))
    (F : Fr h₀ L s.heap m) (N : News h₀ L s.heap news) (hP : (P, ({ cls := .type "tuple", data := .seq #[.ref D1, .ref D2] n } : Obj)) ∈ news) (d1 : DecL h₀ news D1 x1 e1) (d2 : DecL h₀ news D2 x2 e2) (s1 : Sm x1 e1) (s2 : Sm x2 e2) (hle : Le2 x1 e1 x2 e2)
    (ret : ∀ h' tk', Fr h₀ L h' (fun y => if y = Str.ofString "there" then some (.ref D2) else if y = Str.ofString "here" then some (.ref D1) else m y) → News h₀ L h' news → Q .next { s with heap := h', toks := tk' }) :
    wpAny (model PySem.Challenge.rw_pq0162_01.row.prog w) (ktrTop dp un gd (Str.ofString "law") lawScope L a ccd [] outer) (assign (tgtOf (nthS loopBody 11)) (lawEnv L a ccd) (.ref P))
      (fun _ s₂ => wpAny (model PySem.Challenge.rw_pq0162_01.row.prog w) (ktrTop dp un gd (Str.ofString "law") lawScope L a ccd [] outer) (execs (bodyOf (nthS loopBody 11)) (lawEnv L a ccd)) Q E s₂) E s := by
  k_with_none
  k_with "p_enter" => first | ((refine' enter_pure ?k1 ?k2 ?k3 ?k5 ?kA ?kF ?kK ?k6 ?k7 ?k8 ?k9 ?kB ?_ ?c2 ?c3 ?c4 ?c5; (case kA => exact rfl); (case kF => exact rfl); (case kK => assumption); (case k1 => k_asm); (case k2 => k_asm); (case k3 => k_asm); (case k5 => k_asm); (case k6 => k_is); (case k7 => k_is); (case k8 => ktr_room); (case k9 => exact BindsTo.of_eq rfl); (case c5 => decide); (case kB => exact locs rfl); (case c2 => exact rfl); (case c3 => exact rfl); (case c4 => exact rfl); k_whole; intro L' h' F' N' B' X' T'; (try dsimp only); (try k_fold))) | fail "p_enter"
  k_with "h_enter" => first | ((refine' enter_hand ?k1 ?k2 ?kN ?k3 ?k5 ?kA ?kF ?kK ?k6 ?k7 ?k8 ?k9 ?kB ?_ ?c2 ?c3 ?c4 ?c5; (case kA => exact rfl); (case kF => exact rfl); (case kK => assumption); (case k1 => k_asm); (case k2 => k_asm); (case kN => k_asm); (case k3 => k_asm); (case k5 => k_asm); (case k6 => k_is); (case k7 => k_is); (case k8 => ktr_room); (case k9 => exact BindsTo.of_eq rfl); (case c5 => decide); (case kB => exact locs rfl); (case c2 => exact rfl); (case c3 => exact rfl); (case c4 => exact rfl); k_whole)) | fail "h_enter"
  k_with "subscriptTail" => first | ((k_here; (with_reducible show wpAny _ _ (subscriptTail _ _ (Value.ref _) (Value.int _ _)) _ _ _); k_dflt (refine' item_tupleT ?t ?a ?b ?c ?d ?_; (case t => exact Fr.tup (by assumption) (by assumption)); (case a => decide); (case b => decide); (case c => rfl); (case d => rfl); k_whole))) | fail "subscriptTail"
  k_with "k_ne" => first | (first | exact ne_all (by with_reducible assumption) (by k_mem) | exact ne_all' (by with_reducible assumption) (by k_mem) | fail "k_ne") | fail "k_ne"
  k_with "p_sm" => first | (first | with_reducible assumption | exact Sm.neg (by with_reducible assumption) | exact sm_lit (by omega) (by omega) (by omega) (by omega)) | fail "p_sm"
  k_with "p_room" => first | (first | with_reducible assumption | exact (‹(_ : Int) < 0 → Room _ _ _›) (by with_reducible assumption) | exact rd_room1 (by with_reducible assumption) (by with_reducible assumption) (by with_reducible assumption) (by first | exact .inl rfl | exact .inr rfl) | exact rd_room2 (by with_reducible assumption) (by with_reducible assumption) (by with_reducible assumption) (by first | exact .inl rfl | exact .inr rfl)) | fail "p_room"
  k_with "p_half" => first | (first | with_reducible exact half_gt (by with_reducible assumption) | with_reducible exact half_tie (by with_reducible assumption) (by with_reducible assumption) | with_reducible exact half_lt (by with_reducible assumption) (by with_reducible assumption) | with_reducible exact half_even (by with_reducible assumption) (by with_reducible assumption)) | fail "p_half"
  k_with "p_rd" => first | (first | exact dec_eq (dec_base (by assumption) (by with_reducible assumption)) ⟨rd_sameX (.inl (by with_reducible assumption)), rd_sameE (.inl (by with_reducible assumption))⟩ | exact dec_eq (dec_base (by assumption) (by with_reducible assumption)) ⟨rd_sameX (.inr (by with_reducible assumption)), rd_sameE (.inr (by with_reducible assumption))⟩ | exact dec_eq (dec_news (by assumption) (by k_mem)) (rd_pos (by with_reducible assumption) (by with_reducible assumption) (by walk_at "p_half") (by with_reducible assumption) (by with_reducible assumption)) | exact dec_eq (dec_news (by assumption) (by k_mem)) (rd_neg (by with_reducible assumption) (by with_reducible assumption) (by walk_at "p_half") (by with_reducible assumption) (by with_reducible assumption)) | exact dec_eq ⟨_, _, tupK (Frag.In.keeps (by assumption) (Fr.keep (by assumption))) (by k_is)⟩ (rd_zero (by with_reducible assumption) (by with_reducible assumption) (by walk_at "p_half") (by with_reducible assumption))) | fail "p_rd"
  k_with "p_ne" => first | (first | exact pow10_ne _ | with_reducible assumption | exact root_ne (by with_reducible assumption) | omega) | fail "p_ne"
  k_with "p_py" => first | (first | decide +kernel | exact py_pow (by omega) | exact root_py (by with_reducible assumption) | exact py_of (k := 20) (by decide) (by omega) | exact py_of (k := 60) (by decide) (by omega)) | fail "p_py"
  k_with "binaryOp FloorDiv int int" => first | ((k_here; (with_reducible refine floordiv_int ?kbe ?_ (Or.inl (PyProof.noPylong_of_log2 ?kbp))); (case kbe => walk_at "p_ne"); (case kbp => walk_at "p_py"))) | fail "binaryOp FloorDiv int int"
  k_with "binaryOp Mod int int" => first | ((k_here; (with_reducible refine mod_int' ?kbe ?_); (case kbe => walk_at "p_ne"))) | fail "binaryOp Mod int int"
  k_with "binaryOp Mult int int" => first | ((k_here; first | (with_reducible refine mul_int ?_ (PySem.IntMulOk.of_left (PySem.intBits_le_64 ?kma ?kmb)); (case kma => omega); (case kmb => omega)) | (with_reducible refine mul_int ?_ (PySem.IntMulOk.of_right (PySem.intBits_le_64 ?kma ?kmb)); (case kma => omega); (case kmb => omega)))) | fail "binaryOp Mult int int"
  k_with "binaryOp Pow int int" => first | ((k_here; (with_reducible refine pow_int_small ?kb1 ?kb2 ?kb3 ?_); (case kb1 => omega); (case kb2 => omega); (case kb3 => decide))) | fail "binaryOp Pow int int"
  k_with "k_ne" => first | (first | exact not_at (by with_reducible assumption) (by k_mem) (fun hh9 => absurd (Value.type.inj hh9) (by decide)) | exact not_at' (by with_reducible assumption) (by k_mem) (fun hh9 => absurd (Value.type.inj hh9) (by decide)) | fail "k_ne") | fail "k_ne"
  k_with "p_sm" => first | (first | exact Dealt.sm (by with_reducible assumption) | (with_reducible refine mk_sm ?zmk_sm0 ?zmk_sm1; (case zmk_sm0 => walk_at "p_room"); (case zmk_sm1 => omega)) | (with_reducible refine wh_sm ?zwh_sm0 ?zwh_sm1 ?zwh_sm2; (case zwh_sm0 => with_reducible assumption); (case zwh_sm1 => omega); (case zwh_sm2 => omega)) | (with_reducible refine rd_sm ?zrd_sm0 ?zrd_sm1 ?zrd_sm2 ?zrd_sm3 ?zrd_sm4; (case zrd_sm0 => with_reducible assumption); (case zrd_sm1 => omega); (case zrd_sm2 => omega); (case zrd_sm3 => omega); (case zrd_sm4 => omega))) | fail "p_sm"
  k_with "p_ex" => first | (first | with_reducible exact ex_yes (by assumption) | with_reducible exact ex_no (by assumption)) | fail "p_ex"
  k_with "p_room" => first | (first | (with_reducible refine room_add ?zroom_add0 ?zroom_add1 ?zroom_add2; (case zroom_add0 => with_reducible assumption); (case zroom_add1 => with_reducible assumption); (case zroom_add2 => omega)) | (with_reducible refine room_add ?zroom_add0 ?zroom_add1 ?zroom_add2; (case zroom_add0 => with_reducible assumption); (case zroom_add1 => exact Dealt.neg (by with_reducible assumption)); (case zroom_add2 => omega)) | (with_reducible refine room_mul ?zroom_mul0 ?zroom_mul1 ?zroom_mul2; (case zroom_mul0 => with_reducible assumption); (case zroom_mul1 => with_reducible assumption); (case zroom_mul2 => omega)) | (with_reducible refine room_div1 ?zroom_div10 ?zroom_div11 ?zroom_div12 ?zroom_div13 ?zroom_div14; (case zroom_div10 => with_reducible assumption); (case zroom_div11 => with_reducible assumption); (case zroom_div12 => omega); (case zroom_div13 => omega); (case zroom_div14 => omega)) | (with_reducible refine room_div2 ?zroom_div20 ?zroom_div21 ?zroom_div22 ?zroom_div23 ?zroom_div24; (case zroom_div20 => with_reducible assumption); (case zroom_div21 => with_reducible assumption); (case zroom_div22 => omega); (case zroom_div23 => omega); (case zroom_div24 => omega)) | (with_reducible refine room_dvC ?zroom_dvC0 ?zroom_dvC1 ?zroom_dvC2 ?zroom_dvC3 ?zroom_dvC4; (case zroom_dvC0 => with_reducible assumption); (case zroom_dvC1 => with_reducible assumption); (case zroom_dvC2 => omega); (case zroom_dvC3 => omega); (case zroom_dvC4 => omega)) | (with_reducible refine rt_roomP ?zrt_roomP0 ?zrt_roomP1 ?zrt_roomP2 ?zrt_roomP3; (case zrt_roomP0 => with_reducible assumption); (case zrt_roomP1 => omega); (case zrt_roomP2 => omega); (case zrt_roomP3 => omega)) | (with_reducible refine rt_room ?zrt_room0 ?zrt_room1 ?zrt_room2 ?zrt_room3 ?zrt_room4; (case zrt_room0 => with_reducible assumption); (case zrt_room1 => omega); (case zrt_room2 => omega); (case zrt_room3 => omega); (case zrt_room4 => omega))) | fail "p_room"
  k_with "p_le" => first | (first | (with_reducible refine mono_add ?zmono_add0 ?zmono_add1 ?zmono_add2 ?zmono_add3 ?zmono_add4 ?zmono_add5; (case zmono_add0 => with_reducible assumption); (case zmono_add1 => with_reducible assumption); (case zmono_add2 => with_reducible assumption); (case zmono_add3 => walk_at "p_ex"); (case zmono_add4 => omega); (case zmono_add5 => omega)) | (with_reducible refine mono_sub1 ?zmono_sub10 ?zmono_sub11 ?zmono_sub12 ?zmono_sub13 ?zmono_sub14 ?zmono_sub15; (case zmono_sub10 => with_reducible assumption); (case zmono_sub11 => with_reducible assumption); (case zmono_sub12 => with_reducible assumption); (case zmono_sub13 => walk_at "p_ex"); (case zmono_sub14 => omega); (case zmono_sub15 => omega)) | (with_reducible refine mono_sub2 ?zmono_sub20 ?zmono_sub21 ?zmono_sub22 ?zmono_sub23 ?zmono_sub24 ?zmono_sub25; (case zmono_sub20 => with_reducible assumption); (case zmono_sub21 => with_reducible assumption); (case zmono_sub22 => with_reducible assumption); (case zmono_sub23 => walk_at "p_ex"); (case zmono_sub24 => omega); (case zmono_sub25 => omega)) | (with_reducible refine mono_wh ?zmono_wh0 ?zmono_wh1 ?zmono_wh2 ?zmono_wh3 ?zmono_wh4; (case zmono_wh0 => with_reducible assumption); (case zmono_wh1 => with_reducible assumption); (case zmono_wh2 => walk_at "p_ex"); (case zmono_wh3 => omega); (case zmono_wh4 => omega)) | (with_reducible refine mono_rd ?zmono_rd0 ?zmono_rd1 ?zmono_rd2 ?zmono_rd3 ?zmono_rd4 ?zmono_rd5 ?zmono_rd6; (case zmono_rd0 => with_reducible assumption); (case zmono_rd1 => with_reducible assumption); (case zmono_rd2 => walk_at "p_ex"); (case zmono_rd3 => omega); (case zmono_rd4 => omega); (case zmono_rd5 => omega); (case zmono_rd6 => omega)) | (with_reducible refine mono_mul ?zmono_mul0 ?zmono_mul1 ?zmono_mul2 ?zmono_mul3 ?zmono_mul4 ?zmono_mul5 ?zmono_mul6; (case zmono_mul0 => with_reducible assumption); (case zmono_mul1 => with_reducible assumption); (case zmono_mul2 => with_reducible assumption); (case zmono_mul3 => walk_at "p_ex"); (case zmono_mul4 => omega); (case zmono_mul5 => omega); (case zmono_mul6 => omega)) | (with_reducible refine mono_div ?zmono_div0 ?zmono_div1 ?zmono_div2 ?zmono_div3 ?zmono_div4 ?zmono_div5 ?zmono_div6; (case zmono_div0 => with_reducible assumption); (case zmono_div1 => with_reducible assumption); (case zmono_div2 => with_reducible assumption); (case zmono_div3 => walk_at "p_ex"); (case zmono_div4 => omega); (case zmono_div5 => omega); (case zmono_div6 => omega)) | (with_reducible refine mono_rt ?zmono_rt0 ?zmono_rt1 ?zmono_rt2 ?zmono_rt3 ?zmono_rt4 ?zmono_rt5; (case zmono_rt0 => with_reducible assumption); (case zmono_rt1 => with_reducible assumption); (case zmono_rt2 => walk_at "p_ex"); (case zmono_rt3 => omega); (case zmono_rt4 => omega); (case zmono_rt5 => omega))) | fail "p_le"
  k_with "p_dec" => first | (first | exact dec_news (by assumption) (by k_mem) | exact dec_rep (by with_reducible assumption) (by assumption) (by assumption) (by k_mem)) | fail "p_dec"
  k_with "p_decl" => first | (first | exact decL_mem (by k_mem) | exact decL_rep (by with_reducible assumption) (by k_mem) | fail "p_decl") | fail "p_decl"
  k_with "k_mem" => first | (first | exact memL (by with_reducible assumption) | fail "k_mem") | fail "k_mem"
  k_with "p_ex" => first | (with_reducible assumption) | fail "p_ex"
  k_with "call ref" => first | ((k_here; k_dflt (refine' use_B (calls_true (c_inorder _ _ _ _ _ _) ?ht) ?k1 ?k2 ?k3 ?k4 ?k5 ?kK ?kd ?ku ?kp ?_; (case k1 => k_asm); (case k2 => k_asm); (case k3 => k_asm); (case k4 => k_asm); (case k5 => k_asm); (case kK => first | exact rfl | assumption); (case kd => ktr_room); (case ku => ktr_units); (case kp => exact ⟨by walk_at "p_dec", by with_reducible assumption, by walk_at "p_dec", by with_reducible assumption, True.intro⟩); (case ht => exact decide_eq_true (show Le2 _ _ _ _ from by with_reducible assumption)); intro h9 tk9 F9 N9; (try dsimp only); (try k_fold)))) | fail "call ref"
  k_with "p_dec" => first | (exact decL_dec (by with_reducible assumption) (by assumption) (by assumption) (fun _ h => h)) | fail "p_dec"
  revert X
  k_fill
  intro X
  conv => arg 3; arg 1; whnf
  conv => arg 4; intro _ s₂; arg 3; arg 1; whnf
  unfold lawEnv
  have hsc : ∃ sc, sc = lawScope := ⟨_, rfl⟩
  conv => arg 3; arg 2; arg 2; whnf
  conv => arg 2; arg 5; whnf
  conv => arg 4; intro _ s₂; arg 3; arg 2; arg 2; whnf
  conv => arg 4; intro _ s₂; arg 2; arg 5; whnf
  k_steps
  all_goals exact ret _ _ (by assumption) (by assumption)
end
section
/-- as M, but for the inner loop's names -/
def MLike (M m : Str → Option Value) : Prop := ∀ y, y ≠ Str.ofString "here" → y ≠ Str.ofString "there" → m y = M y
theorem MLike.turn {M m : Str → Option Value} (h : MLike M m) (a b : Option Value) : MLike M (fun y => if y = Str.ofString "there" then a else if y = Str.ofString "here" then b else m y) := fun y h1 h2 => by
  dsimp only; rw [if_neg h2, if_neg h1]; exact h y h1 h2
theorem MLike.form {M m : Str → Option Value} (h : MLike M m) : m = fun y => if y = Str.ofString "there" then m (Str.ofString "there") else if y = Str.ofString "here" then m (Str.ofString "here") else M y := by
  funext y
  by_cases h1 : y = Str.ofString "there"
  · rw [if_pos h1, h1]
  · rw [if_neg h1]
    by_cases h2 : y = Str.ofString "here"
    · rw [if_pos h2, h2]
    · rw [if_neg h2]; exact h y h2 h1

section
variable {w : World} {mean : ExcName → Option Value} {mg mb : Str → Option Value} (dp un : Nat) (gd : Option (List Code)) (a : Addr) (ccd : Value) (outer : List Env) (A₀ : Around) (base h₀ : Heap) (L : Addr) (s : Shared) (Q : Flow → Shared → Prop) (E : Value → Shared → Prop)
    (B : Below A₀ base outer h₀) (X : (hd.heap_39 w.params).In h₀) (T : Top hd.view_39 (looseW hd.view_39 [Str.ofString "BasicError"]) mean mg mb h₀) (hdp : dp + 20 < recursionLimit) (hun : un + 200 < cLine)
include B X T hdp hun
theorem t_items (M : Str → Option Value) (Df I : Addr) (lo : Obj) (tl : List (Addr × Obj)) (hI : ∀ p ∈ (Df, lo) :: tl, p.1 < I)
    (ret : ∀ h' tk' m', Fr h₀ L h' m' → MLike M m' → News h₀ L h' ((Df, lo) :: tl) → Q .next { s with heap := h', toks := tk' }) :
    ∀ (vs : List Value) (m : Str → Option Value), (∀ v ∈ vs, PairOk h₀ tl v) → MLike M m →
      ItemsRest PySem.Challenge.rw_pq0162_01.row.prog w (ktrTop dp un gd (Str.ofString "law") lawScope L a ccd [] outer) E h₀ (lawEnv L a ccd) (tgtOf (nthS loopBody 11)) (bodyOf (nthS loopBody 11)) Q s [(I, "list_iterator")] [(Df, lo)] (vs.map .val) m ((Df, lo) :: tl)
  | [], m, _, hm => ItemsRest.zero fun h tk F N => ret h tk m F hm N
  | v :: vs, m, hv, hm => by
    obtain ⟨P, D1, x1, e1, D2, x2, e2, n, rfl, hP, d1, d2, s1, s2, l⟩ := hv v (.head _)
    refine ItemsRest.val (fun h tk F => AllObj.cons (fun o ho => AllObj.nil (fun N => ?_)))
    have hsub : ∀ q ∈ tl, q ∈ (I, o) :: (Df, lo) :: tl := fun q hq => .tail _ (.tail _ hq)
    refine t_turn (w := w) (mean := mean) (mg := mg) (mb := mb) dp un gd a ccd outer A₀ base h₀ L (fun _ => none) _ _ E B X T hdp hun m P D1 D2 x1 e1 x2 e2 n _ F N (hsub _ hP) (d1.sub hsub) (d2.sub hsub) s1 s2 l (fun h' tk' F' N' => ?_)
    refine ⟨h', tk', _, (Df, lo) :: tl, rfl, F', N', fun p hp q hq => ?_, ⟨⟨.head _, trivial⟩, t_items M Df I lo tl hI ret vs _ (fun v hv' => hv v (.tail _ hv')) (hm.turn _ _)⟩⟩
    rw [List.mem_singleton.mp hq]
    exact Nat.ne_of_lt (hI p hp)

theorem t_pairs (hE : PassesOwn (model PySem.Challenge.rw_pq0162_01.row.prog w) (ktrTop dp un gd (Str.ofString "law") lawScope L a ccd [] outer) (lawEnv L a ccd) E) (M : Str → Option Value) (Df : Addr) (ps : List Value) (nf : Nat) (tl : List (Addr × Obj)) (hM : M (Str.ofString "found") = some (.ref Df)) (F : Fr h₀ L s.heap M) (N : News h₀ L s.heap ((Df, listOf ps.toArray nf) :: tl)) (hps : ∀ v ∈ ps, PairOk h₀ tl v)
    (ret : ∀ h' tk' m', Fr h₀ L h' m' → MLike M m' → News h₀ L h' ((Df, listOf ps.toArray nf) :: tl) → Q .next { s with heap := h', toks := tk' }) :
    wpAny (model PySem.Challenge.rw_pq0162_01.row.prog w) (ktrTop dp un gd (Str.ofString "law") lawScope L a ccd [] outer) (exec (nthS loopBody 11) (lawEnv L a ccd)) Q E s := by
  refine For_turns (h₀ := h₀) (target := tgtOf (nthS loopBody 11)) (body := bodyOf (nthS loopBody 11)) F ?_ (hE := hE)
  refine ld F hM ?_
  refine iter_listTurns rfl F N (.head _) rfl rfl (fun I hI => ?_)
  exact t_items (w := w) (mean := mean) (mg := mg) (mb := mb) dp un gd a ccd outer A₀ base h₀ L s Q E B X T hdp hun M Df I _ tl hI ret ps M hps (fun _ _ _ => rfl)
end
end
section

theorem t_again {w mean mg mb} (dp un : Nat) (gd : Option (List Code)) (a : Addr) (ccd : Value) (outer : List Env) (A₀ : Around) (base h₀ : Heap) (L : Addr) (rest : Str → Option Value) (s : Shared) (Q : Flow → Shared → Prop) (E : Value → Shared → Prop)
    (B : Below A₀ base outer h₀) (X : (hd.heap_39 w.params).In h₀) (T : Top hd.view_39 (looseW hd.view_39 [Str.ofString "BasicError"]) mean mg mb h₀) (hdp : dp + 20 < recursionLimit) (hun : un + 200 < cLine) (A Bd Cd Df : Addr) (pv : Value) (x1 e1 x2 e2 x3 e3 d p : Int) (t1 u1 t2 u2 t3 u3 tp td : Tok) (h1 : Dealt x1 e1) (h2 : Dealt x2 e2) (h3 : Dealt x3 e3) (hl : Ex2 x1 e1 x2 e2) (hd1 : 3 ≤ d) (hd2 : d ≤ 5) (hp1 : -2 ≤ p) (hp2 : p ≤ 2) (o1 o2 : Option Value) (P0 P1 P2 P3 P4 D3a D3b D4a D4b : Addr) (n3 n4 nf : Nat) (more : List Value) (tl : List (Addr × Obj)) (hps : more.length ≤ 100)
    (F : Fr h₀ L s.heap (fun y => if y = Str.ofString "there" then o2 else if y = Str.ofString "here" then o1 else if y = Str.ofString "found" then some (.ref Df) else if y = Str.ofString "high" then some (.ref Bd) else if y = Str.ofString "low" then some (.ref A) else if y = Str.ofString "places" then some (.int p tp) else if y = Str.ofString "third" then some (.ref Cd) else if y = Str.ofString "pair" then some (pv) else if y = Str.ofString "digits" then some (.int d td) else rest y)) (N : News h₀ L s.heap ((Df, listOf (Value.ref P0 :: Value.ref P1 :: Value.ref P2 :: Value.ref P3 :: Value.ref P4 :: more).toArray nf) :: tl)) (hA : (A, tup2 x1 t1 e1 u1) ∈ tl) (hB : (Bd, tup2 x2 t2 e2 u2) ∈ tl) (hC : (Cd, tup2 x3 t3 e3 u3) ∈ tl)
    (hP3 : (P3, ({ cls := .type "tuple", data := .seq #[.ref D3a, .ref D3b] n3 } : Obj)) ∈ tl) (hP4 : (P4, ({ cls := .type "tuple", data := .seq #[.ref D4a, .ref D4b] n4 } : Obj)) ∈ tl)
    (d3 : DecL h₀ tl D3b (whX x2 e2 d) (whE x2 e2 d)) (d4 : DecL h₀ tl D4a (rdX x1 e1 p d) (rdE x1 e1 p d))
    (ret : ∀ h' tk' v, Fr h₀ L h' (fun y => if y = Str.ofString "again" then some v else if y = Str.ofString "there" then o2 else if y = Str.ofString "here" then o1 else if y = Str.ofString "found" then some (.ref Df) else if y = Str.ofString "high" then some (.ref Bd) else if y = Str.ofString "low" then some (.ref A) else if y = Str.ofString "places" then some (.int p tp) else if y = Str.ofString "third" then some (.ref Cd) else if y = Str.ofString "pair" then some (pv) else if y = Str.ofString "digits" then some (.int d td) else rest y) → News h₀ L h' ((Df, listOf (Value.ref P0 :: Value.ref P1 :: Value.ref P2 :: Value.ref P3 :: Value.ref P4 :: more).toArray nf) :: tl) → Q .next { s with heap := h', toks := tk' }) :
    wpAny (model PySem.Challenge.rw_pq0162_01.row.prog w) (ktrTop dp un gd (Str.ofString "law") lawScope L a ccd [] outer) (execs [nthS loopBody 12, nthS loopBody 13] (lawEnv L a ccd)) Q E s := by
  k_with_none
  k_with "p_enter" => first | ((refine' enter_pure ?k1 ?k2 ?k3 ?k5 ?kA ?kF ?kK ?k6 ?k7 ?k8 ?k9 ?kB ?_ ?c2 ?c3 ?c4 ?c5; (case kA => exact rfl); (case kF => exact rfl); (case kK => assumption); (case k1 => k_asm); (case k2 => k_asm); (case k3 => k_asm); (case k5 => k_asm); (case k6 => k_is); (case k7 => k_is); (case k8 => ktr_room); (case k9 => exact BindsTo.of_eq rfl); (case c5 => decide); (case kB => exact locs rfl); (case c2 => exact rfl); (case c3 => exact rfl); (case c4 => exact rfl); k_whole; intro L' h' F' N' B' X' T'; (try dsimp only); (try k_fold))) | fail "p_enter"
  k_with "h_enter" => first | ((refine' enter_hand ?k1 ?k2 ?kN ?k3 ?k5 ?kA ?kF ?kK ?k6 ?k7 ?k8 ?k9 ?kB ?_ ?c2 ?c3 ?c4 ?c5; (case kA => exact rfl); (case kF => exact rfl); (case kK => assumption); (case k1 => k_asm); (case k2 => k_asm); (case kN => k_asm); (case k3 => k_asm); (case k5 => k_asm); (case k6 => k_is); (case k7 => k_is); (case k8 => ktr_room); (case k9 => exact BindsTo.of_eq rfl); (case c5 => decide); (case kB => exact locs rfl); (case c2 => exact rfl); (case c3 => exact rfl); (case c4 => exact rfl); k_whole)) | fail "h_enter"
  k_with "subscriptTail" => first | ((k_here; (with_reducible show wpAny _ _ (subscriptTail _ _ (Value.ref _) (Value.int _ _)) _ _ _); k_dflt (refine' item_tupleT ?t ?a ?b ?c ?d ?_; (case t => exact Fr.tup (by assumption) (by assumption)); (case a => decide); (case b => decide); (case c => rfl); (case d => rfl); k_whole))) | fail "subscriptTail"
  k_with "k_ne" => first | (first | exact ne_all (by with_reducible assumption) (by k_mem) | exact ne_all' (by with_reducible assumption) (by k_mem) | fail "k_ne") | fail "k_ne"
  k_with "p_sm" => first | (first | with_reducible assumption | exact Sm.neg (by with_reducible assumption) | exact sm_lit (by omega) (by omega) (by omega) (by omega)) | fail "p_sm"
  k_with "p_room" => first | (first | with_reducible assumption | exact (‹(_ : Int) < 0 → Room _ _ _›) (by with_reducible assumption) | exact rd_room1 (by with_reducible assumption) (by with_reducible assumption) (by with_reducible assumption) (by first | exact .inl rfl | exact .inr rfl) | exact rd_room2 (by with_reducible assumption) (by with_reducible assumption) (by with_reducible assumption) (by first | exact .inl rfl | exact .inr rfl)) | fail "p_room"
  k_with "p_half" => first | (first | with_reducible exact half_gt (by with_reducible assumption) | with_reducible exact half_tie (by with_reducible assumption) (by with_reducible assumption) | with_reducible exact half_lt (by with_reducible assumption) (by with_reducible assumption) | with_reducible exact half_even (by with_reducible assumption) (by with_reducible assumption)) | fail "p_half"
  k_with "p_rd" => first | (first | exact dec_eq (dec_base (by assumption) (by with_reducible assumption)) ⟨rd_sameX (.inl (by with_reducible assumption)), rd_sameE (.inl (by with_reducible assumption))⟩ | exact dec_eq (dec_base (by assumption) (by with_reducible assumption)) ⟨rd_sameX (.inr (by with_reducible assumption)), rd_sameE (.inr (by with_reducible assumption))⟩ | exact dec_eq (dec_news (by assumption) (by k_mem)) (rd_pos (by with_reducible assumption) (by with_reducible assumption) (by walk_at "p_half") (by with_reducible assumption) (by with_reducible assumption)) | exact dec_eq (dec_news (by assumption) (by k_mem)) (rd_neg (by with_reducible assumption) (by with_reducible assumption) (by walk_at "p_half") (by with_reducible assumption) (by with_reducible assumption)) | exact dec_eq ⟨_, _, tupK (Frag.In.keeps (by assumption) (Fr.keep (by assumption))) (by k_is)⟩ (rd_zero (by with_reducible assumption) (by with_reducible assumption) (by walk_at "p_half") (by with_reducible assumption))) | fail "p_rd"
  k_with "p_ne" => first | (first | exact pow10_ne _ | with_reducible assumption | exact root_ne (by with_reducible assumption) | omega) | fail "p_ne"
  k_with "p_py" => first | (first | decide +kernel | exact py_pow (by omega) | exact root_py (by with_reducible assumption) | exact py_of (k := 20) (by decide) (by omega) | exact py_of (k := 60) (by decide) (by omega)) | fail "p_py"
  k_with "binaryOp FloorDiv int int" => first | ((k_here; (with_reducible refine floordiv_int ?kbe ?_ (Or.inl (PyProof.noPylong_of_log2 ?kbp))); (case kbe => walk_at "p_ne"); (case kbp => walk_at "p_py"))) | fail "binaryOp FloorDiv int int"
  k_with "binaryOp Mod int int" => first | ((k_here; (with_reducible refine mod_int' ?kbe ?_); (case kbe => walk_at "p_ne"))) | fail "binaryOp Mod int int"
  k_with "binaryOp Mult int int" => first | ((k_here; first | (with_reducible refine mul_int ?_ (PySem.IntMulOk.of_left (PySem.intBits_le_64 ?kma ?kmb)); (case kma => omega); (case kmb => omega)) | (with_reducible refine mul_int ?_ (PySem.IntMulOk.of_right (PySem.intBits_le_64 ?kma ?kmb)); (case kma => omega); (case kmb => omega)))) | fail "binaryOp Mult int int"
  k_with "binaryOp Pow int int" => first | ((k_here; (with_reducible refine pow_int_small ?kb1 ?kb2 ?kb3 ?_); (case kb1 => omega); (case kb2 => omega); (case kb3 => decide))) | fail "binaryOp Pow int int"
  k_with "k_ne" => first | (first | exact not_at (by with_reducible assumption) (by k_mem) (fun hh9 => absurd (Value.type.inj hh9) (by decide)) | exact not_at' (by with_reducible assumption) (by k_mem) (fun hh9 => absurd (Value.type.inj hh9) (by decide)) | fail "k_ne") | fail "k_ne"
  k_with "p_sm" => first | (first | exact Dealt.sm (by with_reducible assumption) | (with_reducible refine mk_sm ?zmk_sm0 ?zmk_sm1; (case zmk_sm0 => walk_at "p_room"); (case zmk_sm1 => omega)) | (with_reducible refine wh_sm ?zwh_sm0 ?zwh_sm1 ?zwh_sm2; (case zwh_sm0 => with_reducible assumption); (case zwh_sm1 => omega); (case zwh_sm2 => omega)) | (with_reducible refine rd_sm ?zrd_sm0 ?zrd_sm1 ?zrd_sm2 ?zrd_sm3 ?zrd_sm4; (case zrd_sm0 => with_reducible assumption); (case zrd_sm1 => omega); (case zrd_sm2 => omega); (case zrd_sm3 => omega); (case zrd_sm4 => omega))) | fail "p_sm"
  k_with "p_ex" => first | (first | with_reducible exact ex_yes (by assumption) | with_reducible exact ex_no (by assumption)) | fail "p_ex"
  k_with "p_room" => first | (first | (with_reducible refine room_add ?zroom_add0 ?zroom_add1 ?zroom_add2; (case zroom_add0 => with_reducible assumption); (case zroom_add1 => with_reducible assumption); (case zroom_add2 => omega)) | (with_reducible refine room_add ?zroom_add0 ?zroom_add1 ?zroom_add2; (case zroom_add0 => with_reducible assumption); (case zroom_add1 => exact Dealt.neg (by with_reducible assumption)); (case zroom_add2 => omega)) | (with_reducible refine room_mul ?zroom_mul0 ?zroom_mul1 ?zroom_mul2; (case zroom_mul0 => with_reducible assumption); (case zroom_mul1 => with_reducible assumption); (case zroom_mul2 => omega)) | (with_reducible refine room_div1 ?zroom_div10 ?zroom_div11 ?zroom_div12 ?zroom_div13 ?zroom_div14; (case zroom_div10 => with_reducible assumption); (case zroom_div11 => with_reducible assumption); (case zroom_div12 => omega); (case zroom_div13 => omega); (case zroom_div14 => omega)) | (with_reducible refine room_div2 ?zroom_div20 ?zroom_div21 ?zroom_div22 ?zroom_div23 ?zroom_div24; (case zroom_div20 => with_reducible assumption); (case zroom_div21 => with_reducible assumption); (case zroom_div22 => omega); (case zroom_div23 => omega); (case zroom_div24 => omega)) | (with_reducible refine room_dvC ?zroom_dvC0 ?zroom_dvC1 ?zroom_dvC2 ?zroom_dvC3 ?zroom_dvC4; (case zroom_dvC0 => with_reducible assumption); (case zroom_dvC1 => with_reducible assumption); (case zroom_dvC2 => omega); (case zroom_dvC3 => omega); (case zroom_dvC4 => omega)) | (with_reducible refine rt_roomP ?zrt_roomP0 ?zrt_roomP1 ?zrt_roomP2 ?zrt_roomP3; (case zrt_roomP0 => with_reducible assumption); (case zrt_roomP1 => omega); (case zrt_roomP2 => omega); (case zrt_roomP3 => omega)) | (with_reducible refine rt_room ?zrt_room0 ?zrt_room1 ?zrt_room2 ?zrt_room3 ?zrt_room4; (case zrt_room0 => with_reducible assumption); (case zrt_room1 => omega); (case zrt_room2 => omega); (case zrt_room3 => omega); (case zrt_room4 => omega))) | fail "p_room"
  k_with "p_le" => first | (first | (with_reducible refine mono_add ?zmono_add0 ?zmono_add1 ?zmono_add2 ?zmono_add3 ?zmono_add4 ?zmono_add5; (case zmono_add0 => with_reducible assumption); (case zmono_add1 => with_reducible assumption); (case zmono_add2 => with_reducible assumption); (case zmono_add3 => walk_at "p_ex"); (case zmono_add4 => omega); (case zmono_add5 => omega)) | (with_reducible refine mono_sub1 ?zmono_sub10 ?zmono_sub11 ?zmono_sub12 ?zmono_sub13 ?zmono_sub14 ?zmono_sub15; (case zmono_sub10 => with_reducible assumption); (case zmono_sub11 => with_reducible assumption); (case zmono_sub12 => with_reducible assumption); (case zmono_sub13 => walk_at "p_ex"); (case zmono_sub14 => omega); (case zmono_sub15 => omega)) | (with_reducible refine mono_sub2 ?zmono_sub20 ?zmono_sub21 ?zmono_sub22 ?zmono_sub23 ?zmono_sub24 ?zmono_sub25; (case zmono_sub20 => with_reducible assumption); (case zmono_sub21 => with_reducible assumption); (case zmono_sub22 => with_reducible assumption); (case zmono_sub23 => walk_at "p_ex"); (case zmono_sub24 => omega); (case zmono_sub25 => omega)) | (with_reducible refine mono_wh ?zmono_wh0 ?zmono_wh1 ?zmono_wh2 ?zmono_wh3 ?zmono_wh4; (case zmono_wh0 => with_reducible assumption); (case zmono_wh1 => with_reducible assumption); (case zmono_wh2 => walk_at "p_ex"); (case zmono_wh3 => omega); (case zmono_wh4 => omega)) | (with_reducible refine mono_rd ?zmono_rd0 ?zmono_rd1 ?zmono_rd2 ?zmono_rd3 ?zmono_rd4 ?zmono_rd5 ?zmono_rd6; (case zmono_rd0 => with_reducible assumption); (case zmono_rd1 => with_reducible assumption); (case zmono_rd2 => walk_at "p_ex"); (case zmono_rd3 => omega); (case zmono_rd4 => omega); (case zmono_rd5 => omega); (case zmono_rd6 => omega)) | (with_reducible refine mono_mul ?zmono_mul0 ?zmono_mul1 ?zmono_mul2 ?zmono_mul3 ?zmono_mul4 ?zmono_mul5 ?zmono_mul6; (case zmono_mul0 => with_reducible assumption); (case zmono_mul1 => with_reducible assumption); (case zmono_mul2 => with_reducible assumption); (case zmono_mul3 => walk_at "p_ex"); (case zmono_mul4 => omega); (case zmono_mul5 => omega); (case zmono_mul6 => omega)) | (with_reducible refine mono_div ?zmono_div0 ?zmono_div1 ?zmono_div2 ?zmono_div3 ?zmono_div4 ?zmono_div5 ?zmono_div6; (case zmono_div0 => with_reducible assumption); (case zmono_div1 => with_reducible assumption); (case zmono_div2 => with_reducible assumption); (case zmono_div3 => walk_at "p_ex"); (case zmono_div4 => omega); (case zmono_div5 => omega); (case zmono_div6 => omega)) | (with_reducible refine mono_rt ?zmono_rt0 ?zmono_rt1 ?zmono_rt2 ?zmono_rt3 ?zmono_rt4 ?zmono_rt5; (case zmono_rt0 => with_reducible assumption); (case zmono_rt1 => with_reducible assumption); (case zmono_rt2 => walk_at "p_ex"); (case zmono_rt3 => omega); (case zmono_rt4 => omega); (case zmono_rt5 => omega))) | fail "p_le"
  k_with "p_dec" => first | (first | exact dec_news (by assumption) (by k_mem) | exact dec_rep (by with_reducible assumption) (by assumption) (by assumption) (by k_mem)) | fail "p_dec"
  k_with "p_decl" => first | (first | exact decL_mem (by k_mem) | exact decL_rep (by with_reducible assumption) (by k_mem) | fail "p_decl") | fail "p_decl"
  k_with "k_mem" => first | (first | exact memL (by with_reducible assumption) | fail "k_mem") | fail "k_mem"
  k_with "p_ex" => first | (with_reducible assumption) | fail "p_ex"
  k_with "call ref" => first | ((k_here; k_dflt (refine' use_A (c_whole _ _ _ _ _) ?k1 ?k2 ?k3 ?k4 ?k5 ?kK ?kd ?ku ?kp ?kq ?_; (case k1 => k_asm); (case k2 => k_asm); (case k3 => k_asm); (case k4 => k_asm); (case k5 => k_asm); (case kK => first | exact rfl | assumption); (case kd => ktr_room); (case ku => ktr_units); (case kp => exact ⟨(by walk_at "p_dec"), (by walk_at "p_sm"), by first | exact wh_pre (wh_again (by with_reducible assumption)) | exact room_wh (by with_reducible assumption) (by omega)⟩); (case kq => k_mem); intro D9 q9 o9 h9 tk9 hr9 F9 N9 hn9; (try dsimp only); (try k_fold)))) | fail "call ref"
  k_with "call ref" => first | ((k_here; k_dflt (refine' use_A (c_round _ _ _ _ _ _ _) ?k1 ?k2 ?k3 ?k4 ?k5 ?kK ?kd ?ku ?kp ?kq ?_; (case k1 => k_asm); (case k2 => k_asm); (case k3 => k_asm); (case k4 => k_asm); (case k5 => k_asm); (case kK => first | exact rfl | assumption); (case kd => ktr_room); (case ku => ktr_units); (case kp => exact ⟨(by walk_at "p_dec"), (by walk_at "p_sm"), by first | exact rd_pre (rd_again (by with_reducible assumption)) | exact room_rd (by with_reducible assumption) (by omega) (by omega) (by omega)⟩); (case kq => k_mem); intro D9 q9 o9 h9 tk9 hr9 F9 N9 hn9; (try dsimp only); (try k_fold)))) | fail "call ref"
  k_with "p_dec" => first | (first | exact decL_dec (by with_reducible assumption) (by assumption) (by assumption) (fun q h => .tail _ h) | exact decL_dec (by with_reducible assumption) (by assumption) (by assumption) (fun q h => .tail _ (.tail _ h)) | exact decL_dec (by with_reducible assumption) (by assumption) (by assumption) (fun q h => .tail _ (.tail _ (.tail _ h))) | fail "p_dec") | fail "p_dec"
  k_with "compareOp NotEq ref ref" => first | ((k_here; k_dflt (refine' cmp_ne ?d1 ?d2 ?q ?u ?_; (case d1 => walk_at "p_dec"); (case d2 => walk_at "p_dec"); (case q => first | exact rd_eq (rd_again (by with_reducible assumption)) | exact wh_eq (wh_again (by with_reducible assumption))); (case u => (dsimp only [ktrTop]; omega))))) | fail "compareOp NotEq ref ref"
  have kMark9 := kstMark
  revert X
  k_fill
  intro X
  conv => arg 3; arg 1; arg 1; whnf
  conv => arg 3; arg 1; arg 2; arg 1; whnf
  unfold lawEnv
  conv => arg 3; arg 2; arg 2; whnf
  conv => arg 2; arg 5; whnf
  k_steps
  all_goals first
    | exact ret _ _ _ (by assumption) (by assumption)
    | exact ret _ _ _ (by assumption) (news_drop2 (by assumption))
    | exact ret _ _ _ (by assumption) (news_drop1 (by assumption))
    | fail "end"
end
section
theorem t_tail {w mean mg mb} (dp un : Nat) (gd : Option (List Code)) (a : Addr) (ccd : Value) (outer : List Env) (A₀ : Around) (base h₀ : Heap) (L : Addr) (rest : Str → Option Value) (s : Shared) (Q : Flow → Shared → Prop) (E : Value → Shared → Prop)
    (B : Below A₀ base outer h₀) (X : (hd.heap_39 w.params).In h₀) (T : Top hd.view_39 (looseW hd.view_39 [Str.ofString "BasicError"]) mean mg mb h₀) (hdp : dp + 20 < recursionLimit) (hun : un + 200 < cLine) (hE : PassesOwn (model PySem.Challenge.rw_pq0162_01.row.prog w) (ktrTop dp un gd (Str.ofString "law") lawScope L a ccd [] outer) (lawEnv L a ccd) E) (A Bd Cd : Addr) (pv : Value) (x1 e1 x2 e2 x3 e3 d p : Int) (t1 u1 t2 u2 t3 u3 tp td : Tok) (h1 : Dealt x1 e1) (h2 : Dealt x2 e2) (h3 : Dealt x3 e3) (hl : Ex2 x1 e1 x2 e2) (hd1 : 3 ≤ d) (hd2 : d ≤ 5) (hp1 : -2 ≤ p) (hp2 : p ≤ 2) (tl : List (Addr × Obj))
    (F : Fr h₀ L s.heap (fun y => if y = Str.ofString "high" then some (.ref Bd) else if y = Str.ofString "low" then some (.ref A) else if y = Str.ofString "places" then some (.int p tp) else if y = Str.ofString "third" then some (.ref Cd) else if y = Str.ofString "pair" then some (pv) else if y = Str.ofString "digits" then some (.int d td) else rest y)) (N : News h₀ L s.heap tl) (hA : (A, tup2 x1 t1 e1 u1) ∈ tl) (hB : (Bd, tup2 x2 t2 e2 u2) ∈ tl) (hC : (Cd, tup2 x3 t3 e3 u3) ∈ tl)
    (ret : ∀ h' tk' m', Fr h₀ L h' m' → News h₀ L h' tl → (∀ y, y ≠ Str.ofString "found" → y ≠ Str.ofString "here" → y ≠ Str.ofString "there" → y ≠ Str.ofString "again" → m' y = (fun y => if y = Str.ofString "high" then some (.ref Bd) else if y = Str.ofString "low" then some (.ref A) else if y = Str.ofString "places" then some (.int p tp) else if y = Str.ofString "third" then some (.ref Cd) else if y = Str.ofString "pair" then some (pv) else if y = Str.ofString "digits" then some (.int d td) else rest y) y) → Q .next { s with heap := h', toks := tk' }) :
    wpAny (model PySem.Challenge.rw_pq0162_01.row.prog w) (ktrTop dp un gd (Str.ofString "law") lawScope L a ccd [] outer)
      (execs [nthS loopBody 3, nthS loopBody 4, nthS loopBody 5, nthS loopBody 6, nthS loopBody 7, nthS loopBody 8, nthS loopBody 9, nthS loopBody 10, nthS loopBody 11, nthS loopBody 12, nthS loopBody 13] (lawEnv L a ccd)) Q E s := by
  refine wpAny_execs_cons ?_
  refine t_add (w := w) (mean := mean) (mg := mg) (mb := mb) dp un gd a ccd outer A₀ base h₀ L rest _ _ E B X T hdp hun A Bd Cd pv x1 e1 x2 e2 x3 e3 d p t1 u1 t2 u2 t3 u3 tp td h1 h2 h3 hl hd1 hd2 hp1 hp2 tl F N hA hB hC (fun Df P0 D0 D0' n0 nf0 tl0 h0 k0 F0 N0 s0 o0 hP0 d0 d0' => ?_)
  refine wpAny_execs_cons ?_
  refine t_sub1 (w := w) (mean := mean) (mg := mg) (mb := mb) dp un gd a ccd outer A₀ base h₀ L rest _ _ E B X T hdp hun A Bd Cd Df pv x1 e1 x2 e2 x3 e3 d p t1 u1 t2 u2 t3 u3 tp td h1 h2 h3 hl hd1 hd2 hp1 hp2 [.ref P0] nf0 tl0 (by simp) F0 N0 (s0 _ hA) (s0 _ hB) (s0 _ hC) o0 (fun P1 D1 D1' n1 nf1 tl1 g1 k1 F1 N1 s1 o1 hP1 d1 d1' => ?_)
  refine wpAny_execs_cons ?_
  refine t_sub2 (w := w) (mean := mean) (mg := mg) (mb := mb) dp un gd a ccd outer A₀ base h₀ L rest _ _ E B X T hdp hun A Bd Cd Df pv x1 e1 x2 e2 x3 e3 d p t1 u1 t2 u2 t3 u3 tp td h1 h2 h3 hl hd1 hd2 hp1 hp2 [.ref P0, .ref P1] nf1 tl1 (by simp) F1 N1 (s1 _ (s0 _ hA)) (s1 _ (s0 _ hB)) (s1 _ (s0 _ hC)) o1 (fun P2 D2 D2' n2 nf2 tl2 g2 k2 F2 N2 s2 o2 hP2 d2 d2' => ?_)
  refine wpAny_execs_cons ?_
  have s12 : ∀ q ∈ tl, q ∈ tl2 := fun q h => s2 _ (s1 _ (s0 _ h))
  refine t_wh (w := w) (mean := mean) (mg := mg) (mb := mb) dp un gd a ccd outer A₀ base h₀ L rest _ _ E B X T hdp hun A Bd Cd Df pv x1 e1 x2 e2 x3 e3 d p t1 u1 t2 u2 t3 u3 tp td h1 h2 h3 hl hd1 hd2 hp1 hp2 [.ref P0, .ref P1, .ref P2] nf2 tl2 (by simp) F2 N2 (s12 _ hA) (s12 _ hB) (s12 _ hC) o2 (fun P3 D3 D3' n3 nf3 tl3 g3 k3 F3 N3 s3 o3 hP3 d3 d3' => ?_)
  refine wpAny_execs_cons ?_
  have s13 : ∀ q ∈ tl, q ∈ tl3 := fun q h => s3 _ (s12 _ h)
  refine t_rd (w := w) (mean := mean) (mg := mg) (mb := mb) dp un gd a ccd outer A₀ base h₀ L rest _ _ E B X T hdp hun A Bd Cd Df pv x1 e1 x2 e2 x3 e3 d p t1 u1 t2 u2 t3 u3 tp td h1 h2 h3 hl hd1 hd2 hp1 hp2 [.ref P0, .ref P1, .ref P2, .ref P3] nf3 tl3 (by simp) F3 N3 (s13 _ hA) (s13 _ hB) (s13 _ hC) o3 (fun P4 D4 D4' n4 nf4 tl4 g4 k4 F4 N4 s4 o4 hP4 d4 d4' => ?_)
  have s14 : ∀ q ∈ tl, q ∈ tl4 := fun q h => s4 _ (s13 _ h)
  have ok4 : ∀ v ∈ [Value.ref P0, Value.ref P1, Value.ref P2, Value.ref P3, Value.ref P4], PairOk h₀ tl4 v := by
    have r0 : Room _ _ d := room_add h1 h3 (by omega)
    have r0' : Room _ _ d := room_add h2 h3 (by omega)
    have r1 : Room _ _ d := room_add h1 h3.neg (by omega)
    have r1' : Room _ _ d := room_add h2 h3.neg (by omega)
    have r2 : Room _ _ d := room_add h3 h2.neg (by omega)
    have r2' : Room _ _ d := room_add h3 h1.neg (by omega)
    intro v hv
    simp only [List.mem_cons, List.not_mem_nil, or_false] at hv
    rcases hv with rfl | rfl | rfl | rfl | rfl
    · exact (pair_ok hP0 d0 d0' (mk_sm r0 hd2) (mk_sm r0' hd2) (mono_add h1 h2 h3 hl hd1 hd2)).sub (fun q h => s4 _ (s3 _ (s2 _ (s1 _ h))))
    · exact (pair_ok hP1 d1 d1' (mk_sm r1 hd2) (mk_sm r1' hd2) (mono_sub1 h1 h2 h3 hl hd1 hd2)).sub (fun q h => s4 _ (s3 _ (s2 _ h)))
    · exact (pair_ok hP2 d2 d2' (mk_sm r2 hd2) (mk_sm r2' hd2) (mono_sub2 h1 h2 h3 hl hd1 hd2)).sub (fun q h => s4 _ (s3 _ h))
    · exact (pair_ok hP3 d3 d3' (wh_sm h1 (by omega) hd2) (wh_sm h2 (by omega) hd2) (mono_wh h1 h2 hl hd1 hd2)).sub s4
    · exact pair_ok hP4 d4 d4' (rd_sm h1 hp1 hp2 (by omega) hd2) (rd_sm h2 hp1 hp2 (by omega) hd2) (mono_rd h1 h2 hl hp1 hp2 hd1 hd2)
  refine wpAny_execs_cons ?_
  refine t_mul (w := w) (mean := mean) (mg := mg) (mb := mb) dp un gd a ccd outer A₀ base h₀ L rest _ _ E B X T hdp hun A Bd Cd Df pv x1 e1 x2 e2 x3 e3 d p t1 u1 t2 u2 t3 u3 tp td h1 h2 h3 hl hd1 hd2 hp1 hp2 [.ref P0, .ref P1, .ref P2, .ref P3, .ref P4] nf4 tl4 (by simp) F4 N4 (s14 _ hA) (s14 _ hB) (s14 _ hC) o4 (fun ps5 nf5 tl5 g5 k5 F5 N5 s5 o5 e5 => ?_)
  obtain ⟨m5, rfl, l5, ok5⟩ := e5
  have s15 : ∀ q ∈ tl, q ∈ tl5 := fun q h => s5 _ (s14 _ h)
  refine wpAny_execs_cons ?_
  refine t_div (w := w) (mean := mean) (mg := mg) (mb := mb) dp un gd a ccd outer A₀ base h₀ L rest _ _ E B X T hdp hun A Bd Cd Df pv x1 e1 x2 e2 x3 e3 d p t1 u1 t2 u2 t3 u3 tp td h1 h2 h3 hl hd1 hd2 hp1 hp2 _ nf5 tl5 (by simp; omega) F5 N5 (s15 _ hA) (s15 _ hB) (s15 _ hC) o5 (fun ps6 nf6 tl6 g6 k6 F6 N6 s6 o6 e6 => ?_)
  obtain ⟨m6, rfl, l6, ok6⟩ := e6
  have s16 : ∀ q ∈ tl, q ∈ tl6 := fun q h => s6 _ (s15 _ h)
  refine wpAny_execs_cons ?_
  refine t_root (w := w) (mean := mean) (mg := mg) (mb := mb) dp un gd a ccd outer A₀ base h₀ L rest _ _ E B X T hdp hun A Bd Cd Df pv x1 e1 x2 e2 x3 e3 d p t1 u1 t2 u2 t3 u3 tp td h1 h2 h3 hl hd1 hd2 hp1 hp2 _ nf6 tl6 (by simp; omega) F6 N6 (s16 _ hA) (s16 _ hB) (s16 _ hC) o6 (fun ps7 nf7 tl7 g7 k7 F7 N7 s7 o7 e7 => ?_)
  obtain ⟨m7, rfl, l7, ok7⟩ := e7
  have s17 : ∀ q ∈ tl, q ∈ tl7 := fun q h => s7 _ (s16 _ h)
  refine wpAny_execs_cons ?_
  refine t_pairs (w := w) (mean := mean) (mg := mg) (mb := mb) dp un gd a ccd outer A₀ base h₀ L _ _ E B X T hdp hun hE _ Df _ nf7 tl7 (if_pos rfl) F7 N7 ?_ (fun g8 k8 m8 F8 L8 N8 => ?_)
  · intro v hv
    rcases List.mem_append.mp hv with hv | hv
    · rcases List.mem_append.mp hv with hv | hv
      · rcases List.mem_append.mp hv with hv | hv
        · exact (ok4 v hv).sub (fun q h => s7 _ (s6 _ (s5 _ h)))
        · exact (ok5 v hv).sub (fun q h => s7 _ (s6 _ h))
      · exact (ok6 v hv).sub s7
    · exact ok7 v hv
  rw [L8.form] at F8
  have s47 : ∀ q ∈ tl4, q ∈ tl7 := fun q h => s7 _ (s6 _ (s5 _ h))
  rw [List.append_assoc, List.append_assoc] at N8
  refine t_again (w := w) (mean := mean) (mg := mg) (mb := mb) dp un gd a ccd outer A₀ base h₀ L rest _ _ E B X T hdp hun A Bd Cd Df pv x1 e1 x2 e2 x3 e3 d p t1 u1 t2 u2 t3 u3 tp td h1 h2 h3 hl hd1 hd2 hp1 hp2 _ _ P0 P1 P2 P3 P4 D3 D3' D4 D4' n3 n4 nf7 (m5 ++ (m6 ++ m7)) tl7 (by simp; omega) F8 N8 (s17 _ hA) (s17 _ hB) (s17 _ hC) (s47 _ (s4 _ hP3)) (s47 _ hP4) ((d3'.sub s4).sub s47) (d4.sub s47) (fun g9 k9 v9 F9 N9 => ?_)
  refine ret g9 k9 _ F9 (fun q hq => N9 q (.tail _ (s17 _ hq))) (fun y y1 y2 y3 y4 => ?_)
  dsimp only
  rw [if_neg y4, if_neg y3, if_neg y2, if_neg y1]
end
section
theorem t_tailM {w mean mg mb} (dp un : Nat) (gd : Option (List Code)) (a : Addr) (ccd : Value) (outer : List Env) (A₀ : Around) (base h₀ : Heap) (L : Addr) (s : Shared) (Q : Flow → Shared → Prop) (E : Value → Shared → Prop)
    (B : Below A₀ base outer h₀) (X : (hd.heap_39 w.params).In h₀) (T : Top hd.view_39 (looseW hd.view_39 [Str.ofString "BasicError"]) mean mg mb h₀) (hdp : dp + 20 < recursionLimit) (hun : un + 200 < cLine) (hE : PassesOwn (model PySem.Challenge.rw_pq0162_01.row.prog w) (ktrTop dp un gd (Str.ofString "law") lawScope L a ccd [] outer) (lawEnv L a ccd) E) (A Bd Cd : Addr) (pv : Value) (x1 e1 x2 e2 x3 e3 d p : Int) (t1 u1 t2 u2 t3 u3 tp td : Tok) (m : Str → Option Value) (tl : List (Addr × Obj))
    (F : Fr h₀ L s.heap m) (N : News h₀ L s.heap tl) (mhigh : m (Str.ofString "high") = some (.ref Bd)) (mlow : m (Str.ofString "low") = some (.ref A)) (mplaces : m (Str.ofString "places") = some (.int p tp)) (mthird : m (Str.ofString "third") = some (.ref Cd)) (mpair : m (Str.ofString "pair") = some (pv)) (mdigits : m (Str.ofString "digits") = some (.int d td)) (hA : (A, tup2 x1 t1 e1 u1) ∈ tl) (hB : (Bd, tup2 x2 t2 e2 u2) ∈ tl) (hC : (Cd, tup2 x3 t3 e3 u3) ∈ tl) (h1 : Dealt x1 e1) (h2 : Dealt x2 e2) (h3 : Dealt x3 e3) (hl : Ex2 x1 e1 x2 e2) (hd1 : 3 ≤ d) (hd2 : d ≤ 5) (hp1 : -2 ≤ p) (hp2 : p ≤ 2)
    (ret : ∀ h' tk' m', Fr h₀ L h' m' → News h₀ L h' tl → (∀ y, y ≠ Str.ofString "found" → y ≠ Str.ofString "here" → y ≠ Str.ofString "there" → y ≠ Str.ofString "again" → m' y = m y) → Q .next { s with heap := h', toks := tk' }) :
    wpAny (model PySem.Challenge.rw_pq0162_01.row.prog w) (ktrTop dp un gd (Str.ofString "law") lawScope L a ccd [] outer)
      (execs [nthS loopBody 3, nthS loopBody 4, nthS loopBody 5, nthS loopBody 6, nthS loopBody 7, nthS loopBody 8, nthS loopBody 9, nthS loopBody 10, nthS loopBody 11, nthS loopBody 12, nthS loopBody 13] (lawEnv L a ccd)) Q E s := by
  have em : (fun y => if y = Str.ofString "high" then some (.ref Bd) else if y = Str.ofString "low" then some (.ref A) else if y = Str.ofString "places" then some (.int p tp) else if y = Str.ofString "third" then some (.ref Cd) else if y = Str.ofString "pair" then some (pv) else if y = Str.ofString "digits" then some (.int d td) else m y) = m := by
    funext y
    by_cases q0 : y = Str.ofString "high"
    · rw [if_pos q0, q0]; exact mhigh.symm
    rw [if_neg q0]
    by_cases q1 : y = Str.ofString "low"
    · rw [if_pos q1, q1]; exact mlow.symm
    rw [if_neg q1]
    by_cases q2 : y = Str.ofString "places"
    · rw [if_pos q2, q2]; exact mplaces.symm
    rw [if_neg q2]
    by_cases q3 : y = Str.ofString "third"
    · rw [if_pos q3, q3]; exact mthird.symm
    rw [if_neg q3]
    by_cases q4 : y = Str.ofString "pair"
    · rw [if_pos q4, q4]; exact mpair.symm
    rw [if_neg q4]
    by_cases q5 : y = Str.ofString "digits"
    · rw [if_pos q5, q5]; exact mdigits.symm
    rw [if_neg q5]
  refine t_tail (w := w) (mean := mean) (mg := mg) (mb := mb) dp un gd a ccd outer A₀ base h₀ L m _ _ E B X T hdp hun hE A Bd Cd pv x1 e1 x2 e2 x3 e3 d p t1 u1 t2 u2 t3 u3 tp td h1 h2 h3 hl hd1 hd2 hp1 hp2 tl (em.symm ▸ F) N hA hB hC (fun h' tk' m' F' N' hy => ret h' tk' m' F' N' (fun y y1 y2 y3 y4 => (hy y y1 y2 y3 y4).trans (congrFun em y)))
end
section

theorem law_end {w : World} {h₀ h' : Heap} {L H C : Addr} {c oc : Obj} {own news' : List (Addr × Obj)} {m m' m₀ : Str → Option Value} {stored : List Str} {pre : List Int} {k n : Int} {s₁ : Shared} {tk : Nat}
    (F : Fr h₀ L h' m') (N : News h₀ L h' news') (hy : ∀ y : Str, y ≠ Str.ofString "found" → y ≠ Str.ofString "here" → y ≠ Str.ofString "there" → y ≠ Str.ofString "again" → m' y = m y)
    (hand : HandN w c C n) (hH : (H, c) ∈ news') (hC : (C, oc) ∈ news') (ho : ∀ p ∈ own, p ∈ news') (hn : n ≤ 100 * ((pre ++ [k]).length : Int)) (hk : m (Str.ofString "hand") = some (.ref H))
    (hs : stored.contains (Str.ofString "found") = true ∧ stored.contains (Str.ofString "here") = true ∧ stored.contains (Str.ofString "there") = true ∧ stored.contains (Str.ofString "again") = true)
    (hr : ∀ z, z ≠ Str.ofString "turn" → z ≠ Str.ofString "hand" → stored.contains z = false → m z = m₀ z) :
    InvEndN h₀ L (KstS (fun c => [(H, c), (C, oc)]) (fun _ => [(Str.ofString "hand", .ref H)]) (fun _ => True) (Str.ofString "turn") stored m₀ (fun pre c => HandN w c C (100 * (pre.length : Int))) (pre ++ [k])) own [H, C] s₁ { s₁ with heap := h', toks := tk } := by
  refine kst_end c F N (fun p hp => ?_) ho rfl True.intro (fun p hp => ?_) (fun z h1 h2 h3 => ?_) (hand.more hn)
  · rcases List.mem_cons.mp hp with rfl | hp
    · exact hH
    · rw [List.mem_singleton.mp hp]; exact hC
  · rw [List.mem_singleton.mp hp]
    exact (hy (Str.ofString "hand") (by decide) (by decide) (by decide) (by decide)).trans hk
  · have hne : ∀ y, stored.contains y = true → z ≠ y := fun y hy e => by rw [e, hy] at h3; cases h3
    exact (hy z (hne _ hs.1) (hne _ hs.2.1) (hne _ hs.2.2.1) (hne _ hs.2.2.2)).trans (hr z h1 (h2 _ (.head _)) h3)

theorem walk : PySem.Challenge.rw_pq0162_01.Holds := by
  k_with_none
  k_with "p_enter" => first | ((refine' enter_pure ?k1 ?k2 ?k3 ?k5 ?kA ?kF ?kK ?k6 ?k7 ?k8 ?k9 ?kB ?_ ?c2 ?c3 ?c4 ?c5; (case kA => exact rfl); (case kF => exact rfl); (case kK => assumption); (case k1 => k_asm); (case k2 => k_asm); (case k3 => k_asm); (case k5 => k_asm); (case k6 => k_is); (case k7 => k_is); (case k8 => ktr_room); (case k9 => exact BindsTo.of_eq rfl); (case c5 => decide); (case kB => exact locs rfl); (case c2 => exact rfl); (case c3 => exact rfl); (case c4 => exact rfl); k_whole; intro L' h' F' N' B' X' T'; (try dsimp only); (try k_fold))) | fail "p_enter"
  k_with "h_enter" => first | ((refine' enter_hand ?k1 ?k2 ?kN ?k3 ?k5 ?kA ?kF ?kK ?k6 ?k7 ?k8 ?k9 ?kB ?_ ?c2 ?c3 ?c4 ?c5; (case kA => exact rfl); (case kF => exact rfl); (case kK => assumption); (case k1 => k_asm); (case k2 => k_asm); (case kN => k_asm); (case k3 => k_asm); (case k5 => k_asm); (case k6 => k_is); (case k7 => k_is); (case k8 => ktr_room); (case k9 => exact BindsTo.of_eq rfl); (case c5 => decide); (case kB => exact locs rfl); (case c2 => exact rfl); (case c3 => exact rfl); (case c4 => exact rfl); k_whole)) | fail "h_enter"
  k_with "subscriptTail" => first | ((k_here; (with_reducible show wpAny _ _ (subscriptTail _ _ (Value.ref _) (Value.int _ _)) _ _ _); k_dflt (refine' item_tupleT ?t ?a ?b ?c ?d ?_; (case t => exact Fr.tup (by assumption) (by assumption)); (case a => decide); (case b => decide); (case c => rfl); (case d => rfl); k_whole))) | fail "subscriptTail"
  k_with "k_ne" => first | (first | exact ne_all (by with_reducible assumption) (by k_mem) | exact ne_all' (by with_reducible assumption) (by k_mem) | fail "k_ne") | fail "k_ne"
  k_with "p_sm" => first | (first | with_reducible assumption | exact Sm.neg (by with_reducible assumption) | exact sm_lit (by omega) (by omega) (by omega) (by omega)) | fail "p_sm"
  k_with "p_room" => first | (first | with_reducible assumption | exact (‹(_ : Int) < 0 → Room _ _ _›) (by with_reducible assumption) | exact rd_room1 (by with_reducible assumption) (by with_reducible assumption) (by with_reducible assumption) (by first | exact .inl rfl | exact .inr rfl) | exact rd_room2 (by with_reducible assumption) (by with_reducible assumption) (by with_reducible assumption) (by first | exact .inl rfl | exact .inr rfl)) | fail "p_room"
  k_with "p_half" => first | (first | with_reducible exact half_gt (by with_reducible assumption) | with_reducible exact half_tie (by with_reducible assumption) (by with_reducible assumption) | with_reducible exact half_lt (by with_reducible assumption) (by with_reducible assumption) | with_reducible exact half_even (by with_reducible assumption) (by with_reducible assumption)) | fail "p_half"
  k_with "p_rd" => first | (first | exact dec_eq (dec_base (by assumption) (by with_reducible assumption)) ⟨rd_sameX (.inl (by with_reducible assumption)), rd_sameE (.inl (by with_reducible assumption))⟩ | exact dec_eq (dec_base (by assumption) (by with_reducible assumption)) ⟨rd_sameX (.inr (by with_reducible assumption)), rd_sameE (.inr (by with_reducible assumption))⟩ | exact dec_eq (dec_news (by assumption) (by k_mem)) (rd_pos (by with_reducible assumption) (by with_reducible assumption) (by walk_at "p_half") (by with_reducible assumption) (by with_reducible assumption)) | exact dec_eq (dec_news (by assumption) (by k_mem)) (rd_neg (by with_reducible assumption) (by with_reducible assumption) (by walk_at "p_half") (by with_reducible assumption) (by with_reducible assumption)) | exact dec_eq ⟨_, _, tupK (Frag.In.keeps (by assumption) (Fr.keep (by assumption))) (by k_is)⟩ (rd_zero (by with_reducible assumption) (by with_reducible assumption) (by walk_at "p_half") (by with_reducible assumption))) | fail "p_rd"
  k_with "p_ne" => first | (first | exact pow10_ne _ | with_reducible assumption | exact root_ne (by with_reducible assumption) | omega) | fail "p_ne"
  k_with "p_py" => first | (first | decide +kernel | exact py_pow (by omega) | exact root_py (by with_reducible assumption) | exact py_of (k := 20) (by decide) (by omega) | exact py_of (k := 60) (by decide) (by omega)) | fail "p_py"
  k_with "binaryOp FloorDiv int int" => first | ((k_here; (with_reducible refine floordiv_int ?kbe ?_ (Or.inl (PyProof.noPylong_of_log2 ?kbp))); (case kbe => walk_at "p_ne"); (case kbp => walk_at "p_py"))) | fail "binaryOp FloorDiv int int"
  k_with "binaryOp Mod int int" => first | ((k_here; (with_reducible refine mod_int' ?kbe ?_); (case kbe => walk_at "p_ne"))) | fail "binaryOp Mod int int"
  k_with "binaryOp Mult int int" => first | ((k_here; first | (with_reducible refine mul_int ?_ (PySem.IntMulOk.of_left (PySem.intBits_le_64 ?kma ?kmb)); (case kma => omega); (case kmb => omega)) | (with_reducible refine mul_int ?_ (PySem.IntMulOk.of_right (PySem.intBits_le_64 ?kma ?kmb)); (case kma => omega); (case kmb => omega)))) | fail "binaryOp Mult int int"
  k_with "binaryOp Pow int int" => first | ((k_here; (with_reducible refine pow_int_small ?kb1 ?kb2 ?kb3 ?_); (case kb1 => omega); (case kb2 => omega); (case kb3 => decide))) | fail "binaryOp Pow int int"
  k_with "k_ne" => first | (first | exact not_at (by with_reducible assumption) (by k_mem) (fun hh9 => absurd (Value.type.inj hh9) (by decide)) | exact not_at' (by with_reducible assumption) (by k_mem) (fun hh9 => absurd (Value.type.inj hh9) (by decide)) | fail "k_ne") | fail "k_ne"
  k_with "p_sm" => first | (first | exact Dealt.sm (by with_reducible assumption) | (with_reducible refine mk_sm ?zmk_sm0 ?zmk_sm1; (case zmk_sm0 => walk_at "p_room"); (case zmk_sm1 => omega)) | (with_reducible refine wh_sm ?zwh_sm0 ?zwh_sm1 ?zwh_sm2; (case zwh_sm0 => with_reducible assumption); (case zwh_sm1 => omega); (case zwh_sm2 => omega)) | (with_reducible refine rd_sm ?zrd_sm0 ?zrd_sm1 ?zrd_sm2 ?zrd_sm3 ?zrd_sm4; (case zrd_sm0 => with_reducible assumption); (case zrd_sm1 => omega); (case zrd_sm2 => omega); (case zrd_sm3 => omega); (case zrd_sm4 => omega))) | fail "p_sm"
  k_with "p_ex" => first | (first | with_reducible exact ex_yes (by assumption) | with_reducible exact ex_no (by assumption)) | fail "p_ex"
  k_with "p_room" => first | (first | (with_reducible refine room_add ?zroom_add0 ?zroom_add1 ?zroom_add2; (case zroom_add0 => with_reducible assumption); (case zroom_add1 => with_reducible assumption); (case zroom_add2 => omega)) | (with_reducible refine room_add ?zroom_add0 ?zroom_add1 ?zroom_add2; (case zroom_add0 => with_reducible assumption); (case zroom_add1 => exact Dealt.neg (by with_reducible assumption)); (case zroom_add2 => omega)) | (with_reducible refine room_mul ?zroom_mul0 ?zroom_mul1 ?zroom_mul2; (case zroom_mul0 => with_reducible assumption); (case zroom_mul1 => with_reducible assumption); (case zroom_mul2 => omega)) | (with_reducible refine room_div1 ?zroom_div10 ?zroom_div11 ?zroom_div12 ?zroom_div13 ?zroom_div14; (case zroom_div10 => with_reducible assumption); (case zroom_div11 => with_reducible assumption); (case zroom_div12 => omega); (case zroom_div13 => omega); (case zroom_div14 => omega)) | (with_reducible refine room_div2 ?zroom_div20 ?zroom_div21 ?zroom_div22 ?zroom_div23 ?zroom_div24; (case zroom_div20 => with_reducible assumption); (case zroom_div21 => with_reducible assumption); (case zroom_div22 => omega); (case zroom_div23 => omega); (case zroom_div24 => omega)) | (with_reducible refine room_dvC ?zroom_dvC0 ?zroom_dvC1 ?zroom_dvC2 ?zroom_dvC3 ?zroom_dvC4; (case zroom_dvC0 => with_reducible assumption); (case zroom_dvC1 => with_reducible assumption); (case zroom_dvC2 => omega); (case zroom_dvC3 => omega); (case zroom_dvC4 => omega)) | (with_reducible refine rt_roomP ?zrt_roomP0 ?zrt_roomP1 ?zrt_roomP2 ?zrt_roomP3; (case zrt_roomP0 => with_reducible assumption); (case zrt_roomP1 => omega); (case zrt_roomP2 => omega); (case zrt_roomP3 => omega)) | (with_reducible refine rt_room ?zrt_room0 ?zrt_room1 ?zrt_room2 ?zrt_room3 ?zrt_room4; (case zrt_room0 => with_reducible assumption); (case zrt_room1 => omega); (case zrt_room2 => omega); (case zrt_room3 => omega); (case zrt_room4 => omega))) | fail "p_room"
  k_with "p_le" => first | (first | (with_reducible refine mono_add ?zmono_add0 ?zmono_add1 ?zmono_add2 ?zmono_add3 ?zmono_add4 ?zmono_add5; (case zmono_add0 => with_reducible assumption); (case zmono_add1 => with_reducible assumption); (case zmono_add2 => with_reducible assumption); (case zmono_add3 => walk_at "p_ex"); (case zmono_add4 => omega); (case zmono_add5 => omega)) | (with_reducible refine mono_sub1 ?zmono_sub10 ?zmono_sub11 ?zmono_sub12 ?zmono_sub13 ?zmono_sub14 ?zmono_sub15; (case zmono_sub10 => with_reducible assumption); (case zmono_sub11 => with_reducible assumption); (case zmono_sub12 => with_reducible assumption); (case zmono_sub13 => walk_at "p_ex"); (case zmono_sub14 => omega); (case zmono_sub15 => omega)) | (with_reducible refine mono_sub2 ?zmono_sub20 ?zmono_sub21 ?zmono_sub22 ?zmono_sub23 ?zmono_sub24 ?zmono_sub25; (case zmono_sub20 => with_reducible assumption); (case zmono_sub21 => with_reducible assumption); (case zmono_sub22 => with_reducible assumption); (case zmono_sub23 => walk_at "p_ex"); (case zmono_sub24 => omega); (case zmono_sub25 => omega)) | (with_reducible refine mono_wh ?zmono_wh0 ?zmono_wh1 ?zmono_wh2 ?zmono_wh3 ?zmono_wh4; (case zmono_wh0 => with_reducible assumption); (case zmono_wh1 => with_reducible assumption); (case zmono_wh2 => walk_at "p_ex"); (case zmono_wh3 => omega); (case zmono_wh4 => omega)) | (with_reducible refine mono_rd ?zmono_rd0 ?zmono_rd1 ?zmono_rd2 ?zmono_rd3 ?zmono_rd4 ?zmono_rd5 ?zmono_rd6; (case zmono_rd0 => with_reducible assumption); (case zmono_rd1 => with_reducible assumption); (case zmono_rd2 => walk_at "p_ex"); (case zmono_rd3 => omega); (case zmono_rd4 => omega); (case zmono_rd5 => omega); (case zmono_rd6 => omega)) | (with_reducible refine mono_mul ?zmono_mul0 ?zmono_mul1 ?zmono_mul2 ?zmono_mul3 ?zmono_mul4 ?zmono_mul5 ?zmono_mul6; (case zmono_mul0 => with_reducible assumption); (case zmono_mul1 => with_reducible assumption); (case zmono_mul2 => with_reducible assumption); (case zmono_mul3 => walk_at "p_ex"); (case zmono_mul4 => omega); (case zmono_mul5 => omega); (case zmono_mul6 => omega)) | (with_reducible refine mono_div ?zmono_div0 ?zmono_div1 ?zmono_div2 ?zmono_div3 ?zmono_div4 ?zmono_div5 ?zmono_div6; (case zmono_div0 => with_reducible assumption); (case zmono_div1 => with_reducible assumption); (case zmono_div2 => with_reducible assumption); (case zmono_div3 => walk_at "p_ex"); (case zmono_div4 => omega); (case zmono_div5 => omega); (case zmono_div6 => omega)) | (with_reducible refine mono_rt ?zmono_rt0 ?zmono_rt1 ?zmono_rt2 ?zmono_rt3 ?zmono_rt4 ?zmono_rt5; (case zmono_rt0 => with_reducible assumption); (case zmono_rt1 => with_reducible assumption); (case zmono_rt2 => walk_at "p_ex"); (case zmono_rt3 => omega); (case zmono_rt4 => omega); (case zmono_rt5 => omega))) | fail "p_le"
  k_with "p_dec" => first | (first | exact dec_news (by assumption) (by k_mem) | exact dec_rep (by with_reducible assumption) (by assumption) (by assumption) (by k_mem)) | fail "p_dec"
  k_with "call ref" => first | ((k_here; k_dflt (refine' use_I (c_compare _ _ _ _ _ _) ?k1 ?k2 ?k3 ?k4 ?k5 ?kK ?kd ?ku ?kp ?_; (case k1 => k_asm); (case k2 => k_asm); (case k3 => k_asm); (case k4 => k_asm); (case k5 => k_asm); (case kK => first | exact rfl | assumption); (case kd => ktr_room); (case ku => ktr_units); (case kp => first | trivial | ((try dsimp only); exact ⟨(by walk_at "p_dec"), (by walk_at "p_sm"), (by walk_at "p_dec"), (by walk_at "p_sm"), True.intro⟩)); intro t9 h9 tk9 F9 N9; (try dsimp only); (try k_fold)))) | fail "call ref"
  k_with "call ref" => first | ((k_here; k_dflt (refine' use_I (c_exact _ _ _) ?k1 ?k2 ?k3 ?k4 ?k5 ?kK ?kd ?ku ?kp ?_; (case k1 => k_asm); (case k2 => k_asm); (case k3 => k_asm); (case k4 => k_asm); (case k5 => k_asm); (case kK => first | exact rfl | assumption); (case kd => ktr_room); (case ku => ktr_units); (case kp => first | trivial | ((try dsimp only); exact ⟨(by walk_at "p_dec"), (by walk_at "p_sm"), by first | omega | exact Dealt.e7 (by with_reducible assumption)⟩)); intro t9 h9 tk9 F9 N9; (try dsimp only); (try k_fold)))) | fail "call ref"
  k_with "call ref" => first | ((k_here; k_dflt (refine' use_H (c_dealt _ _ _ _ _ _ ?kh ?kn) ?k1 ?k2 ?k3 ?k4 ?kU ?k5 ?kK ?kd ?ku ?kp ?_; (case k1 => k_asm); (case k2 => k_asm); (case k3 => k_asm); (case k4 => k_asm); (case kU => k_updF); (case kh => with_reducible assumption); (case kn => omega); (case k5 => k_asm); (case kK => first | exact rfl | assumption); (case kd => ktr_room); (case ku => ktr_units); (case kp => exact ⟨by first | exact cards_keep (by with_reducible assumption) (Fr.keep (by assumption)) | exact cards_news (by assumption) (by k_mem) (by with_reducible assumption) (by simp only [List.length_map, List.length_take]; omega), by omega⟩); intro x9 t9 o9 h9 tk9 hx9 hy9 hH9 F9 N9; (try dsimp only at N9); (try dsimp only); (try k_fold)))) | fail "call ref"
  k_with "call ref" => first | ((k_here; k_dflt (refine' use_HF (c_decimal _ _ _ _ ?kh ?kn) ?k1 ?k2 ?k3 ?k4 ?kU ?k5 ?kK ?kd ?ku ?kp ?_; (case k1 => k_asm); (case k2 => k_asm); (case k3 => k_asm); (case k4 => k_asm); (case kU => k_updF); (case kh => with_reducible assumption); (case kn => omega); (case k5 => k_asm); (case kK => first | exact rfl | assumption); (case kd => ktr_room); (case ku => ktr_units); (case kp => first | exact cards_keep (by with_reducible assumption) (Fr.keep (by assumption)) | exact cards_news (by assumption) (by k_mem) (by with_reducible assumption) (by simp only [List.length_map, List.length_take]; omega)); intro x9 e9 D9 t9 u9 o9 h9 tk9 hb9 hH9 F9 N9 hne9; (try dsimp only at N9); (try dsimp only); (try k_fold)))) | fail "call ref"
  k_with "exec For Name Call cons nil" => first | ((k_here; (rename Fr _ _ _ _ => lF'); (with_unfolding_all refine' For_invVF lF' ?k1 ?k2 ?_; (case k1 => exact rfl); (case k2 => exact rfl); k_whole))) | fail "exec For Name Call cons nil"
  k_with "pyIter ref" => first | (((rename IsRange _ _ _ _ _ _ _ _ => rgX); (rename Fr _ _ _ _ => lF'); (rename News _ _ _ _ => lN'); (have hand9 := hand_new (by with_reducible assumption) (by with_unfolding_all rfl)); (with_unfolding_all refine' law_range (n := 7) [Str.ofString "digits", Str.ofString "pair", Str.ofString "third", Str.ofString "places", Str.ofString "low", Str.ofString "high", Str.ofString "found", Str.ofString "here", Str.ofString "there", Str.ofString "again"] ?kh ?kr ?ks ?kn lF' lN' ?kH ?kC hand9 ?km ?turn ?done; (case kh => rfl); (case kr => exact rgX); (case ks => decide); (case kn => rfl); (case km => rfl); (case kH => k_mem); (case kC => k_mem)); (all_goals (try clear lF' lN')); (case' turn => (intro c9 pre9 k9 t9 u9 h9 tk9 own9 hl9 ho9 hP9 F9 N9; have kMark9 := kstMark; (try dsimp only [kstB, envOf] at F9); (try dsimp only [envOf] at N9); (try dsimp only); (try k_fold))); (case' done => (intro c9 u9 h9 tk9 F9 N9; (try dsimp only [kstB, envOf] at F9); (try dsimp only [envOf] at N9); (try dsimp only); (try k_fold))))) | fail "pyIter ref"
  k_with "execs cons" => first | ((k_here; (with_reducible show wpAny _ _ (execs (Stmt.Assign [Expr.Name (Str.ofString "found") _] _ _ :: _) _) _ _ _); k_dflt (refine' t_tailM _ _ _ _ _ _ _ _ _ _ _ _ _ ?tB ?tX ?tT ?td ?tu ?tE _ _ _ _ _ _ _ _ _ _ _ _ _ _ _ _ _ _ _ _ _ _ ?tF ?tN ?m1 ?m2 ?m3 ?m4 ?m5 ?m6 ?hA ?hB ?hC ?h1 ?h2 ?h3 ?hl ?hd1 ?hd2 ?hp1 ?hp2 ?_; (case tB => k_asm); (case tX => k_asm); (case tT => k_asm); (case td => ktr_room); (case tu => ktr_units); (case tE => first | passes_own | with_unfolding_all passes_own); (case tF => k_asm); (case tN => k_asm); (case m1 => exact rfl); (case m2 => exact rfl); (case m3 => exact rfl); (case m4 => exact rfl); (case m5 => exact rfl); (case m6 => exact rfl); (case hA => k_mem); (case hB => k_mem); (case hC => k_mem); (case h1 => with_reducible assumption); (case h2 => with_reducible assumption); (case h3 => with_reducible assumption); (case hl => walk_at "p_ex"); (case hd1 => omega); (case hd2 => omega); (case hp1 => omega); (case hp2 => omega)); intro h9 tk9 m9 F9 N9 hy9)) | fail "execs cons"
  k_with "state" => exact HandN.more (by with_reducible assumption) (by simp only [List.length_append, List.length_cons, List.length_nil]; omega)
  refine Mine.hd ?_
  w_strict (k_go0; (all_goals try k_fold); k_steps)
  all_goals
    (refine' law_end ?hF ?hN ?hy ?hand ?hH ?hC ?ho ?hn ?hk ?hs ?hr
     case hF => assumption
     case hN => assumption
     case hy => assumption
     case hand => with_reducible assumption
     case hH => k_mem
     case hC => k_mem
     case ho => (intro p hp; kst_mem)
     case hn => (simp only [List.length_append, List.length_cons, List.length_nil]; omega)
     case hk => rfl
     case hs => exact ⟨rfl, rfl, rfl, rfl⟩
     case hr =>
       intro z h1 h2 h3
       have hne : ∀ y, [Str.ofString "digits", Str.ofString "pair", Str.ofString "third", Str.ofString "places", Str.ofString "low", Str.ofString "high", Str.ofString "found", Str.ofString "here", Str.ofString "there", Str.ofString "again"].contains y = true → z ≠ y := fun y hy e => by rw [e, hy] at h3; cases h3
       have n1 := hne (Str.ofString "digits") rfl
       have n2 := hne (Str.ofString "pair") rfl
       have n3 := hne (Str.ofString "third") rfl
       have n4 := hne (Str.ofString "places") rfl
       have n5 := hne (Str.ofString "low") rfl
       have n6 := hne (Str.ofString "high") rfl
       simp only [if_neg h1, if_neg h2, if_neg n1, if_neg n2, if_neg n3, if_neg n4, if_neg n5, if_neg n6, h3, Bool.false_eq_true, if_false])
end
end
end Mine

theorem PySem.Challenge.cw_pq0162_01_holds : PySem.Challenge.rw_pq0162_01.Holds := by
  exact Mine.walk
