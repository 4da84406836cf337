import PyProof.Rows.All
import Wide.All
import OpenK.AllK
import Wide.FinOn
import PySem.Challenge.RW_xm0441_01
open PySem PySem.W PySem.Calls PyProof.Rows
set_option Elab.async false
set_option maxRecDepth 100000
set_option maxHeartbeats 8000000
namespace Mine
theorem op : opening PySem.Challenge.pw_xm0441_01 = plainProg PySem.Challenge.pw_xm0441_01.main.scope.names := by kernel_rfl
theorem fe (s : Shared) : fenceModules? PySem.Challenge.pw_xm0441_01 s = some s := by kernel_rfl
theorem bo : ∀ w : World, (fencedOpening treeTable PySem.Challenge.pw_xm0441_01 w 4064).map (fun s => (s.heap, s.gens, s.drawn, s.toks)) = some (boot_heap w.params, Array.mk [], boot_drawn, boot_toks) := boot_open op (by decide) fe
theorem sz (w : World) : ((boot_heap w.params).isNs mainGlobals && (#[] : Array GenState).size == 0, (boot_heap w.params).objs.size, (boot_heap w.params).nsMap mainGlobals "__annotations__") = (true, 11, some (.ref 6)) := by kernel_rfl
/-- the text without its rows for __name__ -/
def vw : Program := view PySem.Challenge.pw_xm0441_01 [1, 2, 3, 4, 5, 6, 7, 8, 9, 10, 11, 12, 13, 15, 16, 17, 18, 19, 20, 21, 22, 23, 25, 26, 28, 29, 30, 31, 32, 33, 34, 36, 37, 38, 39, 40, 41]
def vXt : Shared → Bool := fun s => xlAt vw [] s && recOk (RowW.records PySem.Challenge.rw_xm0441_01.row.toRowW) s
theorem lk (w : World) (os : OsState) : (topRun treeTable PySem.Challenge.pw_xm0441_01 w 11 (some (.ref 6)) 4064 ⟨boot_heap w.params, #[], boot_drawn, boot_toks, os⟩ (topStub PySem.Challenge.pw_xm0441_01)).map (fun s => ((staticsOk (importedModules PySem.Challenge.pw_xm0441_01.main.body) (boot_heap w.params) s.heap && namesBound PySem.Challenge.pw_xm0441_01 s.heap && gensDone s && laidKept (boot_heap w.params) s.heap), openSeen vw [] (importedModules PySem.Challenge.pw_xm0441_01.main.body) vXt true s)) = some (true, openGood vw []) := by
  rw [PySem.W.Fast.te14082659384304107361, PySem.W.Fast.te14364793385576792824, PySem.W.Fast.te4187177175401517315, PySem.W.Fast.te5923862056798008813]
  kernel_rfl
theorem left_of {α : Type} {Yf : Shared → α} {Ya : World → α} (h : ∀ (w : World) (os : OsState), (topRun treeTable PySem.Challenge.pw_xm0441_01 w 11 (some (.ref 6)) 4064 ⟨boot_heap w.params, #[], boot_drawn, boot_toks, os⟩ (topStub PySem.Challenge.pw_xm0441_01)).map Yf = some (Ya w)) :
    LeftO PySem.Challenge.pw_xm0441_01 vw [] vXt Yf Ya 4064 := fun w => by
  obtain ⟨⟨h0, gs, d, k, os⟩, e, e'⟩ := Option.map_eq_some_iff.mp (bo w)
  obtain ⟨rfl, rfl, rfl, rfl⟩ : h0 = boot_heap w.params ∧ gs = Array.mk [] ∧ d = boot_drawn ∧ k = boot_toks := by simpa using e'
  obtain ⟨z1, z2, z3⟩ : _ ∧ _ ∧ _ := by simpa only [Prod.mk.injEq] using sz w
  obtain ⟨s, es, l⟩ := Option.map_eq_some_iff.mp (lk w os)
  obtain ⟨s', es', l'⟩ := Option.map_eq_some_iff.mp (h w os)
  have hs : s' = s := by rw [es] at es'; exact (Option.some.inj es').symm
  subst hs
  obtain ⟨l1, l2⟩ := Prod.mk.inj l
  have t : topFrom treeTable PySem.Challenge.pw_xm0441_01 w 4064 ⟨boot_heap w.params, Array.mk [], boot_drawn, boot_toks, os⟩ = some s' := by
    unfold topFrom
    dsimp only
    rw [z1, z2, z3, es]
    show (match staticsOk (importedModules PySem.Challenge.pw_xm0441_01.main.body) (boot_heap w.params) s'.heap && namesBound PySem.Challenge.pw_xm0441_01 s'.heap && gensDone s' && laidKept (boot_heap w.params) s'.heap with | true => _ | false => _) = _
    rw [l1]
  unfold openEnds
  rw [e]
  show (topFrom treeTable PySem.Challenge.pw_xm0441_01 w 4064 _).map _ = _
  rw [t]
  exact congrArg some (Prod.ext l2 l')
-- no twins of the text's own constants: the compiled file stays small
local macro_rules | `(tactic| k_qdec) => `(tactic| fail)
local macro_rules | `(tactic| o_law) => `(tactic| refine holds_law (by decide +kernel) fun said => ?_)
local macro_rules | `(tactic| o_head $H) => `(tactic| (refine holds_open (q := vw) (loose := []) (Xt := vXt) (XP := XL vw []) (Yf := Hook.obs $H) (Ya := Hook.val $H) (YP := Hook.says $H) (N := 4064) ?hl (Hook.of $H) (Hook.keeps $H) (fun s e => xl_of s (Bool.and_eq_true_iff.mp e).1) XL.keeps (by rfl) (by rfl) (by rfl) (fun s e => recFacts_of (Bool.and_eq_true_iff.mp e).2) (by rfl) (by first | assumption | decide +kernel) (by decide +kernel) ⟨rfl, rfl, rfl, rfl, rfl, by decide +kernel⟩ ?hw ?hc; (case hl => (refine left_of fun w os => ?_; (rw [PySem.W.Fast.te14082659384304107361, PySem.W.Fast.te14364793385576792824]); kernel_rfl))))
open_top hd for PySem.Challenge.rw_xm0441_01
abbrev Led := List (Addr × Obj)
abbrev PR : Program := PySem.Challenge.rw_xm0441_01.row.prog
abbrev aroundOf (dp un : Nat) (gd : Option (List Code)) (outer : List Env) : Around := { handled := none, depth := dp, frames := some outer, guards := gd, units := un }

/-- what a call of f with vs gives: from any ledger that holds the arguments' objects al, new objects tl with post -/
def Meets (w : World) (mean : ExcName → Option Value) (mg mb : Str → Option Value) (k : Nat) (f : Addr) (vs : List Value) (al : Led) (post : Value → Led → Prop) : Prop :=
  ∀ (dp un : Nat) (gd : Option (List Code)) (env : Env) (outer : List Env) (A₀ : Around) (base h₀ : Heap) (L : Addr) (m : Str → Option Value) (news : Led) (s : Shared) (Q E : Value → Shared → Prop),
    Below A₀ base outer h₀ → Fr h₀ L s.heap m → (hd.heap_1 w.params).In h₀ → News h₀ L s.heap news → Top vw (looseW vw []) mean mg mb h₀ → env.frame = some L → env.scope.kind = .function →
    (∀ p ∈ al, p ∈ news) → dp + k < recursionLimit → un + 8 * k < cLine →
    (∀ r tl h' tk', post r tl → Fr h₀ L h' m → News h₀ L h' (tl ++ news) → (∀ q ∈ news, ∀ p ∈ tl, @Ne Nat p.1 q.1) → Q r { s with heap := h', toks := tk' }) →
    wpAny (model PySem.Challenge.rw_xm0441_01.row.prog w) (aroundOf dp un gd (env :: outer)) (call (.ref f) vs) Q E s

def LeaveA (g : Heap) (al : Led) (post : Value → Led → Prop) (s : Shared) (v : Value) (s' : Shared) : Prop :=
  ∃ L' m' tl h' tk', s' = { s with heap := h', toks := tk' } ∧ Fr g L' h' m' ∧ News g L' h' (tl ++ al) ∧ (∀ q ∈ al, ∀ p ∈ tl, @Ne Nat p.1 q.1) ∧ post v tl

theorem meets_of {w : World} {mean : ExcName → Option Value} {mg mb : Str → Option Value} {k : Nat} {f : Addr} {vs : List Value} {al : Led} {post : Value → Led → Prop}
    {name qual : Str} {params : Arguments} {body : List Stmt} {scope : Scope} {dV kV doc pm cdv ct oc : Value} {an od : Option Addr} {osl : Array (Option Value)} {binds : List (Str × Value)}
    (ho : (hd.heap_1 w.params).lookup f = some ⟨oc, od, .func (fnOf name qual params body scope dV kV doc pm an cdv ct), osl⟩) (hcd : codeIn (hd.heap_1 w.params) cdv qual = true)
    (hbind : ∀ s, BindsTo s (fnOf name qual params body scope dV kV doc pm an cdv ct) ⟨vs, []⟩ binds) (hloc : ∀ y ∈ binds, scope.names.lookup y.1 = some .local)
    (hco : scope.isCoroutine = false) (hgen : scope.isGenerator = false) (hk : scope.kind = .function) (hcell : ∀ x ∈ scope.names, x.2 ≠ .cell) (hk1 : 1 ≤ k)
    (h : ∀ (dp un : Nat) (gd : Option (List Code)) (outer : List Env) (base g : Heap) (L' : Addr) (h₁ : Heap) (s : Shared) (Er : Value → Shared → Prop),
      Fr g L' h₁ (fun y => binds.reverse.lookup y) → News g L' h₁ al → Below (aroundOf dp un gd outer) base outer g → (hd.heap_1 w.params).In g → Top vw (looseW vw []) mean mg mb g →
      dp + k < recursionLimit → un + 8 * k < cLine →
      wpAny (model PySem.Challenge.rw_xm0441_01.row.prog w) ((aroundOf dp un gd outer).deeper (envOf qual scope L' f cdv)) (execs body (envOf qual scope L' f cdv))
        (fun fl s' => LeaveA g al post s (match fl with | .ret v => v | _ => .none) s')
        (fun e s' => wpAny (model PySem.Challenge.rw_xm0441_01.row.prog w) ((aroundOf dp un gd outer).deeper (envOf qual scope L' f cdv)) (leaving (envOf qual scope L' f cdv) e) (fun _ s'' => Er e s'') (fun e' s'' => Er e' s'') s')
        { s with heap := h₁, toks := s.toks + binds.length }) :
    Meets w mean mg mb k f vs al post := by
  intro dp un gd env outer A₀ base h₀ L m news s Q E B F X₀ N T hf hke hal hdp hun hret
  have Na : News h₀ L s.heap al := fun p hp => N p (hal p hp)
  have X := X₀.keeps F.keep
  refine wpAny_call ?_
  obtain ⟨FG, BG, st, lv⟩ := groundX (A := aroundOf dp un gd (env :: outer)) (R := fun r s' => Fr h₀ L s'.heap m) B F Na rfl hf hke
  have st' : ∀ q ∈ news, q.1 ∉ al.map (·.1) → (hideAll s.heap (al.map (·.1))).get? q.1 = some q.2 := fun q hq hn => hideAll_get _ (N q hq).1 hn
  refine codeAny_call_def (fd := fnOf name qual params body scope dV kV doc pm an cdv ct) (body := body) (binds := binds) (by show dp < recursionLimit; omega) (X _ _ ho) rfl (T.nolimit.keeps F.keep) (codeRec_of X hcd) rfl (hbind s) hcell hloc (fun h₁ hns hk₁ => ?_) hco hgen hk
  refine wpAny_mono (h dp un gd (env :: outer) base _ s.heap.objs.size h₁ s E ⟨hns, fun b o e => hk₁ b o (of_hideAll _ e), Nat.le_of_eq (hideAll_size _ _)⟩
    (fun p hp => ⟨hk₁ _ _ (Na p hp).1, Nat.ne_of_lt (Heap.lt_size (Na p hp).1), hideAll_none _ (List.mem_map_of_mem hp)⟩)
    ⟨rfl, BG.stays, BG.frames⟩ (X₀.keeps st) (T.keeps st) hdp hun) (fun fl s' hl => ?_) fun _ _ y => y
  obtain ⟨L', m', tl, h', tk', rfl, F', N', hne, hp⟩ := hl
  have Fh : Fr h₀ L h' m := lv (match fl with | .ret v => v | _ => .none) { s with heap := h', toks := tk' } ⟨L', m', _, F', N', fun a _ => a⟩
  have new : ∀ p ∈ tl, (hideAll s.heap (al.map (·.1))).get? p.1 = none := fun p hp' => (N' p (List.mem_append_left _ hp')).2.2
  have dist : ∀ q ∈ news, ∀ p ∈ tl, @Ne Nat p.1 q.1 := fun q hq p hp' e => by
    by_cases hm : q.1 ∈ al.map (·.1)
    · obtain ⟨q', hq', e'⟩ := List.mem_map.mp hm
      exact hne q' hq' p hp' (e.trans e'.symm)
    · have := st' q hq hm
      rw [← e, new p hp'] at this
      cases this
  refine hret _ tl h' tk' hp Fh (fun p hp' => ?_) dist
  rcases List.mem_append.mp hp' with hp' | hp'
  · refine ⟨(N' p (List.mem_append_left _ hp')).1, fun e => ?_, ?_⟩
    · have hn := new p hp'
      obtain ⟨o, _, _, hL, _⟩ := FG.ns
      rw [e, hL] at hn
      cases hn
    · cases q : h₀.get? p.1 with
      | none => rfl
      | some o => have := new p hp'; rw [st _ _ q] at this; cases this
  · refine ⟨?_, (N p hp').2⟩
    by_cases hm : p.1 ∈ al.map (·.1)
    · obtain ⟨q, hq, e⟩ := List.mem_map.mp hm
      have h1 := (Na q hq).1
      have h2 := (N p hp').1
      rw [e] at h1
      have h3 : q.2 = p.2 := Option.some.inj (h1.symm.trans h2)
      have := (N' q (List.mem_append_right _ hq)).1
      rw [e, h3] at this
      exact this
    · exact F'.keep _ _ (st' p hp' hm)

theorem Meets.use {w : World} {mean : ExcName → Option Value} {mg mb : Str → Option Value} {k : Nat} {f : Addr} {vs : List Value} {al : Led} {post : Value → Led → Prop}
    (C : Meets w mean mg mb k f vs al post)
    {dp un : Nat} {gd : Option (List Code)} {env : Env} {outer : List Env} {A₀ : Around} {base h₀ : Heap} {L : Addr} {m : Str → Option Value} {news : Led} {s : Shared} {Q E : Value → Shared → Prop}
    (B : Below A₀ base outer h₀) (F : Fr h₀ L s.heap m) (X : (hd.heap_1 w.params).In h₀) (N : News h₀ L s.heap news) (T : Top vw (looseW vw []) mean mg mb h₀) (hf : env.frame = some L) (hke : env.scope.kind = .function)
    (hal : ∀ p ∈ al, p ∈ news) (hdp : dp + k < recursionLimit) (hun : un + 8 * k < cLine)
    (ret : ∀ r tl h' tk', post r tl → Fr h₀ L h' m → News h₀ L h' (tl ++ news) → (∀ q ∈ news, ∀ p ∈ tl, @Ne Nat p.1 q.1) → Q r { s with heap := h', toks := tk' }) :
    wpAny (model PySem.Challenge.rw_xm0441_01.row.prog w) (aroundOf dp un gd (env :: outer)) (call (.ref f) vs) Q E s :=
  C dp un gd env outer A₀ base h₀ L m news s Q E B F X N T hf hke hal hdp hun ret

theorem leaveA_ {g : Heap} {al led : Led} {post : Value → Led → Prop} {s : Shared} {v : Value} {L' : Addr} {m' : Str → Option Value} {h' : Heap} {tk' : Nat} (tl : Led)
    (F : Fr g L' h' m') (N : News g L' h' led) (hp : post v tl) (hs : ∀ p ∈ tl ++ al, p ∈ led) (hne : ∀ q ∈ al, ∀ p ∈ tl, @Ne Nat p.1 q.1) : LeaveA g al post s v { s with heap := h', toks := tk' } :=
  ⟨L', m', tl, h', tk', rfl, F, fun p hp => N p (hs p hp), hne, hp⟩
theorem sub_nil {l : Led} : ∀ p ∈ ([] : Led), p ∈ l := fun _ h => nomatch h
theorem sub_cons {x : Addr × Obj} {l l' : Led} (h : x ∈ l') (t : ∀ p ∈ l, p ∈ l') : ∀ p ∈ x :: l, p ∈ l' := fun p hp => by
  rcases List.mem_cons.mp hp with rfl | hp
  · exact h
  · exact t p hp
theorem off_nil {tl : Led} : ∀ q ∈ ([] : Led), ∀ p ∈ tl, @Ne Nat p.1 q.1 := fun _ h => nomatch h
theorem off_cons {x : Addr × Obj} {al tl : Led} (h : ∀ p ∈ tl, @Ne Nat p.1 x.1) (t : ∀ q ∈ al, ∀ p ∈ tl, @Ne Nat p.1 q.1) : ∀ q ∈ x :: al, ∀ p ∈ tl, @Ne Nat p.1 q.1 := fun q hq => by
  rcases List.mem_cons.mp hq with rfl | hq
  · exact h
  · exact t q hq
theorem Meets.mono {w : World} {mean : ExcName → Option Value} {mg mb : Str → Option Value} {k : Nat} {f : Addr} {vs : List Value} {al : Led} {post post' : Value → Led → Prop}
    (C : Meets w mean mg mb k f vs al post) (h : ∀ r tl, post r tl → post' r tl) : Meets w mean mg mb k f vs al post' :=
  fun dp un gd env outer A₀ base h₀ L m news s Q E B F X N T hf hke hal hdp hun ret => C dp un gd env outer A₀ base h₀ L m news s Q E B F X N T hf hke hal hdp hun fun r tl h' tk' hp => ret r tl h' tk' (h r tl hp)

abbrev tupOf (vs : List Value) : Obj := { cls := .type "tuple", data := .seq vs.toArray }
/-- a new list with P of its items -/
def NewL (P : List Value → Prop) (r : Value) (tl : Led) : Prop := ∃ l n vs, r = .ref l ∧ tl = [(l, listOf vs.toArray n)] ∧ P vs
/-- an int -/
def NewI (P : Int → Prop) (r : Value) (tl : Led) : Prop := ∃ c t, r = .int c t ∧ tl = [] ∧ P c
/-- a new pair of a new list and an int -/
def NewLI (P : List Value → Int → Prop) (r : Value) (tl : Led) : Prop := ∃ a l n vs c t, r = .ref a ∧ tl = [(a, tupOf [.ref l, .int c t]), (l, listOf vs.toArray n)] ∧ P vs c
/-- a new pair of two new lists -/
def NewLL (P : List Value → List Value → Prop) (r : Value) (tl : Led) : Prop := ∃ a l n vs l' n' vs', r = .ref a ∧ tl = [(a, tupOf [.ref l, .ref l']), (l, listOf vs.toArray n), (l', listOf vs'.toArray n')] ∧ P vs vs'
/-- a new pair of a bool and a new list -/
def NewBL (P : Bool → List Value → Prop) (r : Value) (tl : Led) : Prop := ∃ a b l n vs, r = .ref a ∧ tl = [(a, tupOf [.bool b, .ref l]), (l, listOf vs.toArray n)] ∧ P b vs
/-- a new pair of a bool and a list that stands -/
def NewB (l : Addr) (P : Bool → Prop) (r : Value) (tl : Led) : Prop := ∃ a b, r = .ref a ∧ tl = [(a, tupOf [.bool b, .ref l])] ∧ P b
inductive Pos1 (x : Int) : List Value → Prop
  | zero : x = 0 → Pos1 x []
  | one (t : Tok) : 0 < x → Pos1 x [.int x t]
inductive Cmp (x y : Int) : Int → Prop
  | lt : x < y → Cmp x y (-1)
  | eq : x = y → Cmp x y 0
  | gt : y < x → Cmp x y 1
/-- a list of two without noughts at its end -/
inductive Norm2 (x y : Int) (t t' : Tok) : List Value → Prop
  | two : y ≠ 0 → Norm2 x y t t' [.int x t, .int y t']
  | one : y = 0 → x ≠ 0 → Norm2 x y t t' [.int x t]
  | zero : y = 0 → x = 0 → Norm2 x y t t' []
inductive Norm1 (x : Int) (t : Tok) : List Value → Prop
  | one : x ≠ 0 → Norm1 x t [.int x t]
  | zero : x = 0 → Norm1 x t []
/-- a number of at most two limbs below B -/
inductive Nat2 (B v : Int) : List Value → Prop
  | zero : v = 0 → Nat2 B v []
  | one (t : Tok) : 0 < v → v < B → Nat2 B v [.int v t]
  | two (lo hi : Int) (t t' : Tok) : 0 ≤ lo → lo < B → 0 < hi → hi < B → v = lo + hi * B → Nat2 B v [.int lo t, .int hi t']
/-- a number of one limb -/
inductive Lim (x : Int) : List Value → Prop
  | zero : x = 0 → Lim x []
  | one (t : Tok) : 0 < x → x < 32 → Lim x [.int x t]

theorem pw {wd : Int} (h : 5 ≤ wd) (h' : wd ≤ 9) : (32 : Int) ≤ 2 ^ wd.toNat ∧ (2 : Int) ^ wd.toNat ≤ 512 := by
  have : wd = 5 ∨ wd = 6 ∨ wd = 7 ∨ wd = 8 ∨ wd = 9 := by omega
  rcases this with rfl | rfl | rfl | rfl | rfl <;> decide
theorem mul32 {x y : Int} (hx : 0 < x) (hx' : x < 32) (hy : 0 < y) (hy' : y < 32) : 0 < x * y ∧ x * y < 1024 := by
  refine ⟨Int.mul_pos hx hy, ?_⟩
  have h1 : x * y ≤ 31 * y := Int.mul_le_mul_of_nonneg_right (by omega) (by omega)
  omega
theorem cut2 (v : Int) (k : Nat) : v.fdiv (2 ^ k) * 2 ^ k + Builtin.bitAnd v (2 ^ k - 1) = v ∧ 0 ≤ Builtin.bitAnd v (2 ^ k - 1) ∧ Builtin.bitAnd v (2 ^ k - 1) < 2 ^ k := by
  rw [kbt_maskF]
  exact ⟨kbt_whole v k, kbt_rest v k⟩
theorem n2_two {v : Int} {k : Nat} {t t' : Tok} (hB : (32 : Int) ≤ 2 ^ k) (h0 : 0 < v) (h1 : v < 1024) (h : v.fdiv (2 ^ k) ≠ 0) :
    Nat2 (2 ^ k) v [.int (Builtin.bitAnd v (2 ^ k - 1)) t, .int (v.fdiv (2 ^ k)) t'] := by
  obtain ⟨a, b, c⟩ := cut2 v k
  have hq : 0 ≤ v.fdiv (2 ^ k) := by
    rcases kbt_quot v k with q | q
    · omega
    · exact q.1
  generalize v.fdiv (2 ^ k) = q at *
  generalize Builtin.bitAnd v (2 ^ k - 1) = r at *
  generalize (2 : Int) ^ k = B at *
  refine .two _ _ _ _ b c (by omega) ?_ (by omega)
  refine Int.not_le.mp fun hle => ?_
  have h2 : 32 * 32 ≤ q * B := Int.mul_le_mul (by omega) hB (by decide) hq
  omega
theorem n2_one {v : Int} {k : Nat} {t : Tok} (h0 : 0 < v) (h : v.fdiv (2 ^ k) = 0) : Nat2 (2 ^ k) v [.int (Builtin.bitAnd v (2 ^ k - 1)) t] := by
  obtain ⟨a, b, c⟩ := cut2 v k
  rw [h, Int.zero_mul, Int.zero_add] at a
  rw [a] at c ⊢
  exact .one t h0 c
theorem n2_zero {v : Int} {k : Nat} {P : Prop} (h0 : 0 < v) (h : v.fdiv (2 ^ k) = 0) (h' : Builtin.bitAnd v (2 ^ k - 1) = 0) : P := by
  obtain ⟨a, b, c⟩ := cut2 v k
  rw [h, h', Int.zero_mul] at a
  omega

theorem or_nn {x y : Int} (hx : 0 ≤ x) (hy : 0 ≤ y) : Builtin.bitOr x y = ((x.toNat ||| y.toNat : Nat) : Int) := by
  have e1 : decide (0 ≤ -x - 1) = false := decide_eq_false (by omega)
  have e2 : decide (0 ≤ -y - 1) = false := decide_eq_false (by omega)
  unfold Builtin.bitOr Builtin.bitAnd Builtin.bitNot
  rw [e1, e2]
  have e3 : -(-x - 1) - 1 = x := by omega
  have e4 : -(-y - 1) - 1 = y := by omega
  rw [e3, e4]
  dsimp only
  omega
theorem or_shift {a lo : Int} {k : Nat} (ha : 0 ≤ a) (h0 : 0 ≤ lo) (h1 : lo < 2 ^ k) : Builtin.bitOr (a * 2 ^ k) lo = a * 2 ^ k + lo := by
  obtain ⟨a, rfl⟩ := Int.eq_ofNat_of_zero_le ha
  obtain ⟨lo, rfl⟩ := Int.eq_ofNat_of_zero_le h0
  have e : ((a : Int) * 2 ^ k) = ((2 ^ k * a : Nat) : Int) := by
    rw [Int.natCast_mul, kbt_cast, Int.mul_comm]
  rw [e, or_nn (Int.natCast_nonneg _) (Int.natCast_nonneg _)]
  have hl : lo < 2 ^ k := by
    rw [← kbt_cast] at h1
    exact Int.ofNat_lt.mp h1
  rw [Int.toNat_natCast, Int.toNat_natCast, ← Nat.two_pow_add_eq_or_of_lt hl]
  exact Int.natCast_add _ _
theorem d_one {v m : Int} {k : Nat} (h0 : 0 ≤ v) (h1 : v < 2 ^ k) (hm : 0 < m) : (Builtin.bitOr (0 * 2 ^ k) v).fdiv m = v / m ∧ (Builtin.bitOr (0 * 2 ^ k) v).fmod m = v % m := by
  rw [or_shift (Int.le_refl 0) h0 h1, Int.zero_mul, Int.zero_add]
  exact ⟨Int.fdiv_eq_ediv_of_nonneg _ (by omega), Int.fmod_eq_emod_of_nonneg _ (by omega)⟩
theorem d_two {lo hi m : Int} {k : Nat} (h0 : 0 ≤ lo) (h1 : lo < 2 ^ k) (h2 : 0 ≤ hi) (h3 : hi < 2 ^ k) (hm : 0 < m) :
    (Builtin.bitOr (0 * 2 ^ k) hi).fdiv m * 2 ^ k + (Builtin.bitOr ((Builtin.bitOr (0 * 2 ^ k) hi).fmod m * 2 ^ k) lo).fdiv m = (lo + hi * 2 ^ k) / m ∧
    (Builtin.bitOr ((Builtin.bitOr (0 * 2 ^ k) hi).fmod m * 2 ^ k) lo).fmod m = (lo + hi * 2 ^ k) % m ∧
    0 ≤ (Builtin.bitOr (0 * 2 ^ k) hi).fdiv m ∧ (Builtin.bitOr (0 * 2 ^ k) hi).fdiv m < 2 ^ k ∧
    0 ≤ (Builtin.bitOr ((Builtin.bitOr (0 * 2 ^ k) hi).fmod m * 2 ^ k) lo).fdiv m ∧ (Builtin.bitOr ((Builtin.bitOr (0 * 2 ^ k) hi).fmod m * 2 ^ k) lo).fdiv m < 2 ^ k := by
  obtain ⟨e1, e2⟩ := d_one (m := m) h2 h3 hm
  rw [e1, e2]
  have hr := Int.emod_nonneg hi (Int.ne_of_gt hm)
  have hr' := Int.emod_lt_of_pos hi hm
  have hq : 0 ≤ hi / m := Int.ediv_nonneg h2 (by omega)
  have hq' : hi / m ≤ hi := Int.ediv_le_self m h2
  rw [or_shift hr h0 h1, Int.fdiv_eq_ediv_of_nonneg _ (by omega), Int.fmod_eq_emod_of_nonneg _ (by omega)]
  have hd : hi = hi % m + m * (hi / m) := (Int.emod_add_mul_ediv hi m).symm
  have hB := kbt_pos k
  generalize (2 : Int) ^ k = B at *
  have e : lo + hi * B = (hi % m * B + lo) + m * (hi / m * B) := by
    have : hi * B = (hi % m + m * (hi / m)) * B := by rw [← hd]
    rw [this, Int.add_mul, Int.mul_assoc]
    omega
  have h4 : hi % m * B ≤ (m - 1) * B := Int.mul_le_mul_of_nonneg_right (by omega) (by omega)
  have h5 : (m - 1) * B = B * m - B := by rw [Int.sub_mul, Int.one_mul, Int.mul_comm]
  have h6 : 0 ≤ hi % m * B := Int.mul_nonneg hr (by omega)
  refine ⟨?_, ?_, hq, by omega, Int.ediv_nonneg (by omega) (by omega), Int.ediv_lt_of_lt_mul hm (by omega)⟩
  · rw [e, Int.add_mul_ediv_left _ _ (Int.ne_of_gt hm)]
    omega
  · rw [e, Int.add_mul_emod_self_left]

section
variable {v m lo hi : Int} {k : Nat} {t t' : Tok}
theorem q_zero0 (hv : v = 0) : Nat2 (2 ^ k) (v / m) [] ∧ 0 = v % m := by
  subst hv
  exact ⟨.zero (by simp), by simp⟩
theorem q_one (hm : 0 < m) (h0 : 0 < v) (h1 : v < 2 ^ k) (h : (Builtin.bitOr (0 * 2 ^ k) v).fdiv m ≠ 0) :
    Nat2 (2 ^ k) (v / m) [.int ((Builtin.bitOr (0 * 2 ^ k) v).fdiv m) t] ∧ (Builtin.bitOr (0 * 2 ^ k) v).fmod m = v % m := by
  obtain ⟨e1, e2⟩ := d_one (m := m) (Int.le_of_lt h0) h1 hm
  rw [e1] at h ⊢
  refine ⟨.one _ ?_ ?_, e2⟩
  · have := Int.ediv_nonneg (Int.le_of_lt h0) (Int.le_of_lt hm); omega
  · exact Int.lt_of_le_of_lt (Int.ediv_le_self m (Int.le_of_lt h0)) h1
theorem q_zero (hm : 0 < m) (h0 : 0 < v) (h1 : v < 2 ^ k) (h : (Builtin.bitOr (0 * 2 ^ k) v).fdiv m = 0) :
    Nat2 (2 ^ k) (v / m) [] ∧ (Builtin.bitOr (0 * 2 ^ k) v).fmod m = v % m := by
  obtain ⟨e1, e2⟩ := d_one (m := m) (Int.le_of_lt h0) h1 hm
  rw [e1] at h
  exact ⟨.zero h, e2⟩
theorem p_two (hm : 0 < m) (h0 : 0 ≤ lo) (h1 : lo < 2 ^ k) (h2 : 0 < hi) (h3 : hi < 2 ^ k) (hv : v = lo + hi * 2 ^ k) (h : (Builtin.bitOr (0 * 2 ^ k) hi).fdiv m ≠ 0) :
    Nat2 (2 ^ k) (v / m) [.int ((Builtin.bitOr ((Builtin.bitOr (0 * 2 ^ k) hi).fmod m * 2 ^ k) lo).fdiv m) t, .int ((Builtin.bitOr (0 * 2 ^ k) hi).fdiv m) t'] ∧ (Builtin.bitOr ((Builtin.bitOr (0 * 2 ^ k) hi).fmod m * 2 ^ k) lo).fmod m = v % m := by
  obtain ⟨a, b, c, d, e, f⟩ := d_two (m := m) h0 h1 (Int.le_of_lt h2) h3 hm
  subst hv
  exact ⟨.two _ _ _ _ e f (by omega) d (by omega), b⟩
theorem p_one (hm : 0 < m) (h0 : 0 ≤ lo) (h1 : lo < 2 ^ k) (h2 : 0 < hi) (h3 : hi < 2 ^ k) (hv : v = lo + hi * 2 ^ k) (h : (Builtin.bitOr (0 * 2 ^ k) hi).fdiv m = 0) (h' : (Builtin.bitOr ((Builtin.bitOr (0 * 2 ^ k) hi).fmod m * 2 ^ k) lo).fdiv m ≠ 0) :
    Nat2 (2 ^ k) (v / m) [.int ((Builtin.bitOr ((Builtin.bitOr (0 * 2 ^ k) hi).fmod m * 2 ^ k) lo).fdiv m) t] ∧ (Builtin.bitOr ((Builtin.bitOr (0 * 2 ^ k) hi).fmod m * 2 ^ k) lo).fmod m = v % m := by
  obtain ⟨a, b, c, d, e, f⟩ := d_two (m := m) h0 h1 (Int.le_of_lt h2) h3 hm
  subst hv
  rw [h] at a
  refine ⟨?_, b⟩
  generalize (Builtin.bitOr ((Builtin.bitOr (0 * 2 ^ k) hi).fmod m * 2 ^ k) lo).fdiv m = q at *
  rw [Int.zero_mul, Int.zero_add] at a
  rw [← a]
  exact .one _ (by omega) f
theorem p_zero (hm : 0 < m) (h0 : 0 ≤ lo) (h1 : lo < 2 ^ k) (h2 : 0 < hi) (h3 : hi < 2 ^ k) (hv : v = lo + hi * 2 ^ k) (h : (Builtin.bitOr (0 * 2 ^ k) hi).fdiv m = 0) (h' : (Builtin.bitOr ((Builtin.bitOr (0 * 2 ^ k) hi).fmod m * 2 ^ k) lo).fdiv m = 0) :
    Nat2 (2 ^ k) (v / m) [] ∧ (Builtin.bitOr ((Builtin.bitOr (0 * 2 ^ k) hi).fmod m * 2 ^ k) lo).fmod m = v % m := by
  obtain ⟨a, b, c, d, e, f⟩ := d_two (m := m) h0 h1 (Int.le_of_lt h2) h3 hm
  subst hv
  rw [h, h', Int.zero_mul] at a
  exact ⟨.zero (by omega), b⟩
end

theorem lim_eq {x i : Int} {t : Tok} (h : i = x) (h0 : 0 < x) (h1 : x < 32) : Lim x [.int i t] := by subst h; exact .one t h0 h1
theorem small_cut {v : Int} {k : Nat} (h0 : 0 ≤ v) (h1 : v < 2 ^ k) : v.fdiv (2 ^ k) = 0 ∧ Builtin.bitAnd v (2 ^ k - 1) = v := by
  have e : v.fdiv (2 ^ k) = 0 := by
    rw [Int.fdiv_eq_ediv_of_nonneg _ (Int.le_of_lt (kbt_pos k))]
    exact Int.ediv_eq_zero_of_lt h0 h1
  have a := (cut2 v k).1
  rw [e, Int.zero_mul, Int.zero_add] at a
  exact ⟨e, a⟩

/-- a number with a sign and a size of one limb -/
def Sg (z : Int) (b : Bool) (vs : List Value) : Prop := b = decide (z < 0) ∧ Lim (z.natAbs : Int) vs
theorem Lim.congr {x y : Int} {vs : List Value} (h : Lim x vs) (e : x = y) : Lim y vs := e ▸ h
theorem Lim.nonneg {x : Int} {vs : List Value} (h : Lim x vs) : 0 ≤ x ∧ x < 32 := by cases h <;> omega
theorem Nat2.lim {B x : Int} {vs : List Value} (h : Nat2 B x vs) (hB : 32 ≤ B) (hx : x < 32) : Lim x vs := by
  cases h with
  | zero e => exact .zero e
  | one t h0 h1 => exact .one t h0 hx
  | two lo hi t t' h0 h1 h2 h3 e =>
    have : 1 * B ≤ hi * B := Int.mul_le_mul_of_nonneg_right (by omega) (by omega)
    omega
theorem Lim.nat2 {B x : Int} {vs : List Value} (h : Lim x vs) (hB : 32 ≤ B) : Nat2 B x vs := by
  cases h with
  | zero e => exact .zero e
  | one t h0 h1 => exact .one t h0 (by omega)
theorem Lim.pos1 {x : Int} {vs : List Value} (h : Lim x vs) : Pos1 x vs := by
  cases h with
  | zero e => exact .zero e
  | one t h0 h1 => exact .one t h0
theorem sg_t {z : Int} {b : Bool} {vs : List Value} {x : Int} (h : Lim x vs) (e : b = (true && decide (x ≠ 0))) (hx : x = z.natAbs) (hz : z ≤ 0) : Sg z b vs := by
  subst hx
  refine ⟨e.trans ?_, h⟩
  simp only [Bool.true_and]
  exact decide_eq_decide.mpr (by omega)
theorem sg_f {z : Int} {b : Bool} {vs : List Value} {x : Int} (h : Lim x vs) (e : b = (false && decide (x ≠ 0))) (hx : x = z.natAbs) (hz : 0 ≤ z) : Sg z b vs := by
  subst hx
  refine ⟨e.trans ?_, h⟩
  simp only [Bool.false_and]
  exact (decide_eq_false (by omega)).symm
theorem neg_sign {z : Int} {b c : Bool} (hb : b = decide (z < 0)) (h : c = (!b && decide ((z.natAbs : Int) ≠ 0))) : c = decide (-z < 0) := by
  rw [h, hb]
  by_cases q : z < 0
  · rw [decide_eq_true q]; simp only [Bool.not_true, Bool.false_and]; exact (decide_eq_false (by omega)).symm
  · rw [decide_eq_false q]; simp only [Bool.not_false, Bool.true_and]; exact decide_eq_decide.mpr (by omega)
theorem Sg.neg {z : Int} {b c : Bool} {vs : List Value} (h : c = decide (-z < 0)) (hz : Sg z b vs) : Sg (-z) c vs := ⟨h, hz.2.congr (by omega)⟩
theorem Sg.of_t {x : Int} {c : Bool} {vs : List Value} (e : c = (true && decide (x ≠ 0))) (h : Lim x vs) : Sg (-x) c vs :=
  sg_t h e (by have := h.nonneg; omega) (by have := h.nonneg; omega)
theorem Sg.of_f {x : Int} {c : Bool} {vs : List Value} (e : c = (false && decide (x ≠ 0))) (h : Lim x vs) : Sg x c vs :=
  sg_f h e (by have := h.nonneg; omega) (by have := h.nonneg; omega)
theorem mod_down {z m : Int} (hz : z < 0) (hm : 0 < m) (h : 0 < (z.natAbs : Int) % m) : z % m = -((z.natAbs : Int) % m) + m := by
  have e : (z.natAbs : Int) = -z := by omega
  rw [e] at h ⊢
  have h1 := Int.emod_lt_of_pos (-z) hm
  have h2 : -z = -z % m + m * (-z / m) := (Int.emod_add_mul_ediv (-z) m).symm
  have h3 : z = (-(-z % m) + m) + m * (-(-z / m) - 1) := by
    rw [Int.mul_sub, Int.mul_neg, Int.mul_one]
    omega
  have h4 : z % m = ((-(-z % m) + m) + m * (-(-z / m) - 1)) % m := by rw [← h3]
  rw [h4, Int.add_mul_emod_self_left]
  exact Int.emod_eq_of_lt (by omega) (by omega)
theorem mod_down0 {z m : Int} (hz : z < 0) (h : (z.natAbs : Int) % m = 0) : z % m = 0 := by
  have e : (z.natAbs : Int) = -z := by omega
  rw [e] at h
  exact Int.emod_eq_zero_of_dvd ((Int.dvd_neg).mp (Int.dvd_of_emod_eq_zero h))
theorem mod_up {z m : Int} (hz : ¬ z < 0) : z % m = (z.natAbs : Int) % m := by
  have e : (z.natAbs : Int) = z := by omega
  rw [e]
def NewTT (P : Bool → List Value → Bool → List Value → Prop) (r : Value) (tl : Led) : Prop := ∃ d a1 a2 b1 l1 b2 l2 n1 q n2 v, r = .ref d ∧
  tl = [(d, tupOf [.ref a1, .ref a2]), (a1, tupOf [.bool b1, .ref l1]), (a2, tupOf [.bool b2, .ref l2]), (l1, listOf q.toArray n1), (l2, listOf v.toArray n2)] ∧ P b1 q b2 v
def NewT2 (P : List Value → Prop) (r : Value) (tl : Led) : Prop := ∃ d a1 a2 b2 l2 n2 v, r = .ref d ∧
  tl = [(d, tupOf [.ref a1, .ref a2]), (a2, tupOf [.bool b2, .ref l2]), (l2, listOf v.toArray n2)] ∧ P v
/-- what tdiv gives -/
def TD (z m : Int) (b1 : Bool) (q : List Value) (b2 : Bool) (v : List Value) : Prop := Lim ((z.natAbs : Int) / m) q ∧ Lim ((z.natAbs : Int) % m) v ∧ Sg (if z < 0 then -((z.natAbs : Int) % m) else (z.natAbs : Int) % m) b2 v
theorem td_t {z m : Int} {b1 b2 : Bool} {q v : List Value} (hz : z < 0) (hq : Lim ((z.natAbs : Int) / m) q) (hv : Lim ((z.natAbs : Int) % m) v) (h : b2 = (true && decide ((z.natAbs : Int) % m ≠ 0))) : TD z m b1 q b2 v :=
  ⟨hq, hv, by rw [if_pos hz]; exact Sg.of_t h hv⟩
theorem td_f {z m : Int} {b1 b2 : Bool} {q v : List Value} (hz : ¬ z < 0) (hq : Lim ((z.natAbs : Int) / m) q) (hv : Lim ((z.natAbs : Int) % m) v) (h : b2 = (false && decide ((z.natAbs : Int) % m ≠ 0))) : TD z m b1 q b2 v :=
  ⟨hq, hv, by rw [if_neg hz]; exact Sg.of_f h hv⟩
theorem td_facts {z m : Int} {vs : List Value} (h : Lim (z.natAbs : Int) vs) (hm : 3 ≤ m) : (z.natAbs : Int) / m < 31 ∧ 0 ≤ (z.natAbs : Int) / m ∧ 0 ≤ (z.natAbs : Int) % m ∧ (z.natAbs : Int) % m < m := by
  have hn := h.nonneg
  exact ⟨Int.ediv_lt_of_lt_mul (by omega) (by omega), Int.ediv_nonneg (by omega) (by omega), Int.emod_nonneg _ (by omega), Int.emod_lt_of_pos _ (by omega)⟩
theorem TD.t {z m : Int} {b1 b2 : Bool} {q v : List Value} (h : TD z m b1 q b2 v) (hz : z < 0) : Lim ((z.natAbs : Int) / m) q ∧ Lim ((z.natAbs : Int) % m) v ∧ Lim ((z.natAbs : Int) % m) v ∧ Sg (-((z.natAbs : Int) % m)) b2 v := by
  have := h.2.2; rw [if_pos hz] at this; exact ⟨h.1, h.2.1, h.2.1, this⟩
theorem TD.f {z m : Int} {b1 b2 : Bool} {q v : List Value} (h : TD z m b1 q b2 v) (hz : ¬ z < 0) : Lim ((z.natAbs : Int) / m) q ∧ Lim ((z.natAbs : Int) % m) v ∧ Lim ((z.natAbs : Int) % m) v ∧ Sg ((z.natAbs : Int) % m) b2 v := by
  have := h.2.2; rw [if_neg hz] at this; exact ⟨h.1, h.2.1, h.2.1, this⟩
theorem NewTT.mono {P Q : Bool → List Value → Bool → List Value → Prop} (h : ∀ a b c d, P a b c d → Q a b c d) (r : Value) (tl : Led) (x : NewTT P r tl) : NewTT Q r tl := by
  obtain ⟨d, a1, a2, b1, l1, b2, l2, n1, q, n2, v, e1, e2, hp⟩ := x
  exact ⟨d, a1, a2, b1, l1, b2, l2, n1, q, n2, v, e1, e2, h _ _ _ _ hp⟩
theorem sg_mod {m : Int} {t : Tok} (hm : 3 ≤ m) (hm' : m < 32) : Sg m false [.int m t] := ⟨(decide_eq_false (by omega)).symm, lim_eq (by omega) (by omega) (by omega)⟩
/-- as Meets, what comes back may stand already -/
def MeetsE (w : World) (mean : ExcName → Option Value) (mg mb : Str → Option Value) (k : Nat) (f : Addr) (vs : List Value) (al : Led) (post : Value → Led → Prop) : Prop :=
  ∀ (dp un : Nat) (gd : Option (List Code)) (env : Env) (outer : List Env) (A₀ : Around) (base h₀ : Heap) (L : Addr) (m : Str → Option Value) (news : Led) (s : Shared) (Q E : Value → Shared → Prop),
    Below A₀ base outer h₀ → Fr h₀ L s.heap m → (hd.heap_1 w.params).In h₀ → News h₀ L s.heap news → Top vw (looseW vw []) mean mg mb h₀ → env.frame = some L → env.scope.kind = .function →
    (∀ p ∈ al, p ∈ news) → dp + k < recursionLimit → un + 8 * k < cLine →
    (∀ r tl h' tk', post r tl → Fr h₀ L h' m → News h₀ L h' (tl ++ news) → Q r { s with heap := h', toks := tk' }) →
    wpAny (model PySem.Challenge.rw_xm0441_01.row.prog w) (aroundOf dp un gd (env :: outer)) (call (.ref f) vs) Q E s

def LeaveE (g : Heap) (al : Led) (post : Value → Led → Prop) (s : Shared) (v : Value) (s' : Shared) : Prop :=
  ∃ L' m' tl h' tk', s' = { s with heap := h', toks := tk' } ∧ Fr g L' h' m' ∧ News g L' h' (tl ++ al) ∧ post v tl

theorem meetsE_of {w : World} {mean : ExcName → Option Value} {mg mb : Str → Option Value} {k : Nat} {f : Addr} {vs : List Value} {al : Led} {post : Value → Led → Prop}
    {name qual : Str} {params : Arguments} {body : List Stmt} {scope : Scope} {dV kV doc pm cdv ct oc : Value} {an od : Option Addr} {osl : Array (Option Value)} {binds : List (Str × Value)}
    (ho : (hd.heap_1 w.params).lookup f = some ⟨oc, od, .func (fnOf name qual params body scope dV kV doc pm an cdv ct), osl⟩) (hcd : codeIn (hd.heap_1 w.params) cdv qual = true)
    (hbind : ∀ s, BindsTo s (fnOf name qual params body scope dV kV doc pm an cdv ct) ⟨vs, []⟩ binds) (hloc : ∀ y ∈ binds, scope.names.lookup y.1 = some .local)
    (hco : scope.isCoroutine = false) (hgen : scope.isGenerator = false) (hk : scope.kind = .function) (hcell : ∀ x ∈ scope.names, x.2 ≠ .cell) (hk1 : 1 ≤ k)
    (h : ∀ (dp un : Nat) (gd : Option (List Code)) (outer : List Env) (base g : Heap) (L' : Addr) (h₁ : Heap) (s : Shared) (Er : Value → Shared → Prop),
      Fr g L' h₁ (fun y => binds.reverse.lookup y) → News g L' h₁ al → Below (aroundOf dp un gd outer) base outer g → (hd.heap_1 w.params).In g → Top vw (looseW vw []) mean mg mb g →
      dp + k < recursionLimit → un + 8 * k < cLine →
      wpAny (model PySem.Challenge.rw_xm0441_01.row.prog w) ((aroundOf dp un gd outer).deeper (envOf qual scope L' f cdv)) (execs body (envOf qual scope L' f cdv))
        (fun fl s' => LeaveE g al post s (match fl with | .ret v => v | _ => .none) s')
        (fun e s' => wpAny (model PySem.Challenge.rw_xm0441_01.row.prog w) ((aroundOf dp un gd outer).deeper (envOf qual scope L' f cdv)) (leaving (envOf qual scope L' f cdv) e) (fun _ s'' => Er e s'') (fun e' s'' => Er e' s'') s')
        { s with heap := h₁, toks := s.toks + binds.length }) :
    MeetsE w mean mg mb k f vs al post := by
  intro dp un gd env outer A₀ base h₀ L m news s Q E B F X₀ N T hf hke hal hdp hun hret
  have Na : News h₀ L s.heap al := fun p hp => N p (hal p hp)
  have X := X₀.keeps F.keep
  refine wpAny_call ?_
  obtain ⟨FG, BG, st, lv⟩ := groundX (A := aroundOf dp un gd (env :: outer)) (R := fun r s' => Fr h₀ L s'.heap m) B F Na rfl hf hke
  have st' : ∀ q ∈ news, q.1 ∉ al.map (·.1) → (hideAll s.heap (al.map (·.1))).get? q.1 = some q.2 := fun q hq hn => hideAll_get _ (N q hq).1 hn
  refine codeAny_call_def (fd := fnOf name qual params body scope dV kV doc pm an cdv ct) (body := body) (binds := binds) (by show dp < recursionLimit; omega) (X _ _ ho) rfl (T.nolimit.keeps F.keep) (codeRec_of X hcd) rfl (hbind s) hcell hloc (fun h₁ hns hk₁ => ?_) hco hgen hk
  refine wpAny_mono (h dp un gd (env :: outer) base _ s.heap.objs.size h₁ s E ⟨hns, fun b o e => hk₁ b o (of_hideAll _ e), Nat.le_of_eq (hideAll_size _ _)⟩
    (fun p hp => ⟨hk₁ _ _ (Na p hp).1, Nat.ne_of_lt (Heap.lt_size (Na p hp).1), hideAll_none _ (List.mem_map_of_mem hp)⟩)
    ⟨rfl, BG.stays, BG.frames⟩ (X₀.keeps st) (T.keeps st) hdp hun) (fun fl s' hl => ?_) fun _ _ y => y
  obtain ⟨L', m', tl, h', tk', rfl, F', N', hp⟩ := hl
  have Fh : Fr h₀ L h' m := lv (match fl with | .ret v => v | _ => .none) { s with heap := h', toks := tk' } ⟨L', m', _, F', N', fun a _ => a⟩
  have new : ∀ p ∈ tl ++ al, (hideAll s.heap (al.map (·.1))).get? p.1 = none := fun p hp' => (N' p hp').2.2
  refine hret _ tl h' tk' hp Fh (fun p hp' => ?_)
  rcases List.mem_append.mp hp' with hp' | hp'
  · have hn := new p (List.mem_append_left _ hp')
    refine ⟨(N' p (List.mem_append_left _ hp')).1, fun e => ?_, ?_⟩
    · obtain ⟨o, _, _, hL, _⟩ := FG.ns
      rw [e, hL] at hn
      cases hn
    · cases q : h₀.get? p.1 with
      | none => rfl
      | some o => rw [st _ _ q] at hn; cases hn
  · refine ⟨?_, (N p hp').2⟩
    by_cases hm : p.1 ∈ al.map (·.1)
    · obtain ⟨q, hq, e⟩ := List.mem_map.mp hm
      have h1 := (Na q hq).1
      have h2 := (N p hp').1
      rw [e] at h1
      have h3 : q.2 = p.2 := Option.some.inj (h1.symm.trans h2)
      have := (N' q (List.mem_append_right _ hq)).1
      rw [e, h3] at this
      exact this
    · exact F'.keep _ _ (st' p hp' hm)

theorem MeetsE.use {w : World} {mean : ExcName → Option Value} {mg mb : Str → Option Value} {k : Nat} {f : Addr} {vs : List Value} {al : Led} {post : Value → Led → Prop}
    (C : MeetsE w mean mg mb k f vs al post)
    {dp un : Nat} {gd : Option (List Code)} {env : Env} {outer : List Env} {A₀ : Around} {base h₀ : Heap} {L : Addr} {m : Str → Option Value} {news : Led} {s : Shared} {Q E : Value → Shared → Prop}
    (B : Below A₀ base outer h₀) (F : Fr h₀ L s.heap m) (X : (hd.heap_1 w.params).In h₀) (N : News h₀ L s.heap news) (T : Top vw (looseW vw []) mean mg mb h₀) (hf : env.frame = some L) (hke : env.scope.kind = .function)
    (hal : ∀ p ∈ al, p ∈ news) (hdp : dp + k < recursionLimit) (hun : un + 8 * k < cLine)
    (ret : ∀ r tl h' tk', post r tl → Fr h₀ L h' m → News h₀ L h' (tl ++ news) → Q r { s with heap := h', toks := tk' }) :
    wpAny (model PySem.Challenge.rw_xm0441_01.row.prog w) (aroundOf dp un gd (env :: outer)) (call (.ref f) vs) Q E s :=
  C dp un gd env outer A₀ base h₀ L m news s Q E B F X N T hf hke hal hdp hun ret
theorem leaveE_ {g : Heap} {al led : Led} {post : Value → Led → Prop} {s : Shared} {v : Value} {L' : Addr} {m' : Str → Option Value} {h' : Heap} {tk' : Nat} (tl : Led)
    (F : Fr g L' h' m') (N : News g L' h' led) (hp : post v tl) (hs : ∀ p ∈ tl ++ al, p ∈ led) : LeaveE g al post s v { s with heap := h', toks := tk' } :=
  ⟨L', m', tl, h', tk', rfl, F, fun p hp => N p (hs p hp), hp⟩
theorem Meets.toE {w : World} {mean : ExcName → Option Value} {mg mb : Str → Option Value} {k : Nat} {f : Addr} {vs : List Value} {al : Led} {post : Value → Led → Prop} (C : Meets w mean mg mb k f vs al post) : MeetsE w mean mg mb k f vs al post :=
  fun dp un gd env outer A₀ base h₀ L m news s Q E B F X N T hf hke hal hdp hun ret => C dp un gd env outer A₀ base h₀ L m news s Q E B F X N T hf hke hal hdp hun fun r tl h' tk' a b c _ => ret r tl h' tk' a b c

/-- what gcd_ext gives: the divisor's list, the first cofactor -/
def NewG (P : List Value → Bool → List Value → Prop) (r : Value) (tl : Led) : Prop := ∃ d la va na sa ta b ls vs ns, r = .ref d ∧
  tl = [(d, tupOf [.ref la, .ref sa, .ref ta]), (la, listOf va.toArray na), (sa, tupOf [.bool b, .ref ls]), (ls, listOf vs.toArray ns)] ∧ P va b vs

/-- the loop of gcd_ext on plain numbers; none where a size would pass one limb -/
def gl : Nat → Int → Int → Int → Int → Int → Int → Option (Int × Int)
  | 0, _, _, _, _, _, _ => none
  | n + 1, a, b, s0, s1, t0, t1 =>
    if b = 0 then some (a, s0) else
    if a / b < 32 ∧ ((a / b).natAbs : Int) * s1.natAbs < 32 ∧ -32 < s0 - a / b * s1 ∧ s0 - a / b * s1 < 32 ∧ ((a / b).natAbs : Int) * t1.natAbs < 32 ∧ -32 < t0 - a / b * t1 ∧ t0 - a / b * t1 < 32
    then gl n b (a % b) s1 (s0 - a / b * s1) t1 (t0 - a / b * t1) else none
theorem gl_end {n : Nat} {a s0 s1 t0 t1 : Int} {r : Int × Int} (h : gl n a 0 s0 s1 t0 t1 = some r) : r = (a, s0) := by
  cases n with
  | zero => simp [gl] at h
  | succ n => simp [gl] at h; exact h.symm
theorem gl_step {n : Nat} {a b s0 s1 t0 t1 : Int} {r : Int × Int} (hb : 0 < b) (h : gl n a b s0 s1 t0 t1 = some r) :
    (∃ n', n' < n ∧ gl n' b (a % b) s1 (s0 - a / b * s1) t1 (t0 - a / b * t1) = some r) ∧ a / b < 32 ∧ ((a / b).natAbs : Int) * s1.natAbs < 32 ∧ -32 < s0 - a / b * s1 ∧ s0 - a / b * s1 < 32 ∧ ((a / b).natAbs : Int) * t1.natAbs < 32 ∧ -32 < t0 - a / b * t1 ∧ t0 - a / b * t1 < 32 := by
  cases n with
  | zero => simp [gl] at h
  | succ n =>
    rw [gl, if_neg (by omega)] at h
    split at h
    · rename_i c
      exact ⟨⟨n, Nat.lt_succ_self n, h⟩, c⟩
    · cases h
/-- the frame in the loop -/
def GM (la lb sa sb ta tb : Addr) (wd : Int) (tw : Tok) (r : Str → Option Value) : Str → Option Value := fun y =>
  if y = Str.ofString "a" then some (.ref la) else if y = Str.ofString "b" then some (.ref lb) else if y = Str.ofString "s" then some (.ref sa) else if y = Str.ofString "later_s" then some (.ref sb)
  else if y = Str.ofString "t" then some (.ref ta) else if y = Str.ofString "later_t" then some (.ref tb) else if y = Str.ofString "w" then some (.int wd tw) else if y = Str.ofString "mul" then some (.ref 210) else if y = Str.ofString "divrem" then some (.ref 252) else r y
theorem gm_eq {m : Str → Option Value} {la lb sa sb ta tb : Addr} {wd : Int} {tw : Tok} (h1 : m (Str.ofString "a") = some (.ref la)) (h2 : m (Str.ofString "b") = some (.ref lb)) (h3 : m (Str.ofString "s") = some (.ref sa)) (h4 : m (Str.ofString "later_s") = some (.ref sb))
    (h5 : m (Str.ofString "t") = some (.ref ta)) (h6 : m (Str.ofString "later_t") = some (.ref tb)) (h7 : m (Str.ofString "w") = some (.int wd tw)) (h8 : m (Str.ofString "mul") = some (.ref 210)) (h9 : m (Str.ofString "divrem") = some (.ref 252)) : m = GM la lb sa sb ta tb wd tw m := by
  funext y
  unfold GM
  repeat' split
  all_goals first
    | rfl
    | (rename_i e; subst e; assumption)
/-- between the turns -/
inductive GJ (al : Led) (wd : Int) (tw : Tok) (res : Int × Int) (n : Nat) (m : Str → Option Value) (nx : Led) : Prop
  | mk (a b s0 s1 t0 t1 : Int) (la lb sa sb ta tb ks0 ks1 kt0 kt1 : Addr) (va vb vs0 vs1 vt0 vt1 : List Value) (bs0 bs1 bt0 bt1 : Bool) (na nb ns0 ns1 nt0 nt1 : Nat)
    (hg : gl n a b s0 s1 t0 t1 = some res) (h1 : Lim a va) (h2 : Lim b vb) (h3 : Sg s0 bs0 vs0) (h4 : Sg s1 bs1 vs1) (h5 : Sg t0 bt0 vt0) (h6 : Sg t1 bt1 vt1)
    (e1 : m (Str.ofString "a") = some (.ref la)) (e2 : m (Str.ofString "b") = some (.ref lb)) (e3 : m (Str.ofString "s") = some (.ref sa)) (e4 : m (Str.ofString "later_s") = some (.ref sb)) (e5 : m (Str.ofString "t") = some (.ref ta)) (e6 : m (Str.ofString "later_t") = some (.ref tb))
    (e7 : m (Str.ofString "w") = some (.int wd tw)) (e8 : m (Str.ofString "mul") = some (.ref 210)) (e9 : m (Str.ofString "divrem") = some (.ref 252))
    (hs : ∀ p ∈ (la, listOf va.toArray na) :: (lb, listOf vb.toArray nb) :: (sa, tupOf [.bool bs0, .ref ks0]) :: (ks0, listOf vs0.toArray ns0) :: (sb, tupOf [.bool bs1, .ref ks1]) :: (ks1, listOf vs1.toArray ns1) ::
      (ta, tupOf [.bool bt0, .ref kt0]) :: (kt0, listOf vt0.toArray nt0) :: (tb, tupOf [.bool bt1, .ref kt1]) :: (kt1, listOf vt1.toArray nt1) :: al, p ∈ nx) : GJ al wd tw res n m nx
theorem step2 {h₀ : Heap} {L : Addr} {s : Shared} {J : Nat → (Str → Option Value) → Led → Prop} {Q : Flow → Shared → Prop} {n n' : Nat} {h' : Heap} {m' : Str → Option Value} {nx : Led} {tk : Nat}
    (F : Fr h₀ L h' m') (N : News h₀ L h' nx) (hn : n' < n) (hj : J n' m' nx) : WhileStep2 h₀ L s J Q n .next { s with heap := h', toks := tk } := ⟨h', tk, m', nx, n', rfl, F, N, hn, hj⟩
theorem sg_one {t : Tok} : Sg 1 false [.int 1 t] := ⟨by decide, .one t (by decide) (by decide)⟩
theorem sg_zero : Sg 0 false [] := ⟨by decide, .zero (by decide)⟩
/-- an int comes back; a first call from the law's own frame: an exception may have been raised and caught below -/
def MeetsT (w : World) (mean : ExcName → Option Value) (mg mb : Str → Option Value) (k : Nat) (f : Addr) (vs : List Value) (post : Int → Prop) : Prop :=
  ∀ (dp un : Nat) (gd : Option (List Code)) (env : Env) (A₀ : Around) (h₀ : Heap) (L : Addr) (m : Str → Option Value) (news : Led) (s : Shared) (Q E : Value → Shared → Prop),
    Below A₀ h₀ [] h₀ → Fr h₀ L s.heap m → (hd.heap_1 w.params).In h₀ → News h₀ L s.heap news → Top vw (looseW vw []) mean mg mb h₀ → env.frame = some L → env.scope.kind = .function →
    dp + k < recursionLimit → un + 8 * k < cLine →
    (∀ c t h' tk', post c → Fr h₀ L h' m → News h₀ L h' news → Q (.int c t) { s with heap := h', toks := tk' }) →
    wpAny (model PySem.Challenge.rw_xm0441_01.row.prog w) (aroundOf dp un gd [env]) (call (.ref f) vs) Q E s

def LeaveT (fs : List Addr) (g : Heap) (post : Int → Prop) (s : Shared) (v : Value) (s' : Shared) : Prop :=
  ∃ g' L' m' c t h' tk', s' = { s with heap := h', toks := tk' } ∧ KtsTurn fs g g' ∧ Fr g' L' h' m' ∧ v = .int c t ∧ post c
theorem leaveT_ {fs : List Addr} {g g' : Heap} {post : Int → Prop} {s : Shared} {c : Int} {t : Tok} {L' : Addr} {m' : Str → Option Value} {h' : Heap} {tk' : Nat} (F : Fr g' L' h' m') (T : KtsTurn fs g g') (hp : post c) : LeaveT fs g post s (.int c t) { s with heap := h', toks := tk' } :=
  ⟨g', L', m', c, t, h', tk', rfl, T, F, rfl, hp⟩

theorem meetsT_of {w : World} {mean : ExcName → Option Value} {mg mb : Str → Option Value} {k : Nat} {f : Addr} {vs : List Value} {post : Int → Prop}
    {name qual : Str} {params : Arguments} {body : List Stmt} {scope : Scope} {dV kV doc pm cdv ct oc : Value} {an od : Option Addr} {osl : Array (Option Value)} {binds : List (Str × Value)}
    (ho : (hd.heap_1 w.params).lookup f = some ⟨oc, od, .func (fnOf name qual params body scope dV kV doc pm an cdv ct), osl⟩) (hcd : codeIn (hd.heap_1 w.params) cdv qual = true)
    (hbind : ∀ s, BindsTo s (fnOf name qual params body scope dV kV doc pm an cdv ct) ⟨vs, []⟩ binds) (hloc : ∀ y ∈ binds, scope.names.lookup y.1 = some .local)
    (hco : scope.isCoroutine = false) (hgen : scope.isGenerator = false) (hk : scope.kind = .function) (hcell : ∀ x ∈ scope.names, x.2 ≠ .cell) (hk1 : 1 ≤ k)
    (h : ∀ (dp un : Nat) (gd : Option (List Code)) (env : Env) (base g : Heap) (L' : Addr) (h₁ : Heap) (s : Shared) (Er : Value → Shared → Prop),
      Fr g L' h₁ (fun y => binds.reverse.lookup y) → News g L' h₁ [] → Below (aroundOf dp un gd [env]) base [env] g → (hd.heap_1 w.params).In g → Top vw (looseW vw []) mean mg mb g →
      (hd.heap_1 w.params).In base → Top vw (looseW vw []) mean mg mb base → KtsDicts ([env].filterMap (·.frame)) g →
      dp + k < recursionLimit → un + 8 * k < cLine →
      wpAny (model PySem.Challenge.rw_xm0441_01.row.prog w) ((aroundOf dp un gd [env]).deeper (envOf qual scope L' f cdv)) (execs body (envOf qual scope L' f cdv))
        (fun fl s' => LeaveT ([env].filterMap (·.frame)) g post s (match fl with | .ret v => v | _ => .none) s')
        (fun e s' => wpAny (model PySem.Challenge.rw_xm0441_01.row.prog w) ((aroundOf dp un gd [env]).deeper (envOf qual scope L' f cdv)) (leaving (envOf qual scope L' f cdv) e) (fun _ s'' => Er e s'') (fun e' s'' => Er e' s'') s')
        { s with heap := h₁, toks := s.toks + binds.length }) :
    MeetsT w mean mg mb k f vs post := by
  intro dp un gd env A₀ h₀ L m news s Q E B F X₀ N T hf hke hdp hun hret
  have X := X₀.keeps F.keep
  refine wpAny_call ?_
  obtain ⟨FG, BG, st, lv⟩ := groundX (A := aroundOf dp un gd [env]) (R := fun r s' => Fr h₀ L s'.heap m) (news := []) B F News.nil rfl hf hke
  obtain ⟨oL, es, ep, hL, hLd, hLk, hLf⟩ := FG.ns
  have hfs : [env].filterMap (·.frame) = [L] := by simp [hf]
  have nL : h₀.get? L = none := by
    cases q : h₀.get? L with
    | none => rfl
    | some o => exact absurd (Nat.lt_of_lt_of_le (Heap.lt_size q) F.above) (Nat.lt_irrefl _)
  refine codeAny_call_def (fd := fnOf name qual params body scope dV kV doc pm an cdv ct) (body := body) (binds := binds) (by show dp < recursionLimit; omega) (X _ _ ho) rfl (T.nolimit.keeps F.keep) (codeRec_of X hcd) rfl (hbind s) hcell hloc (fun h₁ hns hk₁ => ?_) hco hgen hk
  refine wpAny_mono (h dp un gd env h₀ _ s.heap.objs.size h₁ s E ⟨hns, fun b o e => hk₁ b o (of_hideAll _ e), Nat.le_of_eq (hideAll_size _ _)⟩
    News.nil ⟨rfl, BG.stays, BG.frames⟩ (X₀.keeps st) (T.keeps st) X₀ T (fun b hb => by
      rw [hfs] at hb
      rw [List.mem_singleton.mp hb]
      exact ⟨oL, es, ep, hL, hLd⟩) hdp hun) (fun fl s' hl => ?_) fun _ _ y => y
  obtain ⟨g', L', m', c, t, h', tk', rfl, T', F', hv, hp⟩ := hl
  have other : ∀ b o, s.heap.get? b = some o → b ≠ L → h'.get? b = some o := fun b o e hb =>
    F'.keep b o (T'.other b o (hideAll_get [] e (fun q => nomatch q)) (fun q => by rw [hfs] at q; exact hb (List.mem_singleton.mp q)))
  obtain ⟨sl, hs⟩ := T'.up hL
  have Fh : Fr h₀ L h' m := ⟨⟨_, es, ep, F'.keep _ _ hs, hLd, hLk, hLf⟩, fun b o e => other b o (F.keep b o e) (fun q => by rw [q, nL] at e; cases e), F.above⟩
  have := hret c t h' tk' hp Fh fun p hp => ⟨other _ _ (N p hp).1 (N p hp).2.1, (N p hp).2⟩
  rw [← hv] at this
  exact this
theorem Meets.toT {w : World} {mean : ExcName → Option Value} {mg mb : Str → Option Value} {k : Nat} {f : Addr} {vs : List Value} {post : Int → Prop} (C : Meets w mean mg mb k f vs [] (NewI post)) : MeetsT w mean mg mb k f vs post :=
  fun dp un gd env A₀ h₀ L m news s Q E B F X N T hf hke hdp hun ret => C dp un gd env [] A₀ h₀ h₀ L m news s Q E B F X N T hf hke (fun _ h => nomatch h) hdp hun fun r tl h' tk' ⟨c, t, e1, e2, hp⟩ F' N' _ => by
    subst e1 e2
    exact ret c t h' tk' hp F' N'
theorem MeetsT.mono {w : World} {mean : ExcName → Option Value} {mg mb : Str → Option Value} {k : Nat} {f : Addr} {vs : List Value} {post post' : Int → Prop} (C : MeetsT w mean mg mb k f vs post) (h : ∀ c, post c → post' c) : MeetsT w mean mg mb k f vs post' :=
  fun dp un gd env A₀ h₀ L m news s Q E B F X N T hf hke hdp hun ret => C dp un gd env A₀ h₀ L m news s Q E B F X N T hf hke hdp hun fun c t h' tk' hp => ret c t h' tk' (h c hp)
theorem MeetsT.use {w : World} {mean : ExcName → Option Value} {mg mb : Str → Option Value} {k : Nat} {f : Addr} {vs : List Value} {post : Int → Prop}
    (C : MeetsT w mean mg mb k f vs post)
    {dp un : Nat} {gd : Option (List Code)} {env : Env} {A₀ : Around} {h₀ : Heap} {L : Addr} {m : Str → Option Value} {news : Led} {s : Shared} {Q E : Value → Shared → Prop}
    (B : Below A₀ h₀ [] h₀) (F : Fr h₀ L s.heap m) (X : (hd.heap_1 w.params).In h₀) (N : News h₀ L s.heap news) (T : Top vw (looseW vw []) mean mg mb h₀) (hf : env.frame = some L) (hke : env.scope.kind = .function)
    (hdp : dp + k < recursionLimit) (hun : un + 8 * k < cLine)
    (ret : ∀ c t h' tk', post c → Fr h₀ L h' m → News h₀ L h' news → Q (.int c t) { s with heap := h', toks := tk' }) :
    wpAny (model PySem.Challenge.rw_xm0441_01.row.prog w) (aroundOf dp un gd [env]) (call (.ref f) vs) Q E s :=
  C dp un gd env A₀ h₀ L m news s Q E B F X N T hf hke hdp hun ret
/-- a new address is none of a ledger's -/
def Offs (a : Addr) (l : Led) : Prop := ∀ q ∈ l, @Ne Nat a q.1
theorem Offs.ne {a c : Addr} {o : Obj} {l : Led} (h : Offs a l) (hm : (c, o) ∈ l) : @Ne Nat a c := h (c, o) hm
theorem ne_ltc {a l q : Nat} {R : Prop} (h : a < l ∧ R) (k : a < l ∧ R → q < l) : @Ne Nat l q := Nat.ne_of_gt (k h)
section
variable {w : World} {mean : ExcName → Option Value} {mg mb : Str → Option Value} {k : Nat} {f : Addr} {vs : List Value} {al : Led}
  {dp un : Nat} {gd : Option (List Code)} {env : Env} {outer : List Env} {A₀ : Around} {base h₀ : Heap} {L : Addr} {m : Str → Option Value} {news : Led} {s : Shared} {Q E : Value → Shared → Prop}
theorem Meets.useL {P : List Value → Prop} (B : Below A₀ base outer h₀) (F : Fr h₀ L s.heap m) (X : (hd.heap_1 w.params).In h₀) (N : News h₀ L s.heap news) (T : Top vw (looseW vw []) mean mg mb h₀) (hf : env.frame = some L) (hke : env.scope.kind = .function)
    (hal : ∀ p ∈ al, p ∈ news) (hdp : dp + k < recursionLimit) (hun : un + 8 * k < cLine) (C : Meets w mean mg mb k f vs al (NewL P))
    (ret : ∀ l n vs h' tk', P vs → Fr h₀ L h' m → News h₀ L h' ((l, listOf vs.toArray n) :: news) → Offs l news → Q (.ref l) { s with heap := h', toks := tk' }) :
    wpAny (model PySem.Challenge.rw_xm0441_01.row.prog w) (aroundOf dp un gd (env :: outer)) (call (.ref f) vs) Q E s :=
  C.use B F X N T hf hke hal hdp hun fun r tl h' tk' ⟨l, n, vs, e1, e2, hp⟩ F' N' hn => by
    subst e1 e2
    exact ret l n vs h' tk' hp F' N' fun q hq => hn q hq _ (.head _)
theorem Meets.useI {P : Int → Prop} (B : Below A₀ base outer h₀) (F : Fr h₀ L s.heap m) (X : (hd.heap_1 w.params).In h₀) (N : News h₀ L s.heap news) (T : Top vw (looseW vw []) mean mg mb h₀) (hf : env.frame = some L) (hke : env.scope.kind = .function)
    (hal : ∀ p ∈ al, p ∈ news) (hdp : dp + k < recursionLimit) (hun : un + 8 * k < cLine) (C : Meets w mean mg mb k f vs al (NewI P))
    (ret : ∀ c t h' tk', P c → Fr h₀ L h' m → News h₀ L h' news → Q (.int c t) { s with heap := h', toks := tk' }) :
    wpAny (model PySem.Challenge.rw_xm0441_01.row.prog w) (aroundOf dp un gd (env :: outer)) (call (.ref f) vs) Q E s :=
  C.use B F X N T hf hke hal hdp hun fun r tl h' tk' ⟨c, t, e1, e2, hp⟩ F' N' _ => by
    subst e1 e2
    exact ret c t h' tk' hp F' N'
theorem Meets.useLI {P : List Value → Int → Prop} (B : Below A₀ base outer h₀) (F : Fr h₀ L s.heap m) (X : (hd.heap_1 w.params).In h₀) (N : News h₀ L s.heap news) (T : Top vw (looseW vw []) mean mg mb h₀) (hf : env.frame = some L) (hke : env.scope.kind = .function)
    (hal : ∀ p ∈ al, p ∈ news) (hdp : dp + k < recursionLimit) (hun : un + 8 * k < cLine) (C : Meets w mean mg mb k f vs al (NewLI P))
    (ret : ∀ a l n vs c t h' tk', P vs c → Fr h₀ L h' m → News h₀ L h' ((a, tupOf [.ref l, .int c t]) :: (l, listOf vs.toArray n) :: news) → Offs a news → Offs l news → Q (.ref a) { s with heap := h', toks := tk' }) :
    wpAny (model PySem.Challenge.rw_xm0441_01.row.prog w) (aroundOf dp un gd (env :: outer)) (call (.ref f) vs) Q E s :=
  C.use B F X N T hf hke hal hdp hun fun r tl h' tk' ⟨a, l, n, vs, c, t, e1, e2, hp⟩ F' N' hn => by
    subst e1 e2
    exact ret a l n vs c t h' tk' hp F' N' (fun q hq => hn q hq _ (.head _)) fun q hq => hn q hq _ (.tail _ (.head _))
theorem Meets.useLL {P : List Value → List Value → Prop} (B : Below A₀ base outer h₀) (F : Fr h₀ L s.heap m) (X : (hd.heap_1 w.params).In h₀) (N : News h₀ L s.heap news) (T : Top vw (looseW vw []) mean mg mb h₀) (hf : env.frame = some L) (hke : env.scope.kind = .function)
    (hal : ∀ p ∈ al, p ∈ news) (hdp : dp + k < recursionLimit) (hun : un + 8 * k < cLine) (C : Meets w mean mg mb k f vs al (NewLL P))
    (ret : ∀ a l n vs l' n' vs' h' tk', P vs vs' → Fr h₀ L h' m → News h₀ L h' ((a, tupOf [.ref l, .ref l']) :: (l, listOf vs.toArray n) :: (l', listOf vs'.toArray n') :: news) → Offs a news → Offs l news → Offs l' news → Q (.ref a) { s with heap := h', toks := tk' }) :
    wpAny (model PySem.Challenge.rw_xm0441_01.row.prog w) (aroundOf dp un gd (env :: outer)) (call (.ref f) vs) Q E s :=
  C.use B F X N T hf hke hal hdp hun fun r tl h' tk' ⟨a, l, n, vs, l', n', vs', e1, e2, hp⟩ F' N' hn => by
    subst e1 e2
    exact ret a l n vs l' n' vs' h' tk' hp F' N' (fun q hq => hn q hq _ (.head _)) (fun q hq => hn q hq _ (.tail _ (.head _))) fun q hq => hn q hq _ (.tail _ (.tail _ (.head _)))
theorem Meets.useBL {P : Bool → List Value → Prop} (B : Below A₀ base outer h₀) (F : Fr h₀ L s.heap m) (X : (hd.heap_1 w.params).In h₀) (N : News h₀ L s.heap news) (T : Top vw (looseW vw []) mean mg mb h₀) (hf : env.frame = some L) (hke : env.scope.kind = .function)
    (hal : ∀ p ∈ al, p ∈ news) (hdp : dp + k < recursionLimit) (hun : un + 8 * k < cLine) (C : Meets w mean mg mb k f vs al (NewBL P))
    (ret : ∀ a b l n vs h' tk', P b vs → Fr h₀ L h' m → News h₀ L h' ((a, tupOf [.bool b, .ref l]) :: (l, listOf vs.toArray n) :: news) → Offs a news → Offs l news → Q (.ref a) { s with heap := h', toks := tk' }) :
    wpAny (model PySem.Challenge.rw_xm0441_01.row.prog w) (aroundOf dp un gd (env :: outer)) (call (.ref f) vs) Q E s :=
  C.use B F X N T hf hke hal hdp hun fun r tl h' tk' ⟨a, b, l, n, vs, e1, e2, hp⟩ F' N' hn => by
    subst e1 e2
    exact ret a b l n vs h' tk' hp F' N' (fun q hq => hn q hq _ (.head _)) fun q hq => hn q hq _ (.tail _ (.head _))
theorem Meets.useB {l : Addr} {P : Bool → Prop} (B : Below A₀ base outer h₀) (F : Fr h₀ L s.heap m) (X : (hd.heap_1 w.params).In h₀) (N : News h₀ L s.heap news) (T : Top vw (looseW vw []) mean mg mb h₀) (hf : env.frame = some L) (hke : env.scope.kind = .function)
    (hal : ∀ p ∈ al, p ∈ news) (hdp : dp + k < recursionLimit) (hun : un + 8 * k < cLine) (C : Meets w mean mg mb k f vs al (NewB l P))
    (ret : ∀ a b h' tk', P b → Fr h₀ L h' m → News h₀ L h' ((a, tupOf [.bool b, .ref l]) :: news) → Offs a news → Q (.ref a) { s with heap := h', toks := tk' }) :
    wpAny (model PySem.Challenge.rw_xm0441_01.row.prog w) (aroundOf dp un gd (env :: outer)) (call (.ref f) vs) Q E s :=
  C.use B F X N T hf hke hal hdp hun fun r tl h' tk' ⟨a, b, e1, e2, hp⟩ F' N' hn => by
    subst e1 e2
    exact ret a b h' tk' hp F' N' fun q hq => hn q hq _ (.head _)
theorem Meets.useTT {P : Bool → List Value → Bool → List Value → Prop} (B : Below A₀ base outer h₀) (F : Fr h₀ L s.heap m) (X : (hd.heap_1 w.params).In h₀) (N : News h₀ L s.heap news) (T : Top vw (looseW vw []) mean mg mb h₀) (hf : env.frame = some L) (hke : env.scope.kind = .function)
    (hal : ∀ p ∈ al, p ∈ news) (hdp : dp + k < recursionLimit) (hun : un + 8 * k < cLine) (C : Meets w mean mg mb k f vs al (NewTT P))
    (ret : ∀ d a1 a2 b1 l1 b2 l2 n1 q n2 v h' tk', P b1 q b2 v → Fr h₀ L h' m → News h₀ L h' ((d, tupOf [.ref a1, .ref a2]) :: (a1, tupOf [.bool b1, .ref l1]) :: (a2, tupOf [.bool b2, .ref l2]) :: (l1, listOf q.toArray n1) :: (l2, listOf v.toArray n2) :: news) →
      Offs d news → Offs a1 news → Offs a2 news → Offs l1 news → Offs l2 news → Q (.ref d) { s with heap := h', toks := tk' }) :
    wpAny (model PySem.Challenge.rw_xm0441_01.row.prog w) (aroundOf dp un gd (env :: outer)) (call (.ref f) vs) Q E s :=
  C.use B F X N T hf hke hal hdp hun fun r tl h' tk' ⟨d, a1, a2, b1, l1, b2, l2, n1, q, n2, v, e1, e2, hp⟩ F' N' hn => by
    subst e1 e2
    exact ret d a1 a2 b1 l1 b2 l2 n1 q n2 v h' tk' hp F' N' (fun q hq => hn q hq _ (.head _)) (fun q hq => hn q hq _ (.tail _ (.head _))) (fun q hq => hn q hq _ (.tail _ (.tail _ (.head _)))) (fun q hq => hn q hq _ (.tail _ (.tail _ (.tail _ (.head _))))) fun q hq => hn q hq _ (.tail _ (.tail _ (.tail _ (.tail _ (.head _)))))
theorem Meets.useT2 {P : List Value → Prop} (B : Below A₀ base outer h₀) (F : Fr h₀ L s.heap m) (X : (hd.heap_1 w.params).In h₀) (N : News h₀ L s.heap news) (T : Top vw (looseW vw []) mean mg mb h₀) (hf : env.frame = some L) (hke : env.scope.kind = .function)
    (hal : ∀ p ∈ al, p ∈ news) (hdp : dp + k < recursionLimit) (hun : un + 8 * k < cLine) (C : Meets w mean mg mb k f vs al (NewT2 P))
    (ret : ∀ d a1 a2 b2 l2 n2 v h' tk', P v → Fr h₀ L h' m → News h₀ L h' ((d, tupOf [.ref a1, .ref a2]) :: (a2, tupOf [.bool b2, .ref l2]) :: (l2, listOf v.toArray n2) :: news) → Offs d news → Offs a2 news → Offs l2 news → Q (.ref d) { s with heap := h', toks := tk' }) :
    wpAny (model PySem.Challenge.rw_xm0441_01.row.prog w) (aroundOf dp un gd (env :: outer)) (call (.ref f) vs) Q E s :=
  C.use B F X N T hf hke hal hdp hun fun r tl h' tk' ⟨d, a1, a2, b2, l2, n2, v, e1, e2, hp⟩ F' N' hn => by
    subst e1 e2
    exact ret d a1 a2 b2 l2 n2 v h' tk' hp F' N' (fun q hq => hn q hq _ (.head _)) (fun q hq => hn q hq _ (.tail _ (.head _))) fun q hq => hn q hq _ (.tail _ (.tail _ (.head _)))
theorem MeetsE.useG {P : List Value → Bool → List Value → Prop} (B : Below A₀ base outer h₀) (F : Fr h₀ L s.heap m) (X : (hd.heap_1 w.params).In h₀) (N : News h₀ L s.heap news) (T : Top vw (looseW vw []) mean mg mb h₀) (hf : env.frame = some L) (hke : env.scope.kind = .function)
    (hal : ∀ p ∈ al, p ∈ news) (hdp : dp + k < recursionLimit) (hun : un + 8 * k < cLine) (C : MeetsE w mean mg mb k f vs al (NewG P))
    (ret : ∀ d la va na sa ta b ls vs ns h' tk', P va b vs → Fr h₀ L h' m → News h₀ L h' ((d, tupOf [.ref la, .ref sa, .ref ta]) :: (la, listOf va.toArray na) :: (sa, tupOf [.bool b, .ref ls]) :: (ls, listOf vs.toArray ns) :: news) → Q (.ref d) { s with heap := h', toks := tk' }) :
    wpAny (model PySem.Challenge.rw_xm0441_01.row.prog w) (aroundOf dp un gd (env :: outer)) (call (.ref f) vs) Q E s :=
  C.use B F X N T hf hke hal hdp hun fun r tl h' tk' ⟨d, la, va, na, sa, ta, b, ls, vs, ns, e1, e2, hp⟩ F' N' => by
    subst e1 e2
    exact ret d la va na sa ta b ls vs ns h' tk' hp F' N'
theorem MeetsT.useT {P : Int → Prop} (B : Below A₀ h₀ [] h₀) (F : Fr h₀ L s.heap m) (X : (hd.heap_1 w.params).In h₀) (N : News h₀ L s.heap news) (T : Top vw (looseW vw []) mean mg mb h₀) (hf : env.frame = some L) (hke : env.scope.kind = .function)
    (hdp : dp + k < recursionLimit) (hun : un + 8 * k < cLine) (C : MeetsT w mean mg mb k f vs P)
    (ret : ∀ c t h' tk', P c → Fr h₀ L h' m → News h₀ L h' news → Q (.int c t) { s with heap := h', toks := tk' }) :
    wpAny (model PySem.Challenge.rw_xm0441_01.row.prog w) (aroundOf dp un gd [env]) (call (.ref f) vs) Q E s :=
  C.use B F X N T hf hke hdp hun ret
end
/-- what _law_inverse gives -/
def inv (x m : Int) : Int := if x = 0 then 0 else match gl 10 x m 1 0 0 1 with
  | some (g, z) => if g = 1 then z % m else 0
  | none => 0
theorem gl_all : ((List.range 25).all fun m => (List.range m).all fun x => x == 0 || (gl 10 (x : Int) (m : Int) 1 0 0 1).isSome) = true := by decide +kernel
theorem gl_some {x m : Int} (h0 : 0 < x) (h1 : x < m) (hm : m ≤ 24) : ∃ g z, gl 10 x m 1 0 0 1 = some (g, z) := by
  have h := List.all_eq_true.mp (List.all_eq_true.mp gl_all m.toNat (List.mem_range.mpr (by omega))) x.toNat (List.mem_range.mpr (by omega))
  have e1 : ((x.toNat : Nat) : Int) = x := by omega
  have e2 : ((m.toNat : Nat) : Int) = m := by omega
  rw [e1, e2] at h
  rcases Bool.or_eq_true_iff.mp h with h | h
  · have := beq_iff_eq.mp h; omega
  · obtain ⟨⟨g, z⟩, e⟩ := Option.isSome_iff_exists.mp h
    exact ⟨g, z, e⟩
/-- behind the law's first two lines -/
def LI (h₀ : Heap) (L : Addr) (s s' : Shared) : Prop := ∃ (wd md : Int) (tw tm : Tok) (h : Heap) (tk : Nat) (m' : Str → Option Value) (oW oM oN : Obj) (cv : Option Value), s' = { s with heap := h, toks := tk } ∧ Fr h₀ L h m' ∧
  News h₀ L h [(L + 1 + 1 + 1, oN), (L + 1 + 1, oM), (L + 1, oW)] ∧ oW.data = .cell (some (.int wd tw)) ∧ oM.data = .cell (some (.int md tm)) ∧ oN.data = .cell cv ∧ 5 ≤ wd ∧ wd ≤ 9 ∧ 3 ≤ md ∧ md ≤ 24
theorem law_split {M : Model} {A : Around} {env : Env} {st : Stmt} {tail : List Stmt} {Q : Flow → Shared → Prop} {E : Value → Shared → Prop} {s : Shared} {h₀ : Heap} {L : Addr} {m : Str → Option Value} (_F : Fr h₀ L s.heap m)
    (h1 : wpAny M A (exec st env) (fun f s' => f = .next ∧ LI h₀ L s s') E s) (h2 : ∀ s', LI h₀ L s s' → wpAny M A (execs tail env) Q E s') : wpAny M A (execs (st :: tail) env) Q E s := by
  rw [execs_cons]
  refine wpAny_bind (wpAny_mono h1 (fun f s' h => ?_) fun _ _ e => e)
  obtain ⟨rfl, hI⟩ := h
  exact h2 s' hI
theorem li_intro {h₀ : Heap} {L : Addr} {s : Shared} {wd md : Int} {tw tm : Tok} {h : Heap} {tk : Nat} {m' : Str → Option Value} {oW oM oN : Obj} {cv : Option Value} {led : Led} (F : Fr h₀ L h m') (N : News h₀ L h led)
    (hs : ∀ p ∈ [(L + 1 + 1 + 1, oN), (L + 1 + 1, oM), (L + 1, oW)], p ∈ led) (e1 : oW.data = .cell (some (.int wd tw))) (e2 : oM.data = .cell (some (.int md tm))) (e3 : oN.data = .cell cv) (h5 : 5 ≤ wd) (h9 : wd ≤ 9) (h3 : 3 ≤ md) (h24 : md ≤ 24) :
    LI h₀ L s { s with heap := h, toks := tk } := ⟨wd, md, tw, tm, h, tk, m', oW, oM, oN, cv, rfl, F, fun p hp => N p (hs p hp), e1, e2, e3, h5, h9, h3, h24⟩
theorem fm5 (x : Int) : 5 ≤ 5 + x.fmod 5 ∧ 5 + x.fmod 5 ≤ 9 := by
  have := Int.fmod_nonneg_of_pos x (b := 5) (by decide)
  have := Int.fmod_lt_of_pos x (b := 5) (by decide)
  omega
theorem fm22 (x : Int) : 3 ≤ 3 + x.fmod 22 ∧ 3 + x.fmod 22 ≤ 24 := by
  have := Int.fmod_nonneg_of_pos x (b := 22) (by decide)
  have := Int.fmod_lt_of_pos x (b := 22) (by decide)
  omega
section
variable {prog : Program} {w : World} {A : Around} {E : Value → Shared → Prop} {s : Shared} {env : Env} {h₀ : Heap} {x : Str} {px : Pos} {body : List Stmt} {Q : Flow → Shared → Prop}
/-- one turn's end: the iterator stands, the invariant holds again -/
def Turned (h₀ : Heap) (L I : Addr) (o : Obj) (s : Shared) (J : (Str → Option Value) → Led → Prop) (f : Flow) (s' : Shared) : Prop :=
  f = .next ∧ ∃ h tk m nx, s' = { s with heap := h, toks := tk } ∧ Fr h₀ L h m ∧ News h₀ L h ((I, o) :: nx) ∧ (∀ p ∈ nx, p.1 ≠ I) ∧ J m nx
theorem Turned.intro {L I : Addr} {o : Obj} {J : (Str → Option Value) → Led → Prop} {h : Heap} {tk : Nat} {m : Str → Option Value} {led nx : Led} (F : Fr h₀ L h m) (N : News h₀ L h led) (hI : (I, o) ∈ led) (hs : ∀ p ∈ nx, p ∈ led) (ho : ∀ p ∈ nx, p.1 ≠ I) (hJ : J m nx) :
    Turned h₀ L I o s J .next { s with heap := h, toks := tk } := by
  refine ⟨rfl, h, tk, m, nx, rfl, F, fun p hp => ?_, ho, hJ⟩
  rcases List.mem_cons.mp hp with rfl | hp
  · exact N _ hI
  · exact N _ (hs _ hp)
theorem iter_rangeT {r : Addr} {b₀ : Int} {t₀ u₀ v₀ : Tok} {n : Nat} {m₀ : Str → Option Value} {news : Led} (J : Nat → (Str → Option Value) → Led → Prop)
    (hh : A.handled = none) (hr : IsRange s.heap r 0 b₀ 1 t₀ u₀ v₀) (hsmall : Builtin.Range.small 0 b₀ 1 = true) (hn : Builtin.Range.rangeSize 0 b₀ 1 = (n : Int)) (F : Fr h₀ env.locals s.heap m₀) (N : News h₀ env.locals s.heap news) (h0 : J 0 m₀ news)
    (turn : ∀ (i : Nat) (I : Addr) (t : Tok) m₁ nx h tk o, i < n → J i m₁ nx → (∀ p ∈ nx, p.1 ≠ I) → o.cls = .type "range_iterator" → Fr h₀ env.locals h m₁ → News h₀ env.locals h ((I, o) :: nx) →
      wpAny (model prog w) A (assign (.Name x px) env (.int i t)) (fun _ s₃ => wpAny (model prog w) A (execs body env) (Turned h₀ env.locals I o { s with heap := h, toks := tk } (J (i + 1))) E s₃) E { s with heap := h, toks := tk })
    (done : ∀ m₁ nx h tk, J n m₁ nx → Fr h₀ env.locals h m₁ → News h₀ env.locals h nx → Q .next { s with heap := h, toks := tk }) :
    wpAny (model prog w) A (pyIter (.ref r)) (fun it s₂ => TurnsAt prog w A h₀ env (.Name x px) body Q E it s₂) E s := by
  refine wpAny_pyIter_range hr hsmall ?_
  have W := KTurns.ofWalks (target := .Name x px) (Walks.range (prog := prog) (w := w) hh s.heap.objs.size 0 1 n) fun i v s Q E st q => wpAny_of_eq (rfl : letOwnedTupleGo (.Name x px) _ v = pure ()) q
  have hLI : env.locals ≠ s.heap.objs.size := Nat.ne_of_lt F.ns.lt
  refine ⟨s.heap.objs.size, _, _, n, _, _, _, m₀, news, J, rfl, W, ?_, ?_, ?_, ?_, F.push _, fun p hp => ⟨Heap.get?_push_of_some _ (N p hp).1, (N p hp).2⟩, h0, ?_, ?_⟩
  · intro hm; exact hLI (List.mem_singleton.mp hm)
  · intro b hb
    rw [List.mem_singleton.mp hb]
    exact next_is_new F
  · intro p hp hI
    exact absurd (Heap.lt_size (N p hp).1) ((List.mem_singleton.mp hI) ▸ Nat.lt_irrefl _)
  · show IsRangeIter _ _ _ _ _
    rw [hn]; simpa using Heap.get?_push_size _ rfl
  · rintro i v m₁ nx h₁ tk₁ own hi ⟨t, rfl⟩ hJ hoff hof hget hall hst F₁ N₁
    obtain ⟨o, ho, hc⟩ : ∃ o, h₁.get? s.heap.objs.size = some o ∧ o.cls = .type "range_iterator" := ⟨_, hst, rfl⟩
    have hown := hall _ (List.mem_singleton.mpr rfl) (next_is_new F) o ho
    have e : (0 + (i : Int) * 1) = (i : Int) := by omega
    rw [e]
    refine wpAny_mono (turn i s.heap.objs.size t m₁ nx h₁ tk₁ o hi hJ (fun p hp q => hoff p hp (List.mem_singleton.mpr q)) hc F₁ (fun p hp => ?_)) (fun _ s₃ h₃ => wpAny_mono h₃ (fun f s₄ h₄ => ?_) fun _ _ e => e) fun _ _ e => e
    · rcases List.mem_cons.mp hp with rfl | hp
      · exact N₁ _ (List.mem_append_left _ hown)
      · exact N₁ _ (List.mem_append_right _ hp)
    · obtain ⟨rfl, h', tk, m, nx', rfl, F', N', ha, hJ'⟩ := h₄
      refine ⟨rfl, h', tk, m, nx', rfl, F', fun p hp => ?_, fun p hp q => ha p hp (List.mem_singleton.mp q), hJ'⟩
      rcases List.mem_append.mp hp with hp | hp
      · have e1 := List.mem_singleton.mp (hof p hp)
        have e2 : p = (s.heap.objs.size, o) := by
          have := hget p hp
          rw [e1, ho] at this
          exact Prod.ext e1 (Option.some.inj this).symm
        rw [e2]
        exact N' _ (List.mem_cons_self ..)
      · exact N' _ (List.mem_cons_of_mem _ hp)
  · intro h' tk m' nx F' N' _ hJ
    exact done m' nx h' tk hJ F' N'
theorem iter_rangeL {r : Addr} {b₀ : Int} {t₀ u₀ v₀ : Tok} {n : Nat} {m₀ : Str → Option Value} {news : Led} {L : Addr} (J : Nat → (Str → Option Value) → Led → Prop)
    (hh : A.handled = none) (hr : IsRange s.heap r 0 b₀ 1 t₀ u₀ v₀) (hsmall : Builtin.Range.small 0 b₀ 1 = true) (hn : Builtin.Range.rangeSize 0 b₀ 1 = (n : Int)) (F : Fr h₀ L s.heap m₀) (N : News h₀ L s.heap news) (hL : env.locals = L) (h0 : J 0 m₀ news)
    (turn : ∀ (i : Nat) (I : Addr) (t : Tok) m₁ nx h tk o, i < n → J i m₁ nx → (∀ p ∈ nx, p.1 ≠ I) → o.cls = .type "range_iterator" → Fr h₀ L h m₁ → News h₀ L h ((I, o) :: nx) →
      wpAny (model prog w) A (assign (.Name x px) env (.int i t)) (fun _ s₃ => wpAny (model prog w) A (execs body env) (Turned h₀ L I o { s with heap := h, toks := tk } (J (i + 1))) E s₃) E { s with heap := h, toks := tk })
    (done : ∀ m₁ nx h tk, J n m₁ nx → Fr h₀ L h m₁ → News h₀ L h nx → Q .next { s with heap := h, toks := tk }) :
    wpAny (model prog w) A (pyIter (.ref r)) (fun it s₂ => TurnsAt prog w A h₀ env (.Name x px) body Q E it s₂) E s := by
  subst hL
  exact iter_rangeT J hh hr hsmall hn F N h0 turn done
end
/-- one turn of the comprehension -/
def GA (n md : Int) (l : List Int) (k : Int) : List Int := if n.fmod k = 0 ∧ md.fmod k = 0 then l ++ [k] else l
/-- the common divisors above 1 -/
def shared (n md : Int) : List Int := (rangeKs 2 (n + 1 - 2).toNat).foldl (GA n md) []
/-- number and modulus share no divisor above 1 -/
def alone (n md : Int) : Bool := decide (shared n md = []) && decide (n > 0)
theorem ga_grows (n md : Int) : KPfGrows (GA n md) := by
  intro l k
  unfold GA
  split <;> simp
/-- here and own after so many turns -/
def stF (md : Int) : Nat → Int × Int
  | 0 => (1, 0)
  | i + 1 => if alone i md then (((stF md i).1 * i).fmod md, (stF md i).2 + if inv i md = i then 1 else 0) else stF md i
structure LJ (L : Addr) (md : Int) (oW oM : Obj) (T : Addr) (ys : List Value) (i : Nat) (m : Str → Option Value) (nx : Led) : Prop where
  ex : ∃ (D : Addr) (va : List Value) (nr : Nat) (oN : Obj) (cv : Option Value) (th to : Tok), Lim (stF md i).1 va ∧ m (Str.ofString "row") = some (.ref D) ∧ m (Str.ofString "here") = some (.int (stF md i).1 th) ∧
    m (Str.ofString "own") = some (.int (stF md i).2 to) ∧ m (Str.ofString "turned") = some (.ref T) ∧ oN.data = .cell cv ∧
    ∀ p ∈ [(D, listOf va.toArray nr), (T, LCg.lst ys), (L + 1 + 1 + 1, oN), (L + 1 + 1, oM), (L + 1, oW)], p ∈ nx
def LM (D T : Addr) (h o : Int) (th to : Tok) (r : Str → Option Value) : Str → Option Value := fun y =>
  if y = Str.ofString "row" then some (.ref D) else if y = Str.ofString "here" then some (.int h th) else if y = Str.ofString "own" then some (.int o to) else if y = Str.ofString "turned" then some (.ref T) else r y
theorem lm_eq {m : Str → Option Value} {D T : Addr} {h o : Int} {th to : Tok} (h1 : m (Str.ofString "row") = some (.ref D)) (h2 : m (Str.ofString "here") = some (.int h th)) (h3 : m (Str.ofString "own") = some (.int o to)) (h4 : m (Str.ofString "turned") = some (.ref T)) : m = LM D T h o th to m := by
  funext y
  unfold LM
  repeat' split
  all_goals first
    | rfl
    | (rename_i e; subst e; assumption)
/-- behind the law's loop -/
def LK (h₀ : Heap) (L : Addr) (md : Int) (oW oM : Obj) (T : Addr) (ys : List Value) (s s' : Shared) : Prop := ∃ (h : Heap) (tk : Nat) (m : Str → Option Value) (nx : Led), s' = { s with heap := h, toks := tk } ∧ Fr h₀ L h m ∧ News h₀ L h nx ∧ LJ L md oW oM T ys md.toNat m nx
theorem law_split2 {M : Model} {A : Around} {env : Env} {st : Stmt} {tail : List Stmt} {Q : Flow → Shared → Prop} {E : Value → Shared → Prop} {s : Shared} {h₀ : Heap} {L : Addr} {m : Str → Option Value} {md : Int} {oW oM : Obj} {T : Addr} {ys : List Value} (_F : Fr h₀ L s.heap m)
    (h1 : wpAny M A (exec st env) (fun f s' => f = .next ∧ LK h₀ L md oW oM T ys s s') E s) (h2 : ∀ s', LK h₀ L md oW oM T ys s s' → wpAny M A (execs tail env) Q E s') : wpAny M A (execs (st :: tail) env) Q E s := by
  rw [execs_cons]
  refine wpAny_bind (wpAny_mono h1 (fun f s' h => ?_) fun _ _ e => e)
  obtain ⟨rfl, hI⟩ := h
  exact h2 s' hI
theorem ne_cell {h₀ h : Heap} {L : Addr} {led : Led} {a c : Addr} {oa oc : Obj} {v : Option Value} (N : News h₀ L h led) (h1 : (a, oa) ∈ led) (h2 : (c, oc) ∈ led) (hd : oc.data = .cell v) (ha : ∀ v, oa.data ≠ .cell v) : @Ne Nat c a := by
  intro e
  subst e
  have e1 := (N _ h1).1
  have e2 := (N _ h2).1
  rw [e1] at e2
  have e3 : oa = oc := Option.some.inj e2
  exact ha v (by rw [e3]; exact hd)
theorem ne_nat {a b : Addr} (h : a ≠ b) : @Ne Nat a b := h
def factA (i md : Nat) : Bool := if alone i md then decide (0 < inv i md ∧ inv i md < md ∧ ((i : Int) * inv i md).fmod md = 1 ∧ inv (inv i md) md = i ∧ 0 < i) else decide (inv i md = 0)
theorem factA_all : ((List.range 25).all fun md => md < 3 || (List.range md).all fun i => factA i md) = true := by decide +kernel
theorem factA_at {i : Nat} {md : Int} (h3 : 3 ≤ md) (h24 : md ≤ 24) (hi : (i : Int) < md) : factA i md.toNat = true := by
  have h := List.all_eq_true.mp factA_all md.toNat (List.mem_range.mpr (by omega))
  rcases Bool.or_eq_true_iff.mp h with h | h
  · have := of_decide_eq_true h; omega
  · exact List.all_eq_true.mp h i (List.mem_range.mpr (by omega))
theorem inv_yes {i : Nat} {md : Int} (h3 : 3 ≤ md) (h24 : md ≤ 24) (hi : (i : Int) < md) (ha : alone i md = true) : 0 < inv i md ∧ inv i md < md ∧ ((i : Int) * inv i md).fmod md = 1 ∧ inv (inv i md) md = i ∧ 0 < i := by
  have h := factA_at h3 h24 hi
  have e : ((md.toNat : Nat) : Int) = md := by omega
  unfold factA at h
  rw [e, if_pos ha] at h
  exact of_decide_eq_true h
theorem inv_no {i : Nat} {md : Int} (h3 : 3 ≤ md) (h24 : md ≤ 24) (hi : (i : Int) < md) (ha : alone i md = false) : inv i md = 0 := by
  have h := factA_at h3 h24 hi
  have e : ((md.toNat : Nat) : Int) = md := by omega
  unfold factA at h
  rw [e, if_neg (by rw [ha]; decide)] at h
  exact of_decide_eq_true h
theorem stF_no {md : Int} {i : Nat} (h : alone i md = false) : stF md (i + 1) = ((stF md i).1, (stF md i).2) := by
  show (if alone i md then _ else _) = _
  rw [if_neg (by rw [h]; decide)]
theorem stF_yes {md : Int} {i : Nat} (h : alone i md = true) : stF md (i + 1) = (((stF md i).1 * i).fmod md, (stF md i).2 + if inv i md = i then 1 else 0) := by
  show (if alone i md then _ else _) = _
  rw [if_pos h]
theorem turned_of {h₀ : Heap} {L I T D : Addr} {o oW oM oN : Obj} {s : Shared} {md a b : Int} {ys va : List Value} {i nr : Nat} {h : Heap} {tk : Nat} {m : Str → Option Value} {led : Led} {cv : Option Value} {th to : Tok}
    (F : Fr h₀ L h m) (N : News h₀ L h led) (e : stF md (i + 1) = (a, b)) (hva : Lim a va) (hcv : oN.data = .cell cv) (h1 : D ≠ I) (h2 : T ≠ I) (h3 : L + 1 + 1 + 1 ≠ I) (h4 : L + 1 + 1 ≠ I) (h5 : L + 1 ≠ I)
    (m1 : m (Str.ofString "row") = some (.ref D)) (m2 : m (Str.ofString "here") = some (.int a th)) (m3 : m (Str.ofString "own") = some (.int b to)) (m4 : m (Str.ofString "turned") = some (.ref T))
    (hI : (I, o) ∈ led) (hs : ∀ p ∈ [(D, listOf va.toArray nr), (T, LCg.lst ys), (L + 1 + 1 + 1, oN), (L + 1 + 1, oM), (L + 1, oW)], p ∈ led) :
    Turned h₀ L I o s (fun m nx => LJ L md oW oM T ys (i + 1) m nx) .next { s with heap := h, toks := tk } := by
  refine Turned.intro F N hI hs ?_ ⟨D, va, nr, oN, cv, th, to, ?_, m1, ?_, ?_, m4, hcv, fun p hp => hp⟩
  · simp only [List.forall_mem_cons]
    exact ⟨h1, h2, h3, h4, h5, fun _ h => nomatch h⟩
  · rw [e]; exact hva
  · rw [e]; exact m2
  · rw [e]; exact m3
theorem Lim.ints {x : Int} {vs : List Value} (h : Lim x vs) : IntsAre vs (if x = 0 then [] else [x]) := by
  cases h with
  | zero e => rw [if_pos e]; exact .nil
  | one t h0 h1 => rw [if_neg (by omega)]; exact .cons x t .nil
theorem fmod_eq {x m : Int} (hm : 3 ≤ m) : x % m = x.fmod m := (Int.fmod_eq_emod_of_nonneg _ (by omega)).symm
theorem own_eq {a v i : Int} : a + (if (v == i) = true then 1 else 0) = a + if v = i then 1 else 0 := by
  congr 1
  by_cases h : v = i
  · rw [if_pos h, if_pos (beq_iff_eq.mpr h)]
  · rw [if_neg h, if_neg fun e => h (beq_iff_eq.mp e)]
theorem not_same (ns : List Int) : (!decide (ns = ns)) = false := by simp
section
variable {prog : Program} {w : World} {A : Around} {E : Value → Shared → Prop} {s : Shared} {h₀ : Heap} {L : Addr} {m : Str → Option Value} {env : Env}
/-- a comprehension's value is its list -/
theorem post_eval {D C : Addr} {h : Heap} {tk : Nat} {m' : Str → Option Value} {ys : List Value} {news : Led} {s₂ : Shared} {Q : Value → Shared → Prop}
    (F : Fr h₀ L h m) (N : News h₀ L h ((D, LCg.lst ys) :: news)) (o1 : LCg.Off1 D news) (hn : h.Ns C m') (hC₀ : h₀.get? C = none) (hCL : C ≠ L) (hCD : C ≠ D) (offC : ∀ p ∈ news, p.1 ≠ C) (fin : LCg.FinE h₀ L m s₂ Q ys news) :
    compPost (model prog w) A E none Q (.ref D) C (.ok .next) { s₂ with heap := h, toks := tk } := by
  refine ⟨m', hn, fun h'' hs => fin D h'' tk (F.change hs hCL hC₀) (fun p hp => ⟨hs.extBut _ _ ?_ (N p hp).1, (N p hp).2⟩) o1⟩
  rcases List.mem_cons.mp hp with rfl | hp
  · exact Ne.symm hCD
  · exact offC p hp
/-- a comprehension's value goes to a local name -/
theorem post_store {D C : Addr} {h : Heap} {tk : Nat} {m' : Str → Option Value} {ys : List Value} {news : Led} {s₂ : Shared} {y : Str} {py : Pos} {Q : Flow → Shared → Prop} (hLe : env.locals = L)
    (hy : env.kindOf y = some .local) (hp : (env.scope.kind == .class || (env.scope.kind == .module && env.locals != env.globals)) = false)
    (F : Fr h₀ L h m) (N : News h₀ L h ((D, LCg.lst ys) :: news)) (o1 : LCg.Off1 D news) (hn : h.Ns C m') (hC₀ : h₀.get? C = none) (hCL : C ≠ L) (hCD : C ≠ D) (offC : ∀ p ∈ news, p.1 ≠ C) (fin : LCg.FinA h₀ L m s₂ y Q ys news) :
    compPost (model prog w) A E (some (assign (.Name y py) env)) (fun _ s' => Q .next s') (.ref D) C (.ok .next) { s₂ with heap := h, toks := tk } := by
  subst hLe
  refine wpAny_assign_Name (wpAny_storeName_local hy F.ns (fun h₂ hn₂ hs₂ => ?_) hp)
  have hL₀ : h₀.get? env.locals = none := Heap.get?_none_of_le F.above
  have F₂ : Fr h₀ env.locals h₂ (fun z => if z = y then some (.ref D) else m z) := ⟨hn₂, fun b o e => hs₂.extBut b o (fun q => by rw [q, hL₀] at e; cases e) (F.keep b o e), F.above⟩
  refine ⟨m', hn.sameBut hs₂ hCL, fun h'' hs => fin D h'' _ (F₂.change hs hCL hC₀) (fun p hp => ?_) o1⟩
  have z : h₂.get? p.1 = some p.2 := hs₂.extBut _ _ (N p hp).2.1 (N p hp).1
  refine ⟨hs.extBut _ _ ?_ z, (N p hp).2⟩
  rcases List.mem_cons.mp hp with rfl | hp
  · exact Ne.symm hCD
  · exact offC p hp

theorem step_walks {I : Addr} (hh : A.handled = none) (a c : Int) (n : Nat) : Walks prog w A I [I] [I] n (fun i v => ∃ t, v = .int (a + (i : Int) * c) t) (fun i h => IsRangeIter h I (a + (i : Nat) * c) ((n : Int) - (i : Nat)) c) :=
  let W : Walks prog w A I [I] [I] n (fun i v => i < n ∧ ∃ t, v = .int (a + i * c) t) (fun i h => IsRangeIter h I (a + (i : Nat) * c) ((n : Int) - (i : Nat)) c) := (Walks.range hh I a c n).bound
  { sub := W.sub, frame := W.frame, done := W.done, self := W.self,
    item := fun i s Q E hi st hQ => W.item i s Q E hi st fun v h' tk hP => hQ v h' tk hP.2 }
theorem step_st {I : Addr} {a c : Int} {n : Nat} (i : Nat) (h h' : Heap) (o : Obj) (nw : Led) (st : IsRangeIter h I (a + (i : Nat) * c) ((n : Int) - (i : Nat)) c) (e : h.get? I = some o) (e' : h'.get? I = some o)
    (_ : ∀ b o, h₀.get? b = some o → h'.get? b = some o) (_ : News h₀ L h' nw) (_ : True) : IsRangeIter h' I (a + (i : Nat) * c) ((n : Int) - (i : Nat)) c := by
  have st' : h.get? I = some _ := st
  show h'.get? I = some _
  rw [e', ← e]; exact st'

/-- a range by steps as a comprehension's source -/
def SrcS (prog : Program) (w : World) (A : Around) (h₀ : Heap) (L : Addr) (m : Str → Option Value) (env : Env) (ct elt : Expr) (x : Str) (scope : Scope) (cl : List (Str × Addr)) (Fin : Shared → List Value → Led → Prop) (xv : Value) (s₁ : Shared) : Prop :=
  ∃ r a b c t u v n news, xv = .ref r ∧ A.handled = none ∧ Fr h₀ L s₁.heap m ∧ News h₀ L s₁.heap news ∧ IsRange s₁.heap r a b c t u v ∧ Builtin.Range.small a b c = true ∧ Builtin.Range.rangeSize a b c = ((n : Nat) : Int) ∧ n ≤ sizeLine ∧
    ∀ s₂ : Shared, (∃ h, s₂ = { s₁ with heap := h }) → LCt.CompRestT prog w A h₀ L m env ct elt x scope cl s₂ (fun _ => True) (fun i v => ∃ t, v = .int (a + (i : Int) * c) t) (Fin s₂) n 0 [] news
theorem SrcS.mk {ct elt : Expr} {x : Str} {scope : Scope} {cl : List (Str × Addr)} {Fin : Shared → List Value → Led → Prop} {r : Addr} {a b c : Int} {t u v : Tok} {n : Nat} {news : Led} {s₁ : Shared}
    (hh : A.handled = none) (F : Fr h₀ L s₁.heap m) (N : News h₀ L s₁.heap news) (hr : IsRange s₁.heap r a b c t u v) (hsm : Builtin.Range.small a b c = true) (hn : Builtin.Range.rangeSize a b c = ((n : Nat) : Int)) (hsz : n ≤ sizeLine)
    (h : ∀ g, LCt.CompRestT prog w A h₀ L m env ct elt x scope cl { s₁ with heap := g } (fun _ => True) (fun i v => ∃ t, v = .int (a + (i : Int) * c) t) (Fin { s₁ with heap := g }) n 0 [] news) :
    SrcS prog w A h₀ L m env ct elt x scope cl Fin (.ref r) s₁ := ⟨r, a, b, c, t, u, v, n, news, rfl, hh, F, N, hr, hsm, hn, hsz, fun _ ⟨g, e⟩ => e ▸ h g⟩
/-- from the source to the block's end -/
theorem src_block {ct elt iter : Expr} {x : Str} {px : Pos} {scope : Scope} {cl : List (Str × Addr)} {pos : Pos} {s₁ : Shared} {Fin : Shared → List Value → Led → Prop} {RR : Value → Addr → Result → Shared → Prop} {xv : Value}
    (hcell : ∀ y ∈ scope.names, y.2 ≠ .cell) (hkind : scope.kind = .function) (hx : scope.names.lookup x = some .local) (hS : SrcS prog w A h₀ L m env ct elt x scope cl Fin xv s₁)
    (hRR : ∀ s₂ : Shared, (∃ h, s₂ = { s₁ with heap := h }) → ∀ D C h tk m' ys news', Fr h₀ L h m → News h₀ L h ((D, LCg.lst ys) :: news') → LCg.Off1 D news' → h.Ns C m' → h₀.get? C = none → h₀.get? D = none → C ≠ L → D ≠ L → C ≠ D → (∀ p ∈ news', p.1 ≠ C) → Fin s₂ ys news' →
      RR (.ref D) C (.ok .next) { s₂ with heap := h, toks := tk }) :
    wpAny (model prog w) A (pyIter xv) (fun it s₂ => wpAny (model prog w) A (newList []) (fun acc s₃ => wpAny (model prog w) A (newFunctionEnv scope env.globals cl [] env.qual none .none (some env)) (fun cenv s₄ =>
      codeAny (model prog w) A (.compStart (.ListComp elt [⟨.Name x px, iter, [ct], 0⟩] scope pos) 0 it acc { cenv with scope := relabel scope env }) (RR acc cenv.locals) s₄) E s₃) E s₂) E s₁ := by
  obtain ⟨r, a, b, c, t, u, v, n, news, rfl, hh, F, N, hr, hsm, hn, hsz, R⟩ := hS
  refine wpAny_pyIter_range hr hsm ?_
  refine LCt.block_T (step_walks hh a c n) hsz (fun i h st => ⟨_, st⟩) step_st hcell hkind hx (by show IsRangeIter _ _ _ _ _; rw [hn]; simpa using Heap.get?_push_size _ rfl) (fun b hb => ?_)
    (F.keeps fun _ _ e => Heap.get?_push_of_some _ e) (N.grown fun _ _ e => Heap.get?_push_of_some _ e) (Nat.ne_of_lt F.ns.lt) (next_is_new F) (fun p hp => Nat.ne_of_lt (Heap.lt_size (N p hp).1)) trivial (R _ ⟨_, rfl⟩) (hRR _ ⟨_, rfl⟩)
  rw [List.mem_singleton.mp hb]
  show s₁.heap.objs.size < (s₁.heap.push _).objs.size
  rw [Heap.size_push]; exact Nat.lt_succ_self _

theorem ListComp_S {ct elt iter : Expr} {x : Str} {px : Pos} {scope : Scope} {cl : List (Str × Addr)} {pos : Pos} {Q : Value → Shared → Prop} (_F : Fr h₀ L s.heap m)
    (hclos : closureFor scope env = pure cl) (hcell : ∀ y ∈ scope.names, y.2 ≠ .cell) (hkind : scope.kind = .function)
    (hnames : ∀ y ∈ scope.names, y.2 = .local → scope.names.lookup y.1 = some .local) (hx : scope.names.lookup x = some .local)
    (h : wpAny (model prog w) A (eval iter env) (SrcS prog w A h₀ L m env ct elt x scope cl (fun s₂ => LCg.FinE h₀ L m s₂ Q)) E s)
    (hs : ∀ x, foldedSetIterable iter env x = pure x := by intro _; rfl) :
    wpAny (model prog w) A (eval (.ListComp elt [⟨.Name x px, iter, [ct], 0⟩] scope pos) env) Q E s := by
  rw [eval_ListComp]
  refine wpAny_comprehension_free (use := none) rfl hs hclos hkind hnames (wpAny_mono h (fun xv s₁ h₁ => ?_) fun _ _ e => e)
  exact src_block (RR := fun acc C => compPost (model prog w) A E none Q acc C) hcell hkind hx h₁ fun s₂ _ D C h tk m' ys news' F' N' o1 hn hC₀ _ hCL _ hCD offC fin => post_eval F' N' o1 hn hC₀ hCL hCD offC fin
theorem Assign_ListComp_S {ct elt iter : Expr} {x y : Str} {px py : Pos} {scope : Scope} {cl : List (Str × Addr)} {pos spos : Pos} {Q : Flow → Shared → Prop} (_F : Fr h₀ L s.heap m) (hLe : env.locals = L)
    (hsw : swapsWith (.ListComp elt [⟨.Name x px, iter, [ct], 0⟩] scope pos) (some (.Name y py)) spos.line env = pure true)
    (hclos : closureFor scope env = pure cl) (hcell : ∀ y ∈ scope.names, y.2 ≠ .cell) (hkind : scope.kind = .function)
    (hnames : ∀ y ∈ scope.names, y.2 = .local → scope.names.lookup y.1 = some .local) (hx : scope.names.lookup x = some .local)
    (hy : env.kindOf y = some .local) (hp : (env.scope.kind == .class || (env.scope.kind == .module && env.locals != env.globals)) = false)
    (h : wpAny (model prog w) A (eval iter env) (SrcS prog w A h₀ L m env ct elt x scope cl (fun s₂ => LCg.FinA h₀ L m s₂ y Q)) E s)
    (hs : ∀ x, foldedSetIterable iter env x = pure x := by intro _; rfl) :
    wpAny (model prog w) A (exec (.Assign [.Name y py] (.ListComp elt [⟨.Name x px, iter, [ct], 0⟩] scope pos) spos) env) Q E s := by
  rw [exec_Assign_Name_used _ _ _ _ hsw]
  refine wpAny_bind (wpAny_standAt (wpAny_bind ?_))
  show wpAny _ A (do let _ ← comprehension (.ListComp elt [⟨.Name x px, iter, [ct], 0⟩] scope pos) scope env _ (newList []) false (eval iter env) (some (assign (.Name y py) env))) _ _ s
  refine wpAny_bind (wpAny_mono (wpAny_comprehension_free (use := some (assign (.Name y py) env)) (Q := fun _ s' => Q .next s') rfl hs hclos hkind hnames
    (wpAny_mono h (fun xv s₁ h₁ => ?_) fun _ _ e => e)) (fun _ s' hq => wpAny_pure (wpAny_pure hq)) fun _ _ e => e)
  exact src_block (RR := fun acc C => compPost (model prog w) A _ (some (assign (.Name y py) env)) (fun _ s' => Q .next s') acc C) hcell hkind hx h₁ fun s₂ _ D C h tk m' ys news' F' N' o1 hn hC₀ _ hCL _ hCD offC fin => post_store hLe hy hp F' N' o1 hn hC₀ hCL hCD offC fin
/-- a made tuple as a comprehension's source -/
def SrcTu (prog : Program) (w : World) (A : Around) (h₀ : Heap) (L : Addr) (m : Str → Option Value) (env : Env) (ct elt : Expr) (x : Str) (scope : Scope) (cl : List (Str × Addr)) (Fin : Shared → List Value → Led → Prop) (xv : Value) (s₁ : Shared) : Prop :=
  ∃ ax vs news, xv = .ref ax ∧ A.handled = none ∧ Fr h₀ L s₁.heap m ∧ News h₀ L s₁.heap news ∧ (ax, tupOf vs) ∈ news ∧ vs.toArray.size ≤ sizeLine ∧
    ∀ s₂ : Shared, (∃ h, s₂ = { s₁ with heap := h }) → LCt.CompRestT prog w A h₀ L m env ct elt x scope cl s₂ (fun nw => (ax, tupOf vs) ∈ nw) (fun i v => vs.toArray[i]? = some v) (Fin s₂) vs.toArray.size 0 [] news
theorem SrcTu.mk {ct elt : Expr} {x : Str} {scope : Scope} {cl : List (Str × Addr)} {Fin : Shared → List Value → Led → Prop} {ax : Addr} {vs : List Value} {news : Led} {s₁ : Shared}
    (hh : A.handled = none) (F : Fr h₀ L s₁.heap m) (N : News h₀ L s₁.heap news) (hm : (ax, tupOf vs) ∈ news) (hsz : vs.toArray.size ≤ sizeLine)
    (h : ∀ g, LCt.CompRestT prog w A h₀ L m env ct elt x scope cl { s₁ with heap := g } (fun nw => (ax, tupOf vs) ∈ nw) (fun i v => vs.toArray[i]? = some v) (Fin { s₁ with heap := g }) vs.toArray.size 0 [] news) :
    SrcTu prog w A h₀ L m env ct elt x scope cl Fin (.ref ax) s₁ := ⟨ax, vs, news, rfl, hh, F, N, hm, hsz, fun _ ⟨g, e⟩ => e ▸ h g⟩
theorem ListComp_Tu {ct elt iter : Expr} {x : Str} {px : Pos} {scope : Scope} {cl : List (Str × Addr)} {pos : Pos} {Q : Value → Shared → Prop} (_F : Fr h₀ L s.heap m)
    (hclos : closureFor scope env = pure cl) (hcell : ∀ y ∈ scope.names, y.2 ≠ .cell) (hkind : scope.kind = .function)
    (hnames : ∀ y ∈ scope.names, y.2 = .local → scope.names.lookup y.1 = some .local) (hx : scope.names.lookup x = some .local)
    (h : wpAny (model prog w) A (eval iter env) (SrcTu prog w A h₀ L m env ct elt x scope cl (fun s₂ => LCg.FinE h₀ L m s₂ Q)) E s)
    (hs : ∀ x, foldedSetIterable iter env x = pure x := by intro _; rfl) :
    wpAny (model prog w) A (eval (.ListComp elt [⟨.Name x px, iter, [ct], 0⟩] scope pos) env) Q E s := by
  rw [eval_ListComp]
  refine wpAny_comprehension_free (use := none) rfl hs hclos hkind hnames (wpAny_mono h (fun xv s₁ h₁ => ?_) fun _ _ e => e)
  obtain ⟨ax, vs, news, rfl, hh, F, N, hm, hsz, R⟩ := h₁
  have hl : s₁.heap.IsTuple ax vs.toArray := ⟨_, (N _ hm).1, rfl, _, rfl⟩
  have hlt : ax < s₁.heap.objs.size := Heap.lt_size (N _ hm).1
  refine wpAny_pyIter_tuple hl ?_
  have up : ∀ b o, s₁.heap.get? b = some o → (s₁.heap.push { cls := .type "tuple_iterator", data := .fields #[.ref ax, .int 0 0] }).get? b = some o := fun b o e => Heap.get?_push_of_some _ e
  refine LCt.block_T (RR := fun acc C => compPost (model prog w) A E none Q acc C) (Walks.tuple hh s₁.heap.objs.size ax (Nat.ne_of_lt hlt) vs.toArray) hsz (fun i h st => by obtain ⟨o, e, _⟩ := st.1; exact ⟨o, e⟩)
    (fun i h h' o nw st e e' k N S => ⟨by obtain ⟨o', q, r⟩ := st.1; rw [e] at q; cases q; exact ⟨o, e', r⟩, ⟨_, (N _ S).1, rfl, _, rfl⟩⟩) hcell hkind hx ⟨⟨_, Heap.get?_push_size _ rfl, rfl, rfl⟩, hl.push _⟩ (fun b hb => ?_)
    (F.keeps up) (N.grown up) (Nat.ne_of_lt F.ns.lt) (next_is_new F) (fun p hp => Nat.ne_of_lt (Heap.lt_size (N p hp).1)) hm (R _ ⟨_, rfl⟩) fun D C h tk m' ys news' F' N' o1 hn hC₀ _ hCL _ hCD offC fin => post_eval F' N' o1 hn hC₀ hCL hCD offC fin
  show b < (s₁.heap.push _).objs.size
  rw [Heap.size_push]
  rcases List.mem_cons.mp hb with rfl | hb
  · exact Nat.lt_succ_self _
  · rw [List.mem_singleton.mp hb]; exact Nat.lt_succ_of_lt hlt
end
section
variable {M : Model} {A : Around} {E : Value → Shared → Prop} {s : Shared}
theorem newEnv_cell {scope : Scope} {gl : Addr} {cl : List (Str × Addr)} {x : Str} {qual : Str} {env : Env} {Q : Env → Shared → Prop}
    (hcl : ∀ k, cellsFrom k scope.names cl = (x, k) :: cl) (hpc : ∀ h, pushCells h scope.names = h.push { cls := .type "cell", data := .cell none })
    (h : Q { scope := scope, locals := s.heap.objs.size, globals := gl, cells := (x, s.heap.objs.size + 1) :: cl, qual := qual, func := none, code := env.code, frame := env.frame, builtins := env.builtins }
      { s with heap := (s.heap.push { cls := .type "dict", data := .dict #[] }).push { cls := .type "cell", data := .cell none } }) :
    wpAny M A (newFunctionEnv scope gl cl [] qual none .none (some env)) Q E s := by
  simp only [newFunctionEnv, Option.isSome_some, if_true]
  refine wpAny_bind (wpAny_alloc ?_)
  refine wpAny_bind (wpAny_layCells _ (fun name kind cells => by cases hkc : kind == NameKind.cell <;> simp) _ _ _ _ ?_)
  rw [hcl, hpc]
  rw [show ({ s with heap := s.heap.push { cls := .type "dict", data := .dict #[] } } : Shared).heap.objs.size = s.heap.objs.size + 1 from Heap.size_push ..]
  refine wpAny_bind ?_
  rw [List.forIn_nil]
  exact wpAny_pure (wpAny_pure h)
end
abbrev dictO : Obj := { cls := .type "dict", data := .dict #[] }
abbrev cellO : Obj := { cls := .type "cell", data := .cell none }
section
variable {prog : Program} {w : World} {A : Around} {E : Value → Shared → Prop} {s : Shared} {h₀ : Heap} {L : Addr} {m : Str → Option Value} {env : Env}
theorem filter_snoc {ns : List Int} {i : Nat} {k : Int} (p : Int → Bool) (hk : ns[i]? = some k) : (ns.take (i + 1)).filter p = (ns.take i).filter p ++ if p k then [k] else [] := by
  rw [List.take_add_one, hk, List.filter_append]
  cases h : p k <;> simp [h]
/-- a comprehension over a list of ints whose target is a cell (the test reads it in a comprehension of its own) -/
theorem cell_block {ct iter : Expr} {x : Str} {px pe : Pos} {scope : Scope} {cl : List (Str × Addr)} {pos : Pos} {s₂ : Shared} {I ax : Addr} {vs : List Value} {ns : List Int} {kk : Nat} (p : Int → Bool) {news : Led} {RR : Value → Addr → Result → Shared → Prop}
    (hh : A.handled = none) (hsz : vs.toArray.size ≤ sizeLine) (hkind : scope.kind = .function) (hcl : ∀ k, cellsFrom k scope.names cl = (x, k) :: cl) (hpc : ∀ h, pushCells h scope.names = h.push cellO)
    (hx : (relabel scope env).names.lookup x = some .cell) (hb : (x == ("__debug__" : Str)) = false)
    (hit : s₂.heap.IsListIter I ax 0) (hlist : s₂.heap.IsList ax vs.toArray) (hne : ax ≠ I) (hIlt : I < s₂.heap.objs.size) (hmem : (ax, ({ cls := .type "list", data := .seq vs.toArray kk } : Obj)) ∈ news)
    (F : Fr h₀ L s₂.heap m) (N : News h₀ L s₂.heap news) (hIL : L ≠ I) (hI₀ : h₀.get? I = none) (off : ∀ p ∈ news, p.1 ≠ I) (hin : IntsAre vs ns)
    (turn : ∀ k t K oK oI C D ys h tk (E' : Value → Shared → Prop), k ∈ ns → oK.data = .cell (some (.int k t)) → Fr h₀ L h m → News h₀ L h ((K, oK) :: (I, oI) :: (C, dictO) :: (D, LCg.lst ys) :: news) →
      wpAny (model prog w) A (isTrue ct (compEnvC scope ((x, K) :: cl) C env) (eval ct (compEnvC scope ((x, K) :: cl) C env)))
        (fun b s' => b = p k ∧ ∃ h' tk', s' = { s₂ with heap := h', toks := tk' } ∧ Fr h₀ L h' m ∧ News h₀ L h' ((K, oK) :: (I, oI) :: (C, dictO) :: (D, LCg.lst ys) :: news)) E' { s₂ with heap := h, toks := tk })
    (hRR : ∀ D C h tk m' ys, Fr h₀ L h m → News h₀ L h ((D, LCg.lst ys) :: news) → LCg.Off1 D news → h.Ns C m' → h₀.get? C = none → h₀.get? D = none → C ≠ L → D ≠ L → C ≠ D → (∀ p ∈ news, p.1 ≠ C) → IntsAre ys (ns.filter p) →
      RR (.ref D) C (.ok .next) { s₂ with heap := h, toks := tk }) :
    wpAny (model prog w) A (newList []) (fun acc s₃ => wpAny (model prog w) A (newFunctionEnv scope env.globals cl [] env.qual none .none (some env)) (fun cenv s₄ =>
      codeAny (model prog w) A (.compStart (.ListComp (.Name x pe) [⟨.Name x px, iter, [ct], 0⟩] scope pos) 0 (.ref I) acc { cenv with scope := relabel scope env }) (RR acc cenv.locals) s₄) E s₃) E s₂ := by
  refine wpAny_newObj_type (newEnv_cell hcl hpc ?_)
  dsimp only
  generalize hH2 : s₂.heap.push { cls := .type "list", dict := none, data := .seq ([] : List Value).toArray } = H2
  have hC : H2.objs.size = s₂.heap.objs.size + 1 := by rw [← hH2, Heap.size_push]
  generalize hH3 : H2.push { cls := .type "dict", data := .dict #[] } = H3
  have hK : H3.objs.size = s₂.heap.objs.size + 2 := by rw [← hH3, Heap.size_push, hC]
  generalize hh1 : H3.push { cls := .type "cell", data := .cell none } = h₁
  have e2 : ∀ b o, s₂.heap.get? b = some o → H2.get? b = some o := fun b o e => hH2 ▸ Heap.get?_push_of_some _ e
  have e3 : ∀ b o, H2.get? b = some o → H3.get? b = some o := fun b o e => hH3 ▸ Heap.get?_push_of_some _ e
  have e1 : ∀ b o, H3.get? b = some o → h₁.get? b = some o := fun b o e => hh1 ▸ Heap.get?_push_of_some _ e
  have old : ∀ b o, s₂.heap.get? b = some o → h₁.get? b = some o := fun b o e => e1 _ _ (e3 _ _ (e2 _ _ e))
  have gD : h₁.get? s₂.heap.objs.size = some (LCg.lst []) := e1 _ _ (e3 _ _ (hH2 ▸ Heap.get?_push_size _ rfl))
  have gC : h₁.get? H2.objs.size = some dictO := e1 _ _ (hH3 ▸ Heap.get?_push_size _ rfl)
  have gK : h₁.get? H3.objs.size = some cellO := hh1 ▸ Heap.get?_push_size _ rfl
  have hKe : H2.objs.size + 1 = H3.objs.size := by rw [hK, hC]
  rw [hKe]
  generalize H3.objs.size = K at *
  generalize H2.objs.size = C at *
  generalize hDe : s₂.heap.objs.size = D at *
  have below : ∀ b, b < D → b ≠ K ∧ b ≠ C ∧ b ≠ D := fun b hb => ⟨by omega, by omega, by omega⟩
  have hCD : C ≠ D := by omega
  have hKD : K ≠ D := by omega
  have hKC : K ≠ C := by omega
  have fresh₀ : ∀ a, D ≤ a → h₀.get? a = none := fun a ha => by
    cases e : h₀.get? a with
    | none => rfl
    | some o' => exact absurd (Heap.lt_size (F.keep a o' e)) (Nat.not_lt.mpr (hDe ▸ ha))
  have hD₀ : h₀.get? D = none := fresh₀ _ (Nat.le_refl _)
  have hC₀ : h₀.get? C = none := fresh₀ _ (by omega)
  have hK₀ : h₀.get? K = none := fresh₀ _ (by omega)
  have hLlt : L < D := hDe ▸ F.ns.lt
  have hDL : D ≠ L := Ne.symm (below L hLlt).2.2
  have hCL : C ≠ L := Ne.symm (below L hLlt).2.1
  have hKL : K ≠ L := Ne.symm (below L hLlt).1
  have offn : ∀ q ∈ news, q.1 ≠ K ∧ q.1 ≠ C ∧ q.1 ≠ D := fun q hq => below _ (hDe ▸ Heap.lt_size (N q hq).1)
  have hIb := below I hIlt
  have hns : LCg.NsObj dictO (fun _ => none) := by
    obtain ⟨o, eo, x9⟩ := LCg.ns_obj (Heap.Ns.new s₂.heap (.type "dict"))
    rw [Heap.get?_push_size _ rfl] at eo
    rw [← Option.some.inj eo] at x9
    exact x9
  have W := Walks.list (prog := prog) (w := w) hh I ax hne vs.toArray
  have loop : ∀ s₃ : Shared, s₃ = { s₂ with heap := h₁ } →
      codeAny (model prog w) A (.compLoop (.ListComp (.Name x pe) [⟨.Name x px, iter, [ct], 0⟩] scope pos) 0 (.ref I) (.ref D) (compEnvC scope ((x, K) :: cl) C env)) (RR (.ref D) C) s₃ := by
    rintro s₃ rfl
    refine codeAny_compLoop_tests
      (fun k s' => ∃ h' tk i ys oK cv, s' = { s₂ with heap := h', toks := tk } ∧ i ≤ vs.toArray.size ∧ k = vs.toArray.size + 1 - i ∧ ys.length ≤ i ∧ (h'.IsListIter I ax i ∧ h'.IsList ax vs.toArray) ∧ Fr h₀ L h' m ∧
        oK.data = .cell cv ∧ News h₀ L h' ((K, oK) :: (C, dictO) :: (D, LCg.lst ys) :: news) ∧ IntsAre ys ((ns.take i).filter p)) ?_ (vs.toArray.size + 1)
      ⟨h₁, _, 0, [], cellO, none, rfl, Nat.zero_le _, rfl, Nat.le_refl _, W.frame _ _ _ ⟨hit, hlist⟩ fun b _ o e => old b o e, F.keeps old, rfl, fun q hq => ?_, by simpa using IntsAre.nil⟩
    · rintro k s' ⟨h', tk, i, ys, oK, cv, rfl, hi, rfl, hyl, hst', F', hcv, N', hys⟩
      have offN : ∀ q ∈ (K, oK) :: (C, dictO) :: (D, LCg.lst ys) :: news, q.1 ≠ I := fun q hq => by
        rcases List.mem_cons.mp hq with rfl | hq
        · exact Ne.symm hIb.1
        rcases List.mem_cons.mp hq with rfl | hq
        · exact Ne.symm hIb.2.1
        rcases List.mem_cons.mp hq with rfl | hq
        · exact Ne.symm hIb.2.2
        · exact off q hq
      by_cases hlt : i < vs.toArray.size
      · refine W.item i _ _ _ hlt hst' fun v h₂ tk₂ hPv hst₂ hk₂ => ?_
        obtain ⟨kv, t, ek, rfl⟩ : ∃ kv t, ns[i]? = some kv ∧ v = .int kv t := by
          obtain ⟨kv, t, e, hk⟩ := IntsAre.at hin i v (by simpa using hPv)
          exact ⟨kv, t, hk, e⟩
        have N₂ := LCg.news_but N' hk₂ offN
        have F₂ := LCg.fr_but F' hk₂ hIL hI₀
        refine wpAny_assign_Name (wpAny_storeName_cell (v₀ := cv) (c := K) hkind hx (by simp [compEnvC]) ⟨oK, (N₂ (K, oK) (.head _)).1, hcv⟩ fun h₃ hv₃ hs₃ => ?_)
        obtain ⟨oK', gK', dK'⟩ := hv₃
        have hst₃ : h₃.IsListIter I ax (i + 1) ∧ h₃.IsList ax vs.toArray := W.frame _ _ _ hst₂ fun b hb o e => hs₃.extBut b o (fun q => by
          simp only [List.mem_cons, List.not_mem_nil, or_false] at hb
          rcases hb with rfl | rfl
          · exact hIb.1 q
          · exact (offn _ hmem).1 q) e
        obtain ⟨oI, gI, _⟩ := hst₃.1
        have F₃ : Fr h₀ L h₃ m := F₂.change hs₃ hKL hK₀
        have N₃ : News h₀ L h₃ ((K, oK') :: (I, oI) :: (C, dictO) :: (D, LCg.lst ys) :: news) := fun q hq => by
          rcases List.mem_cons.mp hq with rfl | hq
          · exact ⟨gK', hKL, hK₀⟩
          rcases List.mem_cons.mp hq with rfl | hq
          · exact ⟨gI, Ne.symm hIL, hI₀⟩
          have z := N₂ q (List.mem_cons_of_mem _ hq)
          refine ⟨hs₃.extBut _ _ ?_ z.1, z.2⟩
          rcases List.mem_cons.mp hq with rfl | hq
          · exact Ne.symm hKC
          rcases List.mem_cons.mp hq with rfl | hq
          · exact Ne.symm hKD
          · exact (offn _ hq).1
        refine wpAny_tests_one (wpAny_mono (turn kv t K oK' oI C D ys h₃ _ _ (List.mem_of_getElem? ek) dK' F₃ N₃) (fun b s₄ h₄ => ?_) fun _ _ e => e)
        obtain ⟨hbp, h₄, tk₄, rfl, F₄, N₄⟩ := h₄
        have N₅ : News h₀ L h₄ ((K, oK') :: (C, dictO) :: (D, LCg.lst ys) :: news) := fun q hq => N₄ q (by
          rcases List.mem_cons.mp hq with rfl | hq
          · exact .head _
          · exact List.mem_cons_of_mem _ (List.mem_cons_of_mem _ hq))
        have hst₄ : h₄.IsListIter I ax (i + 1) ∧ h₄.IsList ax vs.toArray := ⟨by
          obtain ⟨o', q, r⟩ := hst₃.1
          rw [gI] at q
          cases q
          exact ⟨oI, (N₄ (I, oI) (List.mem_cons_of_mem _ (.head _))).1, r⟩, ⟨_, (N₅ _ (List.mem_cons_of_mem _ (List.mem_cons_of_mem _ (List.mem_cons_of_mem _ hmem)))).1, rfl, _, rfl⟩⟩
        have hfs := filter_snoc p ek
        cases b with
        | true =>
          simp only [if_true]
          refine wpAny_Name (wpAny_loadName_cell (c := K) hkind hx (by simp [compEnvC]) ⟨oK', (N₅ _ (.head _)).1, dK'⟩ ?_) hb
          have zD := (N₅ (D, LCg.lst ys) (List.mem_cons_of_mem _ (List.mem_cons_of_mem _ (.head _)))).1
          refine append_at (hsz := by show ys.toArray.size ≤ sizeLine; rw [List.size_toArray]; exact Nat.le_trans (Nat.le_trans hyl hi) hsz) zD fun h₅ hs₅ hD₅ => ?_
          refine ⟨vs.toArray.size + 1 - (i + 1), by omega, h₅, tk₄, i + 1, ys ++ [.int kv t], oK', _, rfl, hlt, rfl, by rw [List.length_append, List.length_singleton]; exact Nat.succ_le_succ hyl,
            W.frame _ _ _ hst₄ fun b hb o e => hs₅.extBut b o (fun q => by
              simp only [List.mem_cons, List.not_mem_nil, or_false] at hb
              rcases hb with rfl | rfl
              · exact hIb.2.2 q
              · exact (offn _ hmem).2.2 q) e, F₄.change hs₅ hDL hD₀, dK', fun q hq => ?_, ?_⟩
          · rcases List.mem_cons.mp hq with rfl | hq
            · exact ⟨hs₅.extBut _ _ hKD (N₅ _ (.head _)).1, hKL, hK₀⟩
            rcases List.mem_cons.mp hq with rfl | hq
            · exact ⟨hs₅.extBut _ _ hCD (N₅ _ (List.mem_cons_of_mem _ (.head _))).1, hCL, hC₀⟩
            rcases List.mem_cons.mp hq with rfl | hq
            · exact ⟨hD₅.trans (congrArg some (LCg.lst_snoc ys _)), hDL, hD₀⟩
            · have z := N₅ q (List.mem_cons_of_mem _ (List.mem_cons_of_mem _ (List.mem_cons_of_mem _ hq)))
              exact ⟨hs₅.extBut _ _ (offn q hq).2.2 z.1, z.2⟩
          · rw [hfs, ← hbp, if_pos rfl]
            exact IntsAre.append hys (.cons kv t .nil)
        | false =>
          simp only [Bool.false_eq_true, if_false]
          refine ⟨vs.toArray.size + 1 - (i + 1), by omega, h₄, tk₄, i + 1, ys, oK', _, rfl, hlt, rfl, Nat.le_succ_of_le hyl, hst₄, F₄, dK', N₅, ?_⟩
          rw [hfs, ← hbp, if_neg (by decide), List.append_nil]
          exact hys
      · obtain rfl : i = vs.toArray.size := Nat.le_antisymm hi (Nat.not_lt.mp hlt)
        refine W.done _ _ _ hst' fun h₂ tk₂ hk₂ => ?_
        have N₂ := LCg.news_but N' hk₂ offN
        refine hRR D C h₂ tk₂ (fun _ => none) ys (LCg.fr_but F' hk₂ hIL hI₀) (fun q hq => N₂ q (List.mem_cons_of_mem _ (List.mem_cons_of_mem _ hq))) ?_ (hns.ns (N₂ (C, dictO) (List.mem_cons_of_mem _ (.head _))).1) hC₀ hD₀ hCL hDL hCD (fun q hq => (offn q hq).2.1) ?_
        · exact (LCg.Off3.of (I := K) (C := C) (D := D) (l := news) fun q hq => offn q hq).one
        · have e : vs.toArray.size = ns.length := by rw [List.size_toArray]; exact hin.length
          rw [e, List.take_length] at hys
          exact hys
    · rcases List.mem_cons.mp hq with rfl | hq
      · exact ⟨gK, hKL, hK₀⟩
      rcases List.mem_cons.mp hq with rfl | hq
      · exact ⟨gC, hCL, hC₀⟩
      rcases List.mem_cons.mp hq with rfl | hq
      · exact ⟨gD, hDL, hD₀⟩
      · exact ⟨old _ _ (N q hq).1, (N q hq).2⟩
  exact codeAny_compStart_list (loop _ rfl) (W.self 0 _ _ _ (W.frame _ _ _ ⟨hit, hlist⟩ fun b _ o e => old b o e) (loop _ rfl))
/-- a turn of a comprehension with a cell for its target -/
def CellTurn (prog : Program) (w : World) (A : Around) (h₀ : Heap) (L : Addr) (m : Str → Option Value) (env : Env) (ct : Expr) (x : Str) (scope : Scope) (cl : List (Str × Addr)) (ns : List Int) (p : Int → Bool) (news : Led) (s₂ : Shared) : Prop :=
  ∀ k t K oK I oI C D ys h tk (E' : Value → Shared → Prop), k ∈ ns → oK.data = .cell (some (.int k t)) → Fr h₀ L h m → News h₀ L h ((K, oK) :: (I, oI) :: (C, dictO) :: (D, LCg.lst ys) :: news) →
    wpAny (model prog w) A (isTrue ct (compEnvC scope ((x, K) :: cl) C env) (eval ct (compEnvC scope ((x, K) :: cl) C env)))
      (fun b s' => b = p k ∧ ∃ h' tk', s' = { s₂ with heap := h', toks := tk' } ∧ Fr h₀ L h' m ∧ News h₀ L h' ((K, oK) :: (I, oI) :: (C, dictO) :: (D, LCg.lst ys) :: news)) E' { s₂ with heap := h, toks := tk }
def SrcC (prog : Program) (w : World) (A : Around) (h₀ : Heap) (L : Addr) (m : Str → Option Value) (env : Env) (ct : Expr) (x : Str) (scope : Scope) (cl : List (Str × Addr)) (p : Int → Bool) (Fin : Shared → List Value → Led → Prop) (xv : Value) (s₁ : Shared) : Prop :=
  ∃ ax vs ns kk news, xv = .ref ax ∧ A.handled = none ∧ Fr h₀ L s₁.heap m ∧ News h₀ L s₁.heap news ∧ (ax, ({ cls := .type "list", data := .seq (List.toArray vs) kk } : Obj)) ∈ news ∧ vs.toArray.size ≤ sizeLine ∧ IntsAre vs ns ∧
    ∀ s₂ : Shared, (∃ h, s₂ = { s₁ with heap := h }) → CellTurn prog w A h₀ L m env ct x scope cl ns p news s₂ ∧ ∀ ys, IntsAre ys (ns.filter p) → Fin s₂ ys news
theorem SrcC.mk {ct : Expr} {x : Str} {scope : Scope} {cl : List (Str × Addr)} {p : Int → Bool} {Fin : Shared → List Value → Led → Prop} {ax : Addr} {vs : List Value} {ns : List Int} {kk : Nat} {news : Led} {s₁ : Shared}
    (hh : A.handled = none) (F : Fr h₀ L s₁.heap m) (N : News h₀ L s₁.heap news) (hm : (ax, ({ cls := .type "list", data := .seq (List.toArray vs) kk } : Obj)) ∈ news) (hsz : vs.toArray.size ≤ sizeLine) (hi : IntsAre vs ns)
    (h : ∀ g, CellTurn prog w A h₀ L m env ct x scope cl ns p news { s₁ with heap := g }) (fin : ∀ g ys, IntsAre ys (ns.filter p) → Fin { s₁ with heap := g } ys news) :
    SrcC prog w A h₀ L m env ct x scope cl p Fin (.ref ax) s₁ := ⟨ax, vs, ns, kk, news, rfl, hh, F, N, hm, hsz, hi, fun _ ⟨g, e⟩ => e ▸ ⟨h g, fin g⟩⟩
theorem Assign_ListComp_C {ct iter : Expr} {x y : Str} {px pe py : Pos} {scope : Scope} {cl : List (Str × Addr)} {pos spos : Pos} {p : Int → Bool} {Q : Flow → Shared → Prop} (_F : Fr h₀ L s.heap m) (hLe : env.locals = L)
    (hsw : swapsWith (.ListComp (.Name x pe) [⟨.Name x px, iter, [ct], 0⟩] scope pos) (some (.Name y py)) spos.line env = pure true)
    (hclos : closureFor scope env = pure cl) (hkind : scope.kind = .function) (hcl : ∀ k, cellsFrom k scope.names cl = (x, k) :: cl) (hpc : ∀ h, pushCells h scope.names = h.push cellO)
    (hnames : ∀ y ∈ scope.names, y.2 = .local → scope.names.lookup y.1 = some .local) (hx : (relabel scope env).names.lookup x = some .cell) (hb : (x == ("__debug__" : Str)) = false)
    (hy : env.kindOf y = some .local) (hp : (env.scope.kind == .class || (env.scope.kind == .module && env.locals != env.globals)) = false)
    (h : wpAny (model prog w) A (eval iter env) (SrcC prog w A h₀ L m env ct x scope cl p (fun s₂ => LCg.FinA h₀ L m s₂ y Q)) E s)
    (hs : ∀ x, foldedSetIterable iter env x = pure x := by intro _; rfl) :
    wpAny (model prog w) A (exec (.Assign [.Name y py] (.ListComp (.Name x pe) [⟨.Name x px, iter, [ct], 0⟩] scope pos) spos) env) Q E s := by
  rw [exec_Assign_Name_used _ _ _ _ hsw]
  refine wpAny_bind (wpAny_standAt (wpAny_bind ?_))
  show wpAny _ A (do let _ ← comprehension (.ListComp (.Name x pe) [⟨.Name x px, iter, [ct], 0⟩] scope pos) scope env _ (newList []) false (eval iter env) (some (assign (.Name y py) env))) _ _ s
  refine wpAny_bind (wpAny_mono (wpAny_comprehension_free (use := some (assign (.Name y py) env)) (Q := fun _ s' => Q .next s') rfl hs hclos hkind hnames
    (wpAny_mono h (fun xv s₁ h₁ => ?_) fun _ _ e => e)) (fun _ s' hq => wpAny_pure (wpAny_pure hq)) fun _ _ e => e)
  obtain ⟨ax, vs, ns, kk, news, rfl, hh, F, N, hm, hsz, hi, R⟩ := h₁
  have hl : s₁.heap.IsList ax vs.toArray := ⟨_, (N _ hm).1, rfl, _, rfl⟩
  have hlt : ax < s₁.heap.objs.size := Heap.lt_size (N _ hm).1
  refine wpAny_pyIter_list hl ?_
  have up : ∀ b o, s₁.heap.get? b = some o → (s₁.heap.push { cls := .type "list_iterator", data := .fields #[.ref ax, .int 0 0] }).get? b = some o := fun b o e => Heap.get?_push_of_some _ e
  obtain ⟨turn, fin⟩ := R { s₁ with heap := s₁.heap.push { cls := .type "list_iterator", data := .fields #[.ref ax, .int 0 0] } } ⟨_, rfl⟩
  refine cell_block (I := s₁.heap.objs.size) (RR := fun acc C => compPost (model prog w) A _ (some (assign (.Name y py) env)) (fun _ s' => Q .next s') acc C) p hh hsz hkind hcl hpc hx hb ⟨_, Heap.get?_push_size _ rfl, rfl, rfl⟩ (hl.push _) (Nat.ne_of_lt hlt)
    (by show s₁.heap.objs.size < (s₁.heap.push _).objs.size; rw [Heap.size_push]; exact Nat.lt_succ_self _) hm (F.keeps up) (N.grown up) (Nat.ne_of_lt F.ns.lt) (next_is_new F) (fun p hp => Nat.ne_of_lt (Heap.lt_size (N p hp).1)) hi
    (fun k t K oK oI C D ys h tk E' a b c d => turn k t K oK _ oI C D ys h tk E' a b c d) ?_
  intro D C h tk m' ys F' N' o1 hn hC₀ _ hCL _ hCD offC hys
  exact post_store hLe hy hp F' N' o1 hn hC₀ hCL hCD offC (fin ys hys)
end
/-- one turn of the divisors' comprehensions -/
def dv (md : Int) (l : List Int) (k : Int) : List Int := if md.fmod k = 0 then l ++ [k] else l
theorem dv_grows (md : Int) : KPfGrows (dv md) := by
  intro l k
  unfold dv
  split <;> simp
/-- range(3, b, 2) -/
def stepN (b : Int) : Nat := ((b - 2) / 2).toNat
def stepKs (n : Nat) : List Int := (List.range n).map fun (i : Nat) => (3 : Int) + (i : Int) * 2
def twosL (md : Int) : List Int := [4, 8].foldl (dv md) []
def oddL (md : Int) : List Int := (stepKs (stepN (md + 1))).foldl (dv md) []
def innerL (one : Int) : List Int := (stepKs (stepN one)).foldl (dv one) []
def primeP (one : Int) : Bool := decide (innerL one = [])
def oddF (md : Int) : List Int := (oddL md).filter primeP
def ownF (md : Int) : Int := 2 ^ ((twosL md).length + (oddF md).length)
theorem step_size (b : Int) : Builtin.Range.rangeSize 3 b 2 = ((stepN b : Nat) : Int) := by
  unfold Builtin.Range.rangeSize stepN
  rw [if_pos (by decide)]
  split <;> omega
theorem step_small {b : Int} (h : 3 ≤ b) (h' : b ≤ 25) : Builtin.Range.small 3 b 2 = true := by
  unfold Builtin.Range.small
  rw [step_size]
  simp only [Builtin.Range.rangeFitsLong, Bool.and_eq_true, Bool.or_eq_true, decide_eq_true_eq, beq_iff_eq, show (2 : Int) > 0 by decide, if_true]
  unfold stepN
  omega
theorem step_room {b : Int} (h' : b ≤ 25) : stepN b ≤ sizeLine := by
  rw [PySem.sizeLine_eq]
  unfold stepN
  omega
theorem step_len (n : Nat) : (stepKs n).length = n := by simp [stepKs]
theorem step_at (n : Nat) (i : Nat) (v : Value) (hi : i < n) (h : ∃ t, v = .int (3 + (i : Int) * 2) t) : ∃ k t, (stepKs n)[i]? = some k ∧ v = .int k t := by
  obtain ⟨t, e⟩ := h
  exact ⟨3 + (i : Int) * 2, t, by simp [stepKs, hi], e⟩
theorem step_mem {n : Nat} {k : Int} (h : k ∈ stepKs n) : 3 ≤ k ∧ k < 3 + (n : Int) * 2 := by
  obtain ⟨i, hi, rfl⟩ := List.mem_map.mp h
  have := List.mem_range.mp hi
  omega
theorem odd_mem {md k : Int} (h : k ∈ oddL md) (h24 : md ≤ 24) : 3 ≤ k ∧ k ≤ 24 := by
  have key : ∀ (ks l : List Int), (∀ x ∈ ks, 3 ≤ x ∧ x ≤ 24) → (∀ x ∈ l, 3 ≤ x ∧ x ≤ 24) → ∀ x ∈ ks.foldl (dv md) l, 3 ≤ x ∧ x ≤ 24 := by
    intro ks
    induction ks with
    | nil => intro l _ hl; exact hl
    | cons a r ih =>
      intro l hk hl
      refine ih _ (fun x hx => hk x (List.mem_cons_of_mem _ hx)) ?_
      intro x hx
      unfold dv at hx
      split at hx
      · rcases List.mem_append.mp hx with hx | hx
        · exact hl x hx
        · rw [List.mem_singleton.mp hx]; exact hk a (List.mem_cons_self ..)
      · exact hl x hx
  refine key _ [] (fun x hx => ?_) (fun _ h => nomatch h) k h
  have := step_mem hx
  unfold stepN at this
  omega
theorem lens_all : ((List.range 25).all fun md => decide ((twosL md).length ≤ 2) && decide ((oddF md).length ≤ 3) && decide ((oddL md).length ≤ 12)) = true := by decide +kernel
theorem lens_at {md : Int} (h3 : 3 ≤ md) (h24 : md ≤ 24) : (twosL md).length ≤ 2 ∧ (oddF md).length ≤ 3 ∧ (oddL md).length ≤ 12 := by
  have h := List.all_eq_true.mp lens_all md.toNat (List.mem_range.mpr (by omega))
  have e : ((md.toNat : Nat) : Int) = md := by omega
  rw [e, Bool.and_eq_true, Bool.and_eq_true] at h
  exact ⟨of_decide_eq_true h.1.1, of_decide_eq_true h.1.2, of_decide_eq_true h.2⟩
def endOk (md : Nat) : Bool := decide ((stF md md).2 = ownF md) && decide ((stF md md).1 = if (stF md md).2 = 2 then (md : Int) - 1 else 1)
theorem end_all : ((List.range 25).all fun md => md < 3 || endOk md) = true := by decide +kernel
theorem end_at {md : Int} (h3 : 3 ≤ md) (h24 : md ≤ 24) : (stF md md.toNat).2 = ownF md ∧ (stF md md.toNat).1 = if (stF md md.toNat).2 = 2 then md - 1 else 1 := by
  have h := List.all_eq_true.mp end_all md.toNat (List.mem_range.mpr (by omega))
  have e : ((md.toNat : Nat) : Int) = md := by omega
  rcases Bool.or_eq_true_iff.mp h with h | h
  · have := of_decide_eq_true h; omega
  · unfold endOk at h
    rw [e, Bool.and_eq_true] at h
    exact ⟨of_decide_eq_true h.1, of_decide_eq_true h.2⟩
theorem own_val {md : Int} (h3 : 3 ≤ md) (h24 : md ≤ 24) : (2 : Int) ^ (((twosL md).length : Int) + ((oddF md).length : Int)).toNat = (stF md md.toNat).2 := by
  rw [(end_at h3 h24).1]
  unfold ownF
  congr 1
theorem due_val {md : Int} (h3 : 3 ≤ md) (h24 : md ≤ 24) : [1, md - 1].getD (if ((stF md md.toNat).2 == 2) = true then (1 : Int) else 0).toNat 0 = (stF md md.toNat).1 := by
  rw [(end_at h3 h24).2]
  by_cases h : (stF md md.toNat).2 = 2
  · rw [if_pos h, if_pos (beq_iff_eq.mpr h)]; rfl
  · rw [if_neg h, if_neg fun e => h (beq_iff_eq.mp e)]; rfl
theorem warm : PySem.Challenge.rw_xm0441_01.row.prog = PySem.Challenge.rw_xm0441_01.row.prog ∧ (fun w : World => hd.heap_1 w.params) = fun w => hd.heap_1 w.params := by
  w_top off; k_fill; exact ⟨rfl, rfl⟩
-- ktn_open: into the def's body. ktr_unf: its end. tb_start: a ledger's part. tb_rel: apart. ktd_rel: a contract's plain premises. kwd_rel: what comes back is a list. ktr_rel: the body's end is a list
local macro_rules | `(tactic| tb_start) => `(tactic| first | exact sub_nil | (refine' sub_cons ?a ?b; (case a => k_mem); (case b => tb_start)))
local macro_rules | `(tactic| krn_off) => `(tactic| first | exact List.forall_mem_nil _ | (refine' List.forall_mem_cons.mpr ⟨?a, ?b⟩; (case a => first | with_reducible assumption | exact Nat.ne_of_gt (by with_reducible assumption) | exact Offs.ne (by with_reducible assumption) (by k_mem) | (refine ne_ltc (by with_reducible assumption) fun h9 => ?_; with_reducible first | exact h9.1 | exact h9.2.1 | exact h9.2 | exact h9.2.2.1 | exact h9.2.2 | exact h9.2.2.2.1 | exact h9.2.2.2 | exact h9.2.2.2.2.1 | exact h9.2.2.2.2 | exact h9.2.2.2.2.2.1 | exact h9.2.2.2.2.2 | exact h9.2.2.2.2.2.2.1 | exact h9.2.2.2.2.2.2 | exact h9.2.2.2.2.2.2.2.1 | exact h9.2.2.2.2.2.2.2 | exact h9.2.2.2.2.2.2.2.2.1 | exact h9.2.2.2.2.2.2.2.2 | exact h9.2.2.2.2.2.2.2.2.2.1 | exact h9.2.2.2.2.2.2.2.2.2 | exact h9.2.2.2.2.2.2.2.2.2.2.1 | exact h9.2.2.2.2.2.2.2.2.2.2 | exact h9.2.2.2.2.2.2.2.2.2.2.2.1 | exact h9.2.2.2.2.2.2.2.2.2.2.2 | exact h9.2.2.2.2.2.2.2.2.2.2.2.2.1 | exact h9.2.2.2.2.2.2.2.2.2.2.2.2 | exact h9.2.2.2.2.2.2.2.2.2.2.2.2.2.1 | exact h9.2.2.2.2.2.2.2.2.2.2.2.2.2 | exact h9.2.2.2.2.2.2.2.2.2.2.2.2.2.2.1 | exact h9.2.2.2.2.2.2.2.2.2.2.2.2.2.2 | exact h9.2.2.2.2.2.2.2.2.2.2.2.2.2.2.2.1 | exact h9.2.2.2.2.2.2.2.2.2.2.2.2.2.2.2)); (case b => krn_off)))
local macro_rules | `(tactic| tb_rel) => `(tactic| first | exact off_nil | (refine' off_cons ?a ?b; (case a => krn_off); (case b => tb_rel)))
local macro_rules | `(tactic| kxt_pos) => `(tactic| tb_rel)
local macro_rules | `(tactic| ktr_unf) => `(tactic| ((try dsimp only); (iterate 5 (try (k_unfold; (try dsimp only)))); (try (show LeaveA _ _ _ _ _ _; (try dsimp only)))))
local macro_rules | `(tactic| walk_at "binaryOp Mult ref int") => `(tactic| (k_here; (with_reducible show wpAny _ _ (binaryOp Operator.Mult (Value.ref _) (Value.int _ _)) _ _ _); k_dflt (refine' KMa.mul ?F ?N ?l ?lo ?hi ?z ?e ?_; (case F => k_asm); (case N => k_asm); (case l => is_list); (case lo => decide); (case hi => decide); (case z => exact Nat.le_of_ble_eq_true rfl); (case e => exact rfl); k_whole); intro D' h' F' N' l1; (try simp only [Int.reduceAdd, Int.reduceToNat, List.replicate_succ, List.replicate_zero, List.flatten_cons, List.flatten_nil, List.cons_append, List.nil_append, List.append_nil] at N'); (try k_lt l1); (try k_sweep)))
local macro_rules | `(tactic| ktr_rel) => `(tactic| (first | ((with_reducible show LeaveA _ _ (NewL _) _ _ _); (with_unfolding_all refine' leaveA_ [_] ?F ?N ⟨_, _, _, rfl, rfl, ?P⟩ ?S ?O; (case F => k_asm); (case N => k_asm); (case S => tb_start); (case O => kxt_pos))) | ((with_reducible show LeaveA _ _ (NewI _) _ _ _); (with_unfolding_all refine' leaveA_ [] ?F ?N ⟨_, _, rfl, rfl, ?P⟩ ?S ?O; (case F => k_asm); (case N => k_asm); (case S => tb_start); (case O => kxt_pos))) | ((with_reducible show LeaveA _ _ (NewLI _) _ _ _); (with_unfolding_all refine' leaveA_ [_, _] ?F ?N ⟨_, _, _, _, _, _, rfl, rfl, ?P⟩ ?S ?O; (case F => k_asm); (case N => k_asm); (case S => tb_start); (case O => kxt_pos))) | ((with_reducible show LeaveA _ _ (NewLL _) _ _ _); (with_unfolding_all refine' leaveA_ [_, _, _] ?F ?N ⟨_, _, _, _, _, _, _, rfl, rfl, ?P⟩ ?S ?O; (case F => k_asm); (case N => k_asm); (case S => tb_start); (case O => kxt_pos))) | ((with_reducible show LeaveA _ _ (NewBL _) _ _ _); (with_unfolding_all refine' leaveA_ [_, _] ?F ?N ⟨_, _, _, _, _, rfl, rfl, ?P⟩ ?S ?O; (case F => k_asm); (case N => k_asm); (case S => tb_start); (case O => kxt_pos))) | ((with_reducible show LeaveA _ _ (NewB _ _) _ _ _); (with_unfolding_all refine' leaveA_ [_] ?F ?N ⟨_, _, rfl, rfl, ?P⟩ ?S ?O; (case F => k_asm); (case N => k_asm); (case S => tb_start); (case O => kxt_pos)))))
local macro_rules | `(tactic| kwd_inv) => `(tactic| (law_clear; (try simp only [Int.toNat_zero, Int.reduceToNat, List.getD_cons_zero, List.getD_cons_succ, Int.add_zero, Int.zero_add, Int.one_mul, Int.reduceSub, Int.reduceAdd, Int.sub_zero, Int.toNat_natCast, List.concat_eq_append, Array.toList_push, List.nil_append, List.cons_append] at *)))
-- kwd_less: arithmetic. ktn_open: a number's list
local macro_rules | `(tactic| kwd_less) => `(tactic| ((try simp only [Int.toNat_zero, Int.reduceToNat, List.getD_cons_zero, List.getD_cons_succ, Int.add_zero, Int.zero_add, Int.reduceSub, Int.reduceAdd]); omega))
local macro_rules | `(tactic| ktn_open) => `(tactic| first | assumption | exact Lim.pos1 (by assumption) | exact Lim.nat2 (by assumption) (by assumption) | exact Lim.zero rfl | exact Lim.one _ (by kwd_less) (by kwd_less) | exact Pos1.zero rfl | exact Pos1.one _ (by kwd_less) | exact Nat2.zero rfl | exact Nat2.one _ (by kwd_less) (by kwd_less) | exact Nat2.two _ _ _ _ (by assumption) (by assumption) (by assumption) (by assumption) rfl)
local macro_rules | `(tactic| walk_at "exec For Name Name cons nil") => `(tactic| (k_here; (rename Fr _ _ _ _ => lF'); (with_unfolding_all refine' For_turns lF' ?_; k_whole)))
local macro_rules | `(tactic| walk_at "subscriptTail Name Name ref int") => `(tactic| (k_here; (with_reducible show wpAny _ _ (subscriptTail _ _ (Value.ref _) (Value.int _ _)) _ _ _); (with_unfolding_all refine' item_litK ?k1 ?k2 ?k3 ?k4 ?_ ?k6; (case k1 => is_list); (case k2 => decide); (case k3 => decide); (case k4 => rfl); (case k6 => with_unfolding_all rfl); k_whole)))
local macro_rules | `(tactic| walk_at "subscriptTail Name BinOp ref int") => `(tactic| (k_here; (with_reducible show wpAny _ _ (subscriptTail _ _ (Value.ref _) (Value.int _ _)) _ _ _); (with_unfolding_all refine' item_litK ?k1 ?k2 ?k3 ?k4 ?_ ?k6; (case k1 => is_list); (case k2 => decide); (case k3 => decide); (case k4 => rfl); (case k6 => with_unfolding_all rfl); k_whole)))
local macro_rules | `(tactic| walk_at "subscriptTail Name Constant ref int") => `(tactic| (k_here; (with_reducible show wpAny _ _ (subscriptTail _ _ (Value.ref _) (Value.int _ _)) _ _ _); (with_unfolding_all refine' item_litK ?k1 ?k2 ?k3 ?k4 ?_ ?k6; (case k1 => is_list); (case k2 => decide); (case k3 => decide); (case k4 => rfl); (case k6 => with_unfolding_all rfl); k_whole)))
-- INLINE: a def's body where no contract stands
local macro_rules | `(tactic| walk_at "call ref") => `(tactic| (k_here; (with_reducible show wpAny _ _ (call (Value.ref _) _) _ _ _); k_dflt (refine wpAny_call ?_; refine' code_def ?k1 ?k2 ?k3 ?k4 ?k5 ?kA ?kF ?kK ?k6 ?k7 ?k8 ?k9 ?kB ?_ ?c2 ?c3 ?c4 ?c5; (case kA => exact rfl); (case kF => exact rfl); (case kK => first | exact rfl | assumption); (case k1 => k_asm); (case k2 => k_asm); (case k3 => k_asm); (case k4 => k_asm); (case k5 => k_asm); (case k6 => k_is); (case k7 => k_is); (case k8 => ktr_room); (case k9 => exact BindsTo.of_eq rfl); (case kB => exact locs rfl); (case c2 => exact rfl); (case c3 => exact rfl); (case c4 => exact rfl); (case c5 => decide); k_whole); intro g' L' h' FG' F' N' B' X' T'; (try dsimp only); (try k_fold)))
section
local macro_rules | `(tactic| walk_at "none of these") => `(tactic| fail)
theorem c_norm0 {la na} :
    Meets w mean mg mb 2 70 [.ref la] [(la, listOf [].toArray na)] (NewL fun vs => vs = []) := by
  w_top off; (k_dflt (refine' meets_of (binds := [(Str.ofString "a", .ref la)]) ?ho ?hcd ?hb ?hl ?h1 ?h2 ?h3 ?h4 ?h5 ?_; (case ho => k_is); (case hcd => k_is); (case hb => exact fun _ => BindsTo.of_eq rfl); (case hl => exact locs rfl); (case h1 => exact rfl); (case h2 => exact rfl); (case h3 => exact rfl); (case h4 => decide); (case h5 => decide)); intro dp un gd outer base g L' h₁ s Er F N B X T hdp hun; (try dsimp only [List.reverse_cons, List.reverse_nil, List.nil_append, List.cons_append] at F); (try dsimp only); (try k_fold))
  (repeat' (first | (k_unfold; (try dsimp only)) | (k_end; wrow_close) | walk1 | (dsimp only; walk1) | (leave1; (try dsimp only)) | fail "no step"))
  all_goals ktr_unf
  all_goals (ktr_rel; rfl)
theorem c_norm1 {la na} {x : Int} {t}  :
    Meets w mean mg mb 2 70 [.ref la] [(la, listOf [.int x t].toArray na)] (NewL (Norm1 x t)) := by
  w_top off; (k_dflt (refine' meets_of (binds := [(Str.ofString "a", .ref la)]) ?ho ?hcd ?hb ?hl ?h1 ?h2 ?h3 ?h4 ?h5 ?_; (case ho => k_is); (case hcd => k_is); (case hb => exact fun _ => BindsTo.of_eq rfl); (case hl => exact locs rfl); (case h1 => exact rfl); (case h2 => exact rfl); (case h3 => exact rfl); (case h4 => decide); (case h5 => decide)); intro dp un gd outer base g L' h₁ s Er F N B X T hdp hun; (try dsimp only [List.reverse_cons, List.reverse_nil, List.nil_append, List.cons_append] at F); (try dsimp only); (try k_fold))
  (repeat' (first | (k_unfold; (try dsimp only)) | (k_end; wrow_close) | walk1 | (dsimp only; walk1) | (leave1; (try dsimp only)) | fail "no step"))
  all_goals ktr_unf
  all_goals (ktr_rel; constructor <;> law_fin)
theorem c_norm2 {la na} {x y : Int} {t t'}  :
    Meets w mean mg mb 2 70 [.ref la] [(la, listOf [.int x t, .int y t'].toArray na)] (NewL (Norm2 x y t t')) := by
  w_top off; (k_dflt (refine' meets_of (binds := [(Str.ofString "a", .ref la)]) ?ho ?hcd ?hb ?hl ?h1 ?h2 ?h3 ?h4 ?h5 ?_; (case ho => k_is); (case hcd => k_is); (case hb => exact fun _ => BindsTo.of_eq rfl); (case hl => exact locs rfl); (case h1 => exact rfl); (case h2 => exact rfl); (case h3 => exact rfl); (case h4 => decide); (case h5 => decide)); intro dp un gd outer base g L' h₁ s Er F N B X T hdp hun; (try dsimp only [List.reverse_cons, List.reverse_nil, List.nil_append, List.cons_append] at F); (try dsimp only); (try k_fold))
  (repeat' (first | (k_unfold; (try dsimp only)) | (k_end; wrow_close) | walk1 | (dsimp only; walk1) | (leave1; (try dsimp only)) | fail "no step"))
  all_goals ktr_unf
  all_goals (ktr_rel; constructor <;> law_fin)
end
section
-- normal
theorem c_mul {la lb na nb} {x y wd : Int} {tw : Tok} {vx vy} (hvx : Lim x vx) (hvy : Lim y vy) (hw : 5 ≤ wd) (hw' : wd ≤ 9) :
    Meets w mean mg mb 4 210 [.ref la, .ref lb, .int wd tw] [(la, listOf vx.toArray na), (lb, listOf vy.toArray nb)] (NewL (Nat2 (2 ^ wd.toNat) (x * y))) := by
  cases hvx <;> cases hvy
  all_goals (
    w_top off; (k_dflt (refine' meets_of (binds := [(Str.ofString "a", .ref la), (Str.ofString "b", .ref lb), (Str.ofString "w", .int wd tw)]) ?ho ?hcd ?hb ?hl ?h1 ?h2 ?h3 ?h4 ?h5 ?_; (case ho => k_is); (case hcd => k_is); (case hb => exact fun _ => BindsTo.of_eq rfl); (case hl => exact locs rfl); (case h1 => exact rfl); (case h2 => exact rfl); (case h3 => exact rfl); (case h4 => decide); (case h5 => decide)); intro dp un gd outer base g L' h₁ s Er F N B X T hdp hun; (try dsimp only [List.reverse_cons, List.reverse_nil, List.nil_append, List.cons_append] at F); (try dsimp only); (try k_fold))
    (repeat' (first | (k_here; (with_reducible show wpAny _ _ (call (Value.ref 70) [Value.ref _]) _ _ _); k_dflt ((first | refine' Meets.useL (by k_asm) (by k_asm) (by k_asm) (by k_asm) (by k_asm) (by exact rfl) (by exact rfl) (by tb_start) (by ktr_room) (by ktr_units) (c_norm2) ?_ | refine' Meets.useL (by k_asm) (by k_asm) (by k_asm) (by k_asm) (by k_asm) (by exact rfl) (by exact rfl) (by tb_start) (by ktr_room) (by ktr_units) (c_norm1) ?_ | refine' Meets.useL (by k_asm) (by k_asm) (by k_asm) (by k_asm) (by k_asm) (by exact rfl) (by exact rfl) (by tb_start) (by ktr_room) (by ktr_units) (c_norm0) ?_); (intro l9 n9 vs9 h9 tk9 hv9 F9 N9 hne9; (try dsimp only at hv9); (first | (subst hv9; skip) | cases hv9); all_goals ((try k_sweep); (try dsimp only); (try k_fold))))) | (k_unfold; (try dsimp only)) | (k_end; wrow_close) | walk1 | (dsimp only; walk1) | (leave1; (try dsimp only)) | fail "no step")))
  all_goals ktr_unf
  all_goals ktr_rel
  all_goals law_clear
  all_goals (first
    | (exfalso; omega)
    | (simp only [Int.zero_add, Int.one_mul] at *
       have hp := pw hw hw'
       have hm := mul32 (x := x) (y := y) (by assumption) (by assumption) (by assumption) (by assumption)
       first
         | exact n2_two hp.1 hm.1 hm.2 (by assumption)
         | exact n2_one hm.1 (by assumption)
         | exact n2_zero hm.1 (by assumption) (by assumption))
    | (refine .zero ?_; simp_all; done))
end
section
local macro_rules | `(tactic| walk_at "none of these") => `(tactic| fail)
theorem c_cmp {la lb na nb} {x y : Int} {vx vy} (hvx : Pos1 x vx) (hvy : Pos1 y vy) :
    Meets w mean mg mb 2 77 [.ref la, .ref lb] [(la, listOf vx.toArray na), (lb, listOf vy.toArray nb)] (NewI (Cmp x y)) := by
  cases hvx <;> cases hvy
  all_goals (
    w_top off; (k_dflt (refine' meets_of (binds := [(Str.ofString "a", .ref la), (Str.ofString "b", .ref lb)]) ?ho ?hcd ?hb ?hl ?h1 ?h2 ?h3 ?h4 ?h5 ?_; (case ho => k_is); (case hcd => k_is); (case hb => exact fun _ => BindsTo.of_eq rfl); (case hl => exact locs rfl); (case h1 => exact rfl); (case h2 => exact rfl); (case h3 => exact rfl); (case h4 => decide); (case h5 => decide)); intro dp un gd outer base g L' h₁ s Er F N B X T hdp hun; (try dsimp only [List.reverse_cons, List.reverse_nil, List.nil_append, List.cons_append] at F); (try dsimp only); (try k_fold))
    (repeat' (first | (k_unfold; (try dsimp only)) | (k_end; wrow_close) | walk1 | (dsimp only; walk1) | (leave1; (try dsimp only)) | fail "no step")))
  all_goals ktr_unf
  all_goals (first | (ktr_rel; kwd_inv; first | (exfalso; omega) | (constructor; omega)) | skip)
theorem c_cmp2 {la lb na nb} {x0 x1 y : Int} {t0 t1 t : Tok} :
    Meets w mean mg mb 2 77 [.ref la, .ref lb] [(la, listOf [.int x0 t0, .int x1 t1].toArray na), (lb, listOf [.int y t].toArray nb)] (NewI (fun c => c = 1)) := by
  w_top off; (k_dflt (refine' meets_of (binds := [(Str.ofString "a", .ref la), (Str.ofString "b", .ref lb)]) ?ho ?hcd ?hb ?hl ?h1 ?h2 ?h3 ?h4 ?h5 ?_; (case ho => k_is); (case hcd => k_is); (case hb => exact fun _ => BindsTo.of_eq rfl); (case hl => exact locs rfl); (case h1 => exact rfl); (case h2 => exact rfl); (case h3 => exact rfl); (case h4 => decide); (case h5 => decide)); intro dp un gd outer base g L' h₁ s Er F N B X T hdp hun; (try dsimp only [List.reverse_cons, List.reverse_nil, List.nil_append, List.cons_append] at F); (try dsimp only); (try k_fold))
  (repeat' (first | (k_unfold; (try dsimp only)) | (k_end; wrow_close) | walk1 | (dsimp only; walk1) | (leave1; (try dsimp only)) | fail "no step"))
  all_goals ktr_unf
  all_goals (ktr_rel; rfl)
theorem c_cmpge {la lb na nb} {x y : Int} {vx vy} (hvx : Pos1 x vx) (hvy : Pos1 y vy) (h : y ≤ x) :
    Meets w mean mg mb 2 77 [.ref la, .ref lb] [(la, listOf vx.toArray na), (lb, listOf vy.toArray nb)] (NewI (fun c => 0 ≤ c)) :=
  (c_cmp hvx hvy).mono fun _ _ ⟨c, t, e1, e2, hc⟩ => ⟨c, t, e1, e2, by cases hc <;> omega⟩
end
section
-- normal
theorem c_drl {la na} {v m wd : Int} {tm tw : Tok} {vs} (hv : Nat2 (2 ^ wd.toNat) v vs) (hm : 0 < m) (hm' : m < 32) (hw : 5 ≤ wd) (hw' : wd ≤ 9) :
    Meets w mean mg mb 4 105 [.ref la, .int m tm, .int wd tw] [(la, listOf vs.toArray na)] (NewLI (fun q r => Nat2 (2 ^ wd.toNat) (v / m) q ∧ r = v % m)) := by
  cases hv
  all_goals (
    w_top off; (k_dflt (refine' meets_of (binds := [(Str.ofString "a", .ref la), (Str.ofString "limb", .int m tm), (Str.ofString "w", .int wd tw)]) ?ho ?hcd ?hb ?hl ?h1 ?h2 ?h3 ?h4 ?h5 ?_; (case ho => k_is); (case hcd => k_is); (case hb => exact fun _ => BindsTo.of_eq rfl); (case hl => exact locs rfl); (case h1 => exact rfl); (case h2 => exact rfl); (case h3 => exact rfl); (case h4 => decide); (case h5 => decide)); intro dp un gd outer base g L' h₁ s Er F N B X T hdp hun; (try dsimp only [List.reverse_cons, List.reverse_nil, List.nil_append, List.cons_append] at F); (try dsimp only); (try k_fold))
    (repeat' (first | (k_here; (with_reducible show wpAny _ _ (call (Value.ref 70) [Value.ref _]) _ _ _); k_dflt ((first | refine' Meets.useL (by k_asm) (by k_asm) (by k_asm) (by k_asm) (by k_asm) (by exact rfl) (by exact rfl) (by tb_start) (by ktr_room) (by ktr_units) (c_norm2) ?_ | refine' Meets.useL (by k_asm) (by k_asm) (by k_asm) (by k_asm) (by k_asm) (by exact rfl) (by exact rfl) (by tb_start) (by ktr_room) (by ktr_units) (c_norm1) ?_ | refine' Meets.useL (by k_asm) (by k_asm) (by k_asm) (by k_asm) (by k_asm) (by exact rfl) (by exact rfl) (by tb_start) (by ktr_room) (by ktr_units) (c_norm0) ?_); (intro l9 n9 vs9 h9 tk9 hv9 F9 N9 hne9; (try dsimp only at hv9); (first | (subst hv9; skip) | cases hv9); all_goals ((try k_sweep); (try dsimp only); (try k_fold))))) | (k_unfold; (try dsimp only)) | (k_end; wrow_close) | walk1 | (dsimp only; walk1) | (leave1; (try dsimp only)) | fail "no step")))
  all_goals ktr_unf
  all_goals (first | (exfalso; omega) | (ktr_rel; kwd_inv))
  all_goals (first
    | exact q_zero0 (by assumption)
    | exact q_one hm (by assumption) (by assumption) (by assumption)
    | exact q_zero hm (by assumption) (by assumption) (by assumption)
    | exact p_two hm (by assumption) (by assumption) (by assumption) (by assumption) (by assumption) (by assumption)
    | exact p_one hm (by assumption) (by assumption) (by assumption) (by assumption) (by assumption) (by assumption) (by assumption)
    | exact p_zero hm (by assumption) (by assumption) (by assumption) (by assumption) (by assumption) (by assumption) (by assumption))
end
section
local macro_rules | `(tactic| walk_at "none of these") => `(tactic| fail)
-- divrem_limb
theorem c_drsm {la lb na nb} {v m wd : Int} {tm tw : Tok} {vs} (hv : Nat2 (2 ^ wd.toNat) v vs) (hm : 0 < m) (hm' : m < 32) (hw : 5 ≤ wd) (hw' : wd ≤ 9) :
    Meets w mean mg mb 6 217 [.ref la, .ref lb, .int wd tw] [(la, listOf vs.toArray na), (lb, listOf [.int m tm].toArray nb)] (NewLL (fun q r => Nat2 (2 ^ wd.toNat) (v / m) q ∧ Lim (v % m) r)) := by
  w_top off; (k_dflt (refine' meets_of (binds := [(Str.ofString "a", .ref la), (Str.ofString "b", .ref lb), (Str.ofString "w", .int wd tw)]) ?ho ?hcd ?hb ?hl ?h1 ?h2 ?h3 ?h4 ?h5 ?_; (case ho => k_is); (case hcd => k_is); (case hb => exact fun _ => BindsTo.of_eq rfl); (case hl => exact locs rfl); (case h1 => exact rfl); (case h2 => exact rfl); (case h3 => exact rfl); (case h4 => decide); (case h5 => decide)); intro dp un gd outer base g L' h₁ s Er F N B X T hdp hun; (try dsimp only [List.reverse_cons, List.reverse_nil, List.nil_append, List.cons_append] at F); (try dsimp only); (try k_fold))
  (repeat' (first | (k_here; (with_reducible show wpAny _ _ (call (Value.ref 105) [Value.ref _, Value.int _ _, Value.int _ _]) _ _ _); k_dflt ((first | refine' Meets.useLI (by k_asm) (by k_asm) (by k_asm) (by k_asm) (by k_asm) (by exact rfl) (by exact rfl) (by tb_start) (by ktr_room) (by ktr_units) (c_drl (by ktn_open) (by kwd_less) (by kwd_less) (by assumption) (by assumption)) ?_); (intro a9 l9 n9 vs9 c9 t9 h9 tk9 hv9 F9 N9 hne9 hnf9; (try dsimp only at hv9); (obtain ⟨hq9, hr9⟩ := hv9; subst hr9); all_goals ((try k_sweep); (try dsimp only); (try k_fold))))) | (k_unfold; (try dsimp only)) | (k_end; wrow_close) | walk1 | (dsimp only; walk1) | (leave1; (try dsimp only)) | fail "no step"))
  all_goals ktr_unf
  all_goals (ktr_rel; (refine ⟨by assumption, ?_⟩); kwd_inv)
  all_goals (
    have h1 := Int.emod_nonneg v (Int.ne_of_gt hm)
    have h2 := Int.emod_lt_of_pos v hm
    first | exact .one _ (by omega) (by omega) | exact .zero (by omega))
-- compare, divrem_small
theorem c_drs {la lb na nb} {v m wd : Int} {tm tw : Tok} {vs} (hv : Nat2 (2 ^ wd.toNat) v vs) (hm : 0 < m) (hm' : m < 32) (hw : 5 ≤ wd) (hw' : wd ≤ 9) :
    Meets w mean mg mb 8 252 [.ref la, .ref lb, .int wd tw] [(la, listOf vs.toArray na), (lb, listOf [.int m tm].toArray nb)] (NewLL (fun q r => Nat2 (2 ^ wd.toNat) (v / m) q ∧ Lim (v % m) r)) := by
  cases hv
  all_goals subst_vars
  all_goals (
    w_top off; (k_dflt (refine' meets_of (binds := [(Str.ofString "a", .ref la), (Str.ofString "b", .ref lb), (Str.ofString "w", .int wd tw)]) ?ho ?hcd ?hb ?hl ?h1 ?h2 ?h3 ?h4 ?h5 ?_; (case ho => k_is); (case hcd => k_is); (case hb => exact fun _ => BindsTo.of_eq rfl); (case hl => exact locs rfl); (case h1 => exact rfl); (case h2 => exact rfl); (case h3 => exact rfl); (case h4 => decide); (case h5 => decide)); intro dp un gd outer base g L' h₁ s Er F N B X T hdp hun; (try dsimp only [List.reverse_cons, List.reverse_nil, List.nil_append, List.cons_append] at F); (try dsimp only); (try k_fold))
    (repeat' (first | (k_here; (with_reducible show wpAny _ _ (call (Value.ref 217) [Value.ref _, Value.ref _, Value.int _ _]) _ _ _); k_dflt ((first | refine' Meets.useLL (by k_asm) (by k_asm) (by k_asm) (by k_asm) (by k_asm) (by exact rfl) (by exact rfl) (by tb_start) (by ktr_room) (by ktr_units) (c_drsm (by ktn_open) (by omega) (by omega) (by assumption) (by assumption)) ?_); (intro a9 l9 n9 vs9 k9 o9 ws9 h9 tk9 hv9 F9 N9 hne9 hnf9 hng9; (try dsimp only at hv9); (obtain ⟨hq9, hr9⟩ := hv9); all_goals ((try k_sweep); (try dsimp only); (try k_fold))))) | (k_here; (with_reducible show wpAny _ _ (call (Value.ref 77) [Value.ref _, Value.ref _]) _ _ _); k_dflt ((first | refine' Meets.useI (by k_asm) (by k_asm) (by k_asm) (by k_asm) (by k_asm) (by exact rfl) (by exact rfl) (by tb_start) (by ktr_room) (by ktr_units) (c_cmp (by ktn_open) (by ktn_open)) ?_ | refine' Meets.useI (by k_asm) (by k_asm) (by k_asm) (by k_asm) (by k_asm) (by exact rfl) (by exact rfl) (by tb_start) (by ktr_room) (by ktr_units) (c_cmp2) ?_); (intro c9 t9 h9 tk9 hv9 F9 N9; (try dsimp only at hv9); (first | (subst hv9; skip) | cases hv9); all_goals ((try k_sweep); (try dsimp only); (try k_fold))))) | (k_here; (with_reducible show wpAny _ _ (call (Value.ref 105) [Value.ref _, Value.int _ _, Value.int _ _]) _ _ _); k_dflt ((first | refine' Meets.useLI (by k_asm) (by k_asm) (by k_asm) (by k_asm) (by k_asm) (by exact rfl) (by exact rfl) (by tb_start) (by ktr_room) (by ktr_units) (c_drl (by ktn_open) (by kwd_less) (by kwd_less) (by assumption) (by assumption)) ?_); (intro a9 l9 n9 vs9 c9 t9 h9 tk9 hv9 F9 N9 hne9 hnf9; (try dsimp only at hv9); (obtain ⟨hq9, hr9⟩ := hv9; subst hr9); all_goals ((try k_sweep); (try dsimp only); (try k_fold))))) | (k_unfold; (try dsimp only)) | (k_end; wrow_close) | walk1 | (dsimp only; walk1) | (leave1; (try dsimp only)) | fail "no step")))
  all_goals ktr_unf
  all_goals (first | (exfalso; omega) | (ktr_rel; first | exact ⟨by assumption, by assumption⟩ | (kwd_inv; refine ⟨.zero ?_, ?_⟩)))
  · simp
  · exact .zero (by simp)
  · rename 0 < v => h0; rename v < m => h1; exact Int.ediv_eq_zero_of_lt (Int.le_of_lt h0) h1
  · rename 0 < v => h0; rename v < m => h1; rw [Int.emod_eq_of_lt (Int.le_of_lt h0) h1]; exact .one _ h0 (by omega)
end
section
theorem c_add {la lb na nb} {x y wd : Int} {tw : Tok} {vx vy} (hvx : Lim x vx) (hvy : Lim y vy) (hxy : x + y < 32) (hw : 5 ≤ wd) (hw' : wd ≤ 9) :
    Meets w mean mg mb 4 84 [.ref la, .ref lb, .int wd tw] [(la, listOf vx.toArray na), (lb, listOf vy.toArray nb)] (NewL (Lim (x + y))) := by
  cases hvx <;> cases hvy
  all_goals subst_vars
  all_goals (
    w_top off; (k_dflt (refine' meets_of (binds := [(Str.ofString "a", .ref la), (Str.ofString "b", .ref lb), (Str.ofString "w", .int wd tw)]) ?ho ?hcd ?hb ?hl ?h1 ?h2 ?h3 ?h4 ?h5 ?_; (case ho => k_is); (case hcd => k_is); (case hb => exact fun _ => BindsTo.of_eq rfl); (case hl => exact locs rfl); (case h1 => exact rfl); (case h2 => exact rfl); (case h3 => exact rfl); (case h4 => decide); (case h5 => decide)); intro dp un gd outer base g L' h₁ s Er F N B X T hdp hun; (try dsimp only [List.reverse_cons, List.reverse_nil, List.nil_append, List.cons_append] at F); (try dsimp only); (try k_fold))
    (repeat' (first | (k_unfold; (try dsimp only)) | (k_end; wrow_close) | walk1 | (dsimp only; walk1) | (leave1; (try dsimp only)) | fail "no step")))
  all_goals ktr_unf
  all_goals (first | (exfalso; omega) | (ktr_rel; kwd_inv))
  all_goals (
    have hp := (pw hw hw').1
    first
    | exact .zero rfl
    | (obtain ⟨e1, e2⟩ := small_cut (v := y) (k := wd.toNat) (by omega) (by omega); first | (exfalso; omega) | exact lim_eq (by omega) (by omega) (by omega))
    | (obtain ⟨e1, e2⟩ := small_cut (v := x) (k := wd.toNat) (by omega) (by omega); first | (exfalso; omega) | exact lim_eq (by omega) (by omega) (by omega))
    | (obtain ⟨e1, e2⟩ := small_cut (v := x + y) (k := wd.toNat) (by omega) (by omega); first | (exfalso; omega) | exact lim_eq (by omega) (by omega) (by omega)))
theorem c_addl {la na} {x y wd : Int} {tw ty : Tok} {vx} (hvx : Lim x vx) (hy : 0 < y) (hxy : x + y < 32) (hw : 5 ≤ wd) (hw' : wd ≤ 9) :
    Meets w mean mg mb 4 98 [.ref la, .int y ty, .int wd tw] [(la, listOf vx.toArray na)] (NewL (Lim (x + y))) := by
  cases hvx
  all_goals subst_vars
  all_goals (
    w_top off; (k_dflt (refine' meets_of (binds := [(Str.ofString "a", .ref la), (Str.ofString "limb", .int y ty), (Str.ofString "w", .int wd tw)]) ?ho ?hcd ?hb ?hl ?h1 ?h2 ?h3 ?h4 ?h5 ?_; (case ho => k_is); (case hcd => k_is); (case hb => exact fun _ => BindsTo.of_eq rfl); (case hl => exact locs rfl); (case h1 => exact rfl); (case h2 => exact rfl); (case h3 => exact rfl); (case h4 => decide); (case h5 => decide)); intro dp un gd outer base g L' h₁ s Er F N B X T hdp hun; (try dsimp only [List.reverse_cons, List.reverse_nil, List.nil_append, List.cons_append] at F); (try dsimp only); (try k_fold))
    (repeat' (first | (k_unfold; (try dsimp only)) | (k_end; wrow_close) | walk1 | (dsimp only; walk1) | (leave1; (try dsimp only)) | fail "no step")))
  all_goals ktr_unf
  all_goals (first | (exfalso; omega) | (ktr_rel; kwd_inv))
  all_goals (
    have hp := (pw hw hw').1
    first
    | exact lim_eq (by omega) (by omega) (by omega)
    | (obtain ⟨e1, e2⟩ := small_cut (v := y + x) (k := wd.toNat) (by omega) (by omega); first | (exfalso; omega) | exact lim_eq (by omega) (by omega) (by omega)))
end
section
local macro_rules | `(tactic| walk_at "none of these") => `(tactic| fail)
-- normal, compare
theorem c_sub {la lb na nb} {x y wd : Int} {tw : Tok} {vx vy} (hvx : Lim x vx) (hvy : Lim y vy) (hxy : y ≤ x) (hw : 5 ≤ wd) (hw' : wd ≤ 9) :
    Meets w mean mg mb 4 91 [.ref la, .ref lb, .int wd tw] [(la, listOf vx.toArray na), (lb, listOf vy.toArray nb)] (NewL (Lim (x - y))) := by
  cases hvx <;> cases hvy
  all_goals subst_vars
  all_goals (try (exfalso; omega))
  all_goals (
    w_top off; (k_dflt (refine' meets_of (binds := [(Str.ofString "a", .ref la), (Str.ofString "b", .ref lb), (Str.ofString "w", .int wd tw)]) ?ho ?hcd ?hb ?hl ?h1 ?h2 ?h3 ?h4 ?h5 ?_; (case ho => k_is); (case hcd => k_is); (case hb => exact fun _ => BindsTo.of_eq rfl); (case hl => exact locs rfl); (case h1 => exact rfl); (case h2 => exact rfl); (case h3 => exact rfl); (case h4 => decide); (case h5 => decide)); intro dp un gd outer base g L' h₁ s Er F N B X T hdp hun; (try dsimp only [List.reverse_cons, List.reverse_nil, List.nil_append, List.cons_append] at F); (try dsimp only); (try k_fold))
    (repeat' (first | (k_here; (with_reducible show wpAny _ _ (call (Value.ref 77) [Value.ref _, Value.ref _]) _ _ _); k_dflt ((first | refine' Meets.useI (by k_asm) (by k_asm) (by k_asm) (by k_asm) (by k_asm) (by exact rfl) (by exact rfl) (by tb_start) (by ktr_room) (by ktr_units) ((c_cmpge (by ktn_open) (by ktn_open) (by omega))) ?_); (intro c9 t9 h9 tk9 hv9 F9 N9; (try dsimp only at hv9); skip; all_goals ((try k_sweep); (try dsimp only); (try k_fold))))) | (k_here; (with_reducible show wpAny _ _ (call (Value.ref 70) [Value.ref _]) _ _ _); k_dflt ((first | refine' Meets.useL (by k_asm) (by k_asm) (by k_asm) (by k_asm) (by k_asm) (by exact rfl) (by exact rfl) (by tb_start) (by ktr_room) (by ktr_units) (c_norm2) ?_ | refine' Meets.useL (by k_asm) (by k_asm) (by k_asm) (by k_asm) (by k_asm) (by exact rfl) (by exact rfl) (by tb_start) (by ktr_room) (by ktr_units) (c_norm1) ?_ | refine' Meets.useL (by k_asm) (by k_asm) (by k_asm) (by k_asm) (by k_asm) (by exact rfl) (by exact rfl) (by tb_start) (by ktr_room) (by ktr_units) (c_norm0) ?_); (intro l9 n9 vs9 h9 tk9 hv9 F9 N9 hne9; (try dsimp only at hv9); (first | (subst hv9; skip) | cases hv9); all_goals ((try k_sweep); (try dsimp only); (try k_fold))))) | (k_unfold; (try dsimp only)) | (k_end; wrow_close) | walk1 | (dsimp only; walk1) | (leave1; (try dsimp only)) | fail "no step")))
  all_goals ktr_unf
  all_goals (first | (exfalso; omega) | (ktr_rel; kwd_inv))
  all_goals (
    have hp := (pw hw hw').1
    first | exact .zero (by omega) | (exfalso; omega) | exact lim_eq (by omega) (by omega) (by omega))
end
section
theorem c_signed {b : Bool} {l n} {x : Int} {vs} (hv : Lim x vs) :
    Meets w mean mg mb 2 133 [.bool b, .ref l] [(l, listOf vs.toArray n)] (NewB l fun c => c = (b && decide (x ≠ 0))) := by
  cases hv
  all_goals subst_vars
  all_goals (
    w_top off; (k_dflt (refine' meets_of (binds := [(Str.ofString "is_below", .bool b), (Str.ofString "nat", .ref l)]) ?ho ?hcd ?hb ?hl ?h1 ?h2 ?h3 ?h4 ?h5 ?_; (case ho => k_is); (case hcd => k_is); (case hb => exact fun _ => BindsTo.of_eq rfl); (case hl => exact locs rfl); (case h1 => exact rfl); (case h2 => exact rfl); (case h3 => exact rfl); (case h4 => decide); (case h5 => decide)); intro dp un gd outer base g L' h₁ s Er F N B X T hdp hun; (try dsimp only [List.reverse_cons, List.reverse_nil, List.nil_append, List.cons_append] at F); (try dsimp only); (try k_fold))
    (repeat' (first | (k_unfold; (try dsimp only)) | (k_end; wrow_close) | walk1 | (dsimp only; walk1) | (leave1; (try dsimp only)) | fail "no step")))
  all_goals ktr_unf
  all_goals (first | (exfalso; omega) | (ktr_rel; kwd_inv))
  all_goals (subst_vars; first | rfl | (simp; omega))
theorem c_signedF {l n} {x : Int} {vs} (hv : Lim x vs) :
    Meets w mean mg mb 2 133 [.bool false, .ref l] [(l, listOf vs.toArray n)] (NewB l fun c => Sg x c vs) :=
  (c_signed hv).mono fun _ _ ⟨a, b, e1, e2, h⟩ => ⟨a, b, e1, e2, Sg.of_f h hv⟩
end
section
local macro_rules | `(tactic| walk_at "none of these") => `(tactic| fail)
theorem c_mulS {la lb na nb} {x y wd : Int} {tw : Tok} {vx vy} (hvx : Lim x vx) (hvy : Lim y vy) (h : x * y < 32) (hw : 5 ≤ wd) (hw' : wd ≤ 9) :
    Meets w mean mg mb 4 210 [.ref la, .ref lb, .int wd tw] [(la, listOf vx.toArray na), (lb, listOf vy.toArray nb)] (NewL (Lim (x * y))) :=
  (c_mul hvx hvy hw hw').mono fun _ _ ⟨l, n, vs, e1, e2, hn⟩ => ⟨l, n, vs, e1, e2, hn.lim (pw hw hw').1 h⟩
theorem c_sneg {a l n} {z : Int} {b vs} (hz : Sg z b vs) :
    Meets w mean mg mb 4 140 [.ref a] [(a, tupOf [.bool b, .ref l]), (l, listOf vs.toArray n)] (NewB l fun c => c = decide (-z < 0)) := by
  obtain ⟨hb, hv⟩ := hz
  w_top off; (k_dflt (refine' meets_of (binds := [(Str.ofString "x", .ref a)]) ?ho ?hcd ?hb ?hl ?h1 ?h2 ?h3 ?h4 ?h5 ?_; (case ho => k_is); (case hcd => k_is); (case hb => exact fun _ => BindsTo.of_eq rfl); (case hl => exact locs rfl); (case h1 => exact rfl); (case h2 => exact rfl); (case h3 => exact rfl); (case h4 => decide); (case h5 => decide)); intro dp un gd outer base g L' h₁ s Er F N B X T hdp hun; (try dsimp only [List.reverse_cons, List.reverse_nil, List.nil_append, List.cons_append] at F); (try dsimp only); (try k_fold))
  (repeat' (first | (k_here; (with_reducible show wpAny _ _ (call (Value.ref 133) [Value.bool _, Value.ref _]) _ _ _); k_dflt ((first | refine' Meets.useB (by k_asm) (by k_asm) (by k_asm) (by k_asm) (by k_asm) (by exact rfl) (by exact rfl) (by tb_start) (by ktr_room) (by ktr_units) (c_signed (by ktn_open)) ?_); (intro a9 b9 h9 tk9 hv9 F9 N9 hne9; (try dsimp only at hv9); (skip); all_goals ((try k_sweep); (try dsimp only); (try k_fold))))) | (k_unfold; (try dsimp only)) | (k_end; wrow_close) | walk1 | (dsimp only; walk1) | (leave1; (try dsimp only)) | fail "no step"))
  all_goals ktr_unf
  ktr_rel
  exact neg_sign hb (by assumption)
theorem c_sadd {a l n a' l' n'} {z z' wd : Int} {tw : Tok} {b vs b' vs'} (hz : Sg z b vs) (hz' : Sg z' b' vs') (h : -32 < z + z') (h' : z + z' < 32) (hw : 5 ≤ wd) (hw' : wd ≤ 9) :
    Meets w mean mg mb 6 154 [.ref a, .ref a', .int wd tw] [(a, tupOf [.bool b, .ref l]), (l, listOf vs.toArray n), (a', tupOf [.bool b', .ref l']), (l', listOf vs'.toArray n')] (NewBL (Sg (z + z'))) := by
  obtain ⟨hb, hv⟩ := hz
  obtain ⟨hb', hv'⟩ := hz'
  by_cases c : z < 0 <;> by_cases c' : z' < 0 <;> simp only [c, c', decide_true, decide_false] at hb hb' <;> subst hb hb'
  all_goals (
    w_top off; (k_dflt (refine' meets_of (binds := [(Str.ofString "x", .ref a), (Str.ofString "y", .ref a'), (Str.ofString "w", .int wd tw)]) ?ho ?hcd ?hb ?hl ?h1 ?h2 ?h3 ?h4 ?h5 ?_; (case ho => k_is); (case hcd => k_is); (case hb => exact fun _ => BindsTo.of_eq rfl); (case hl => exact locs rfl); (case h1 => exact rfl); (case h2 => exact rfl); (case h3 => exact rfl); (case h4 => decide); (case h5 => decide)); intro dp un gd outer base g L' h₁ s Er F N B X T hdp hun; (try dsimp only [List.reverse_cons, List.reverse_nil, List.nil_append, List.cons_append] at F); (try dsimp only); (try k_fold))
    (repeat' (first | (k_here; (with_reducible show wpAny _ _ (call (Value.ref 77) [Value.ref _, Value.ref _]) _ _ _); k_dflt ((first | refine' Meets.useI (by k_asm) (by k_asm) (by k_asm) (by k_asm) (by k_asm) (by exact rfl) (by exact rfl) (by tb_start) (by ktr_room) (by ktr_units) (c_cmp (by ktn_open) (by ktn_open)) ?_); (intro c9 t9 h9 tk9 hv9 F9 N9; (try dsimp only at hv9); (cases hv9); all_goals ((try k_sweep); (try dsimp only); (try k_fold))))) | (k_here; (with_reducible show wpAny _ _ (call (Value.ref 91) [Value.ref _, Value.ref _, Value.int _ _]) _ _ _); k_dflt ((first | refine' Meets.useL (by k_asm) (by k_asm) (by k_asm) (by k_asm) (by k_asm) (by exact rfl) (by exact rfl) (by tb_start) (by ktr_room) (by ktr_units) (c_sub (by ktn_open) (by ktn_open) (by kwd_less) (by assumption) (by assumption)) ?_); (intro l9 n9 vs9 h9 tk9 hv9 F9 N9 hne9; (try dsimp only at hv9); (skip); all_goals ((try k_sweep); (try dsimp only); (try k_fold))))) | (k_here; (with_reducible show wpAny _ _ (call (Value.ref 84) [Value.ref _, Value.ref _, Value.int _ _]) _ _ _); k_dflt ((first | refine' Meets.useL (by k_asm) (by k_asm) (by k_asm) (by k_asm) (by k_asm) (by exact rfl) (by exact rfl) (by tb_start) (by ktr_room) (by ktr_units) (c_add (by ktn_open) (by ktn_open) (by kwd_less) (by assumption) (by assumption)) ?_); (intro l9 n9 vs9 h9 tk9 hv9 F9 N9 hne9; (try dsimp only at hv9); (skip); all_goals ((try k_sweep); (try dsimp only); (try k_fold))))) | (k_here; (with_reducible show wpAny _ _ (call (Value.ref 133) [Value.bool _, Value.ref _]) _ _ _); k_dflt ((first | refine' Meets.useB (by k_asm) (by k_asm) (by k_asm) (by k_asm) (by k_asm) (by exact rfl) (by exact rfl) (by tb_start) (by ktr_room) (by ktr_units) (c_signed (by ktn_open)) ?_); (intro a9 b9 h9 tk9 hv9 F9 N9 hne9; (try dsimp only at hv9); (skip); all_goals ((try k_sweep); (try dsimp only); (try k_fold))))) | (k_unfold; (try dsimp only)) | (k_end; wrow_close) | walk1 | (dsimp only; walk1) | (leave1; (try dsimp only)) | fail "no step")))
  all_goals ktr_unf
  all_goals (first
    | (exfalso; omega)
    | (ktr_rel; first | exact sg_t (by assumption) (by assumption) (by omega) (by omega) | exact sg_f (by assumption) (by assumption) (by omega) (by omega)))
theorem c_ssub {a l n a' l' n'} {z z' wd : Int} {tw : Tok} {b vs b' vs'} (hz : Sg z b vs) (hz' : Sg z' b' vs') (h : -32 < z - z') (h' : z - z' < 32) (hw : 5 ≤ wd) (hw' : wd ≤ 9) :
    Meets w mean mg mb 8 161 [.ref a, .ref a', .int wd tw] [(a, tupOf [.bool b, .ref l]), (l, listOf vs.toArray n), (a', tupOf [.bool b', .ref l']), (l', listOf vs'.toArray n')] (NewBL (Sg (z - z'))) := by
  w_top off; (k_dflt (refine' meets_of (binds := [(Str.ofString "x", .ref a), (Str.ofString "y", .ref a'), (Str.ofString "w", .int wd tw)]) ?ho ?hcd ?hb ?hl ?h1 ?h2 ?h3 ?h4 ?h5 ?_; (case ho => k_is); (case hcd => k_is); (case hb => exact fun _ => BindsTo.of_eq rfl); (case hl => exact locs rfl); (case h1 => exact rfl); (case h2 => exact rfl); (case h3 => exact rfl); (case h4 => decide); (case h5 => decide)); intro dp un gd outer base g L' h₁ s Er F N B X T hdp hun; (try dsimp only [List.reverse_cons, List.reverse_nil, List.nil_append, List.cons_append] at F); (try dsimp only); (try k_fold))
  (repeat' (first | (k_here; (with_reducible show wpAny _ _ (call (Value.ref 154) [Value.ref _, Value.ref _, Value.int _ _]) _ _ _); k_dflt ((first | refine' Meets.useBL (by k_asm) (by k_asm) (by k_asm) (by k_asm) (by k_asm) (by exact rfl) (by exact rfl) (by tb_start) (by ktr_room) (by ktr_units) (c_sadd (by assumption) (by (first | assumption | exact Sg.neg (by assumption) (by assumption))) (by omega) (by omega) (by assumption) (by assumption)) ?_); (intro a9 b9 l9 n9 vs9 h9 tk9 hv9 F9 N9 hne9 hnf9; (try dsimp only at hv9); (skip); all_goals ((try k_sweep); (try dsimp only); (try k_fold))))) | (k_here; (with_reducible show wpAny _ _ (call (Value.ref 140) [Value.ref _]) _ _ _); k_dflt ((first | refine' Meets.useB (by k_asm) (by k_asm) (by k_asm) (by k_asm) (by k_asm) (by exact rfl) (by exact rfl) (by tb_start) (by ktr_room) (by ktr_units) (c_sneg (by assumption)) ?_); (intro a9 b9 h9 tk9 hv9 F9 N9 hne9; (try dsimp only at hv9); (skip); all_goals ((try k_sweep); (try dsimp only); (try k_fold))))) | (k_here; (with_reducible show wpAny _ _ (call (Value.ref 77) [Value.ref _, Value.ref _]) _ _ _); k_dflt ((first | refine' Meets.useI (by k_asm) (by k_asm) (by k_asm) (by k_asm) (by k_asm) (by exact rfl) (by exact rfl) (by tb_start) (by ktr_room) (by ktr_units) (c_cmp (by ktn_open) (by ktn_open)) ?_); (intro c9 t9 h9 tk9 hv9 F9 N9; (try dsimp only at hv9); (cases hv9); all_goals ((try k_sweep); (try dsimp only); (try k_fold))))) | (k_here; (with_reducible show wpAny _ _ (call (Value.ref 91) [Value.ref _, Value.ref _, Value.int _ _]) _ _ _); k_dflt ((first | refine' Meets.useL (by k_asm) (by k_asm) (by k_asm) (by k_asm) (by k_asm) (by exact rfl) (by exact rfl) (by tb_start) (by ktr_room) (by ktr_units) (c_sub (by ktn_open) (by ktn_open) (by kwd_less) (by assumption) (by assumption)) ?_); (intro l9 n9 vs9 h9 tk9 hv9 F9 N9 hne9; (try dsimp only at hv9); (skip); all_goals ((try k_sweep); (try dsimp only); (try k_fold))))) | (k_here; (with_reducible show wpAny _ _ (call (Value.ref 84) [Value.ref _, Value.ref _, Value.int _ _]) _ _ _); k_dflt ((first | refine' Meets.useL (by k_asm) (by k_asm) (by k_asm) (by k_asm) (by k_asm) (by exact rfl) (by exact rfl) (by tb_start) (by ktr_room) (by ktr_units) (c_add (by ktn_open) (by ktn_open) (by kwd_less) (by assumption) (by assumption)) ?_); (intro l9 n9 vs9 h9 tk9 hv9 F9 N9 hne9; (try dsimp only at hv9); (skip); all_goals ((try k_sweep); (try dsimp only); (try k_fold))))) | (k_here; (with_reducible show wpAny _ _ (call (Value.ref 133) [Value.bool _, Value.ref _]) _ _ _); k_dflt ((first | refine' Meets.useB (by k_asm) (by k_asm) (by k_asm) (by k_asm) (by k_asm) (by exact rfl) (by exact rfl) (by tb_start) (by ktr_room) (by ktr_units) (c_signed (by ktn_open)) ?_); (intro a9 b9 h9 tk9 hv9 F9 N9 hne9; (try dsimp only at hv9); (skip); all_goals ((try k_sweep); (try dsimp only); (try k_fold))))) | (k_unfold; (try dsimp only)) | (k_end; wrow_close) | walk1 | (dsimp only; walk1) | (leave1; (try dsimp only)) | fail "no step"))
  all_goals ktr_unf
  all_goals (ktr_rel; rw [Int.sub_eq_add_neg]; assumption)
theorem c_smul {a l n a' l' n'} {z z' wd : Int} {tw : Tok} {b vs b' vs'} (hz : Sg z b vs) (hz' : Sg z' b' vs') (h0 : 0 ≤ z) (h : (z.natAbs : Int) * z'.natAbs < 32) (hw : 5 ≤ wd) (hw' : wd ≤ 9) :
    Meets w mean mg mb 8 168 [.ref a, .ref a', .int wd tw, .ref 210] [(a, tupOf [.bool b, .ref l]), (l, listOf vs.toArray n), (a', tupOf [.bool b', .ref l']), (l', listOf vs'.toArray n')] (NewBL (Sg (z * z'))) := by
  obtain ⟨hb, hv⟩ := hz
  obtain ⟨hb', hv'⟩ := hz'
  by_cases c : z < 0 <;> by_cases c' : z' < 0 <;> simp only [c, c', decide_true, decide_false] at hb hb' <;> subst hb hb'
  all_goals try (exfalso; omega)
  all_goals (
    w_top off; (k_dflt (refine' meets_of (binds := [(Str.ofString "x", .ref a), (Str.ofString "y", .ref a'), (Str.ofString "w", .int wd tw), (Str.ofString "mul", .ref 210)]) ?ho ?hcd ?hb ?hl ?h1 ?h2 ?h3 ?h4 ?h5 ?_; (case ho => k_is); (case hcd => k_is); (case hb => exact fun _ => BindsTo.of_eq rfl); (case hl => exact locs rfl); (case h1 => exact rfl); (case h2 => exact rfl); (case h3 => exact rfl); (case h4 => decide); (case h5 => decide)); intro dp un gd outer base g L' h₁ s Er F N B X T hdp hun; (try dsimp only [List.reverse_cons, List.reverse_nil, List.nil_append, List.cons_append] at F); (try dsimp only); (try k_fold))
    (repeat' (first | (k_here; (with_reducible show wpAny _ _ (call (Value.ref 210) [Value.ref _, Value.ref _, Value.int _ _]) _ _ _); k_dflt ((first | refine' Meets.useL (by k_asm) (by k_asm) (by k_asm) (by k_asm) (by k_asm) (by exact rfl) (by exact rfl) (by tb_start) (by ktr_room) (by ktr_units) (c_mulS (by assumption) (by assumption) (by assumption) (by assumption) (by assumption)) ?_); (intro l9 n9 vs9 h9 tk9 hv9 F9 N9 hne9; (try dsimp only at hv9); (skip); all_goals ((try k_sweep); (try dsimp only); (try k_fold))))) | (k_here; (with_reducible show wpAny _ _ (call (Value.ref 154) [Value.ref _, Value.ref _, Value.int _ _]) _ _ _); k_dflt ((first | refine' Meets.useBL (by k_asm) (by k_asm) (by k_asm) (by k_asm) (by k_asm) (by exact rfl) (by exact rfl) (by tb_start) (by ktr_room) (by ktr_units) (c_sadd (by assumption) (by (first | assumption | exact Sg.neg (by assumption) (by assumption))) (by omega) (by omega) (by assumption) (by assumption)) ?_); (intro a9 b9 l9 n9 vs9 h9 tk9 hv9 F9 N9 hne9 hnf9; (try dsimp only at hv9); (skip); all_goals ((try k_sweep); (try dsimp only); (try k_fold))))) | (k_here; (with_reducible show wpAny _ _ (call (Value.ref 140) [Value.ref _]) _ _ _); k_dflt ((first | refine' Meets.useB (by k_asm) (by k_asm) (by k_asm) (by k_asm) (by k_asm) (by exact rfl) (by exact rfl) (by tb_start) (by ktr_room) (by ktr_units) (c_sneg (by assumption)) ?_); (intro a9 b9 h9 tk9 hv9 F9 N9 hne9; (try dsimp only at hv9); (skip); all_goals ((try k_sweep); (try dsimp only); (try k_fold))))) | (k_here; (with_reducible show wpAny _ _ (call (Value.ref 77) [Value.ref _, Value.ref _]) _ _ _); k_dflt ((first | refine' Meets.useI (by k_asm) (by k_asm) (by k_asm) (by k_asm) (by k_asm) (by exact rfl) (by exact rfl) (by tb_start) (by ktr_room) (by ktr_units) (c_cmp (by ktn_open) (by ktn_open)) ?_); (intro c9 t9 h9 tk9 hv9 F9 N9; (try dsimp only at hv9); (cases hv9); all_goals ((try k_sweep); (try dsimp only); (try k_fold))))) | (k_here; (with_reducible show wpAny _ _ (call (Value.ref 91) [Value.ref _, Value.ref _, Value.int _ _]) _ _ _); k_dflt ((first | refine' Meets.useL (by k_asm) (by k_asm) (by k_asm) (by k_asm) (by k_asm) (by exact rfl) (by exact rfl) (by tb_start) (by ktr_room) (by ktr_units) (c_sub (by ktn_open) (by ktn_open) (by kwd_less) (by assumption) (by assumption)) ?_); (intro l9 n9 vs9 h9 tk9 hv9 F9 N9 hne9; (try dsimp only at hv9); (skip); all_goals ((try k_sweep); (try dsimp only); (try k_fold))))) | (k_here; (with_reducible show wpAny _ _ (call (Value.ref 84) [Value.ref _, Value.ref _, Value.int _ _]) _ _ _); k_dflt ((first | refine' Meets.useL (by k_asm) (by k_asm) (by k_asm) (by k_asm) (by k_asm) (by exact rfl) (by exact rfl) (by tb_start) (by ktr_room) (by ktr_units) (c_add (by ktn_open) (by ktn_open) (by kwd_less) (by assumption) (by assumption)) ?_); (intro l9 n9 vs9 h9 tk9 hv9 F9 N9 hne9; (try dsimp only at hv9); (skip); all_goals ((try k_sweep); (try dsimp only); (try k_fold))))) | (k_here; (with_reducible show wpAny _ _ (call (Value.ref 133) [Value.bool _, Value.ref _]) _ _ _); k_dflt ((first | refine' Meets.useB (by k_asm) (by k_asm) (by k_asm) (by k_asm) (by k_asm) (by exact rfl) (by exact rfl) (by tb_start) (by ktr_room) (by ktr_units) (c_signed (by ktn_open)) ?_); (intro a9 b9 h9 tk9 hv9 F9 N9 hne9; (try dsimp only at hv9); (skip); all_goals ((try k_sweep); (try dsimp only); (try k_fold))))) | (k_unfold; (try dsimp only)) | (k_end; wrow_close) | walk1 | (dsimp only; walk1) | (leave1; (try dsimp only)) | fail "no step")))
  all_goals ktr_unf
  · ktr_rel; exact sg_t (by assumption) (by assumption) (by rw [Int.natAbs_mul, Int.natCast_mul]) (Int.mul_nonpos_of_nonneg_of_nonpos h0 (Int.le_of_lt c'))
  · ktr_rel; exact sg_f (by assumption) (by assumption) (by rw [Int.natAbs_mul, Int.natCast_mul]) (Int.mul_nonneg h0 (by omega))
end
section
local macro_rules | `(tactic| walk_at "none of these") => `(tactic| fail)
local macro_rules | `(tactic| ktr_rel) => `(tactic| (first | ((with_reducible show LeaveA _ _ (NewTT _) _ _ _); (with_unfolding_all refine' leaveA_ [_, _, _, _, _] ?F ?N ⟨_, _, _, _, _, _, _, _, _, _, _, rfl, rfl, ?P⟩ ?S ?O; (case F => k_asm); (case N => k_asm); (case S => tb_start); (case O => kxt_pos))) | ((with_reducible show LeaveA _ _ (NewT2 _) _ _ _); (with_unfolding_all refine' leaveA_ [_, _, _] ?F ?N ⟨_, _, _, _, _, _, _, rfl, rfl, ?P⟩ ?S ?O; (case F => k_asm); (case N => k_asm); (case S => tb_start); (case O => kxt_pos)))))
theorem c_tdiv {a l n a' l' n'} {z m wd : Int} {tw tm : Tok} {b vs} (hz : Sg z b vs) (hm : 3 ≤ m) (hm' : m < 32) (hw : 5 ≤ wd) (hw' : wd ≤ 9) :
    Meets w mean mg mb 10 175 [.ref a, .ref a', .int wd tw, .ref 252] [(a, tupOf [.bool b, .ref l]), (l, listOf vs.toArray n), (a', tupOf [.bool false, .ref l']), (l', listOf [.int m tm].toArray n')] (NewTT (TD z m)) := by
  obtain ⟨hb, hv⟩ := hz
  have hB := (pw hw hw').1
  have hq := td_facts hv hm
  by_cases c : z < 0 <;> simp only [c, decide_true, decide_false] at hb <;> subst hb
  all_goals (
    w_top off; (k_dflt (refine' meets_of (binds := [(Str.ofString "x", .ref a), (Str.ofString "y", .ref a'), (Str.ofString "w", .int wd tw), (Str.ofString "divrem", .ref 252)]) ?ho ?hcd ?hb ?hl ?h1 ?h2 ?h3 ?h4 ?h5 ?_; (case ho => k_is); (case hcd => k_is); (case hb => exact fun _ => BindsTo.of_eq rfl); (case hl => exact locs rfl); (case h1 => exact rfl); (case h2 => exact rfl); (case h3 => exact rfl); (case h4 => decide); (case h5 => decide)); intro dp un gd outer base g L' h₁ s Er F N B X T hdp hun; (try dsimp only [List.reverse_cons, List.reverse_nil, List.nil_append, List.cons_append] at F); (try dsimp only); (try k_fold))
    (repeat' (first | (k_here; (with_reducible show wpAny _ _ (call (Value.ref 252) [Value.ref _, Value.ref _, Value.int _ _]) _ _ _); k_dflt ((first | refine' Meets.useLL (by k_asm) (by k_asm) (by k_asm) (by k_asm) (by k_asm) (by exact rfl) (by exact rfl) (by tb_start) (by ktr_room) (by ktr_units) (c_drs (by ktn_open) (by omega) (by omega) (by assumption) (by assumption)) ?_); (intro a9 l9 n9 vs9 k9 o9 ws9 h9 tk9 hv9 F9 N9 hne9 hnf9 hng9; (try dsimp only at hv9); (obtain ⟨hq9, hr9⟩ := hv9; replace hq9 := hq9.lim (by assumption) (by omega)); all_goals ((try k_sweep); (try dsimp only); (try k_fold))))) | (k_here; (with_reducible show wpAny _ _ (call (Value.ref 133) [Value.bool _, Value.ref _]) _ _ _); k_dflt ((first | refine' Meets.useB (by k_asm) (by k_asm) (by k_asm) (by k_asm) (by k_asm) (by exact rfl) (by exact rfl) (by tb_start) (by ktr_room) (by ktr_units) (c_signed (by ktn_open)) ?_); (intro a9 b9 h9 tk9 hv9 F9 N9 hne9; (try dsimp only at hv9); (skip); all_goals ((try k_sweep); (try dsimp only); (try k_fold))))) | (k_unfold; (try dsimp only)) | (k_end; wrow_close) | walk1 | (dsimp only; walk1) | (leave1; (try dsimp only)) | fail "no step")))
  all_goals ktr_unf
  all_goals (first | (exfalso; omega) | (ktr_rel; first | exact td_t c (by assumption) (by assumption) (by assumption) | exact td_f c (by assumption) (by assumption) (by assumption)))
theorem c_tdivT {a l n a' l' n'} {z m wd : Int} {tw tm : Tok} {b vs} (hz : Sg z b vs) (hm : 3 ≤ m) (hm' : m < 32) (hw : 5 ≤ wd) (hw' : wd ≤ 9) (c : z < 0) :
    Meets w mean mg mb 10 175 [.ref a, .ref a', .int wd tw, .ref 252] [(a, tupOf [.bool b, .ref l]), (l, listOf vs.toArray n), (a', tupOf [.bool false, .ref l']), (l', listOf [.int m tm].toArray n')]
      (NewTT fun _ q b2 v => Lim ((z.natAbs : Int) / m) q ∧ Lim ((z.natAbs : Int) % m) v ∧ Lim ((z.natAbs : Int) % m) v ∧ Sg (-((z.natAbs : Int) % m)) b2 v) :=
  (c_tdiv hz hm hm' hw hw').mono (NewTT.mono fun _ _ _ _ h => h.t c)
theorem c_tdivF {a l n a' l' n'} {z m wd : Int} {tw tm : Tok} {b vs} (hz : Sg z b vs) (hm : 3 ≤ m) (hm' : m < 32) (hw : 5 ≤ wd) (hw' : wd ≤ 9) (c : ¬ z < 0) :
    Meets w mean mg mb 10 175 [.ref a, .ref a', .int wd tw, .ref 252] [(a, tupOf [.bool b, .ref l]), (l, listOf vs.toArray n), (a', tupOf [.bool false, .ref l']), (l', listOf [.int m tm].toArray n')]
      (NewTT fun _ q b2 v => Lim ((z.natAbs : Int) / m) q ∧ Lim ((z.natAbs : Int) % m) v ∧ Lim ((z.natAbs : Int) % m) v ∧ Sg ((z.natAbs : Int) % m) b2 v) :=
  (c_tdiv hz hm hm' hw hw').mono (NewTT.mono fun _ _ _ _ h => h.f c)
end
section
local macro_rules | `(tactic| ktr_rel) => `(tactic| (first | ((with_reducible show LeaveA _ _ (NewTT _) _ _ _); (with_unfolding_all refine' leaveA_ [_, _, _, _, _] ?F ?N ⟨_, _, _, _, _, _, _, _, _, _, _, rfl, rfl, ?P⟩ ?S ?O; (case F => k_asm); (case N => k_asm); (case S => tb_start); (case O => kxt_pos))) | ((with_reducible show LeaveA _ _ (NewT2 _) _ _ _); (with_unfolding_all refine' leaveA_ [_, _, _] ?F ?N ⟨_, _, _, _, _, _, _, rfl, rfl, ?P⟩ ?S ?O; (case F => k_asm); (case N => k_asm); (case S => tb_start); (case O => kxt_pos)))))
theorem c_fdiv {a l n a' l' n'} {z m wd : Int} {tw tm : Tok} {b vs} (hz : Sg z b vs) (hm : 3 ≤ m) (hm' : m < 32) (hw : 5 ≤ wd) (hw' : wd ≤ 9) :
    Meets w mean mg mb 12 182 [.ref a, .ref a', .int wd tw, .ref 252] [(a, tupOf [.bool b, .ref l]), (l, listOf vs.toArray n), (a', tupOf [.bool false, .ref l']), (l', listOf [.int m tm].toArray n')] (NewT2 (Lim (z % m))) := by
  have hM := sg_mod (t := tm) hm hm'
  have hq := td_facts hz.2 hm
  by_cases c : z < 0 <;> (have hb := hz.1) <;> simp only [c, decide_true, decide_false] at hb <;> subst hb
  all_goals (
    w_top off; (k_dflt (refine' meets_of (binds := [(Str.ofString "x", .ref a), (Str.ofString "y", .ref a'), (Str.ofString "w", .int wd tw), (Str.ofString "divrem", .ref 252)]) ?ho ?hcd ?hb ?hl ?h1 ?h2 ?h3 ?h4 ?h5 ?_; (case ho => k_is); (case hcd => k_is); (case hb => exact fun _ => BindsTo.of_eq rfl); (case hl => exact locs rfl); (case h1 => exact rfl); (case h2 => exact rfl); (case h3 => exact rfl); (case h4 => decide); (case h5 => decide)); intro dp un gd outer base g L' h₁ s Er F N B X T hdp hun; (try dsimp only [List.reverse_cons, List.reverse_nil, List.nil_append, List.cons_append] at F); (try dsimp only); (try k_fold))
    (repeat' (first | (k_here; (with_reducible show wpAny _ _ (call (Value.ref 154) [Value.ref _, Value.ref _, Value.int _ _]) _ _ _); k_dflt ((first | refine' Meets.useBL (by k_asm) (by k_asm) (by k_asm) (by k_asm) (by k_asm) (by exact rfl) (by exact rfl) (by tb_start) (by ktr_room) (by ktr_units) (c_sadd (by assumption) (by assumption) (by omega) (by omega) (by assumption) (by assumption)) ?_); (intro a9 b9 l9 n9 vs9 h9 tk9 hv9 F9 N9 hne9 hnf9; (try dsimp only at hv9); (skip); all_goals ((try k_sweep); (try dsimp only); (try k_fold))))) | (k_here; (with_reducible show wpAny _ _ (call (Value.ref 98) [Value.ref _, Value.int _ _, Value.int _ _]) _ _ _); k_dflt ((first | refine' Meets.useL (by k_asm) (by k_asm) (by k_asm) (by k_asm) (by k_asm) (by exact rfl) (by exact rfl) (by tb_start) (by ktr_room) (by ktr_units) (c_addl (by ktn_open) (by decide) (by omega) (by assumption) (by assumption)) ?_); (intro l9 n9 vs9 h9 tk9 hv9 F9 N9 hne9; (try dsimp only at hv9); (skip); all_goals ((try k_sweep); (try dsimp only); (try k_fold))))) | (k_here; (with_reducible show wpAny _ _ (call (Value.ref 175) [Value.ref _, Value.ref _, Value.int _ _, Value.ref _]) _ _ _); k_dflt ((first | refine' Meets.useTT (by k_asm) (by k_asm) (by k_asm) (by k_asm) (by k_asm) (by exact rfl) (by exact rfl) (by tb_start) (by ktr_room) (by ktr_units) (c_tdivT (by assumption) (by omega) (by omega) (by assumption) (by assumption) (by assumption)) ?_ | refine' Meets.useTT (by k_asm) (by k_asm) (by k_asm) (by k_asm) (by k_asm) (by exact rfl) (by exact rfl) (by tb_start) (by ktr_room) (by ktr_units) (c_tdivF (by assumption) (by omega) (by omega) (by assumption) (by assumption) (by assumption)) ?_); (intro d9 a9 a8 b9 l9 b8 l8 n9 q9 n8 v9 h9 tk9 hv9 F9 N9 hne9 hnf9 hng9 hni9 hnj9; (try dsimp only at hv9); (obtain ⟨hq9, hr9, hr8, hs9⟩ := hv9; cases hr9); all_goals ((try k_sweep); (try dsimp only); (try k_fold))))) | (k_unfold; (try dsimp only)) | (k_end; wrow_close) | walk1 | (dsimp only; walk1) | (leave1; (try dsimp only)) | fail "no step")))
  all_goals ktr_unf
  all_goals try (exfalso; omega)
  all_goals ktr_rel
  all_goals first
    | (rename Sg _ _ _ => hg; exact hg.2.congr (by rw [mod_down c (by omega) (by assumption)]; omega))
    | exact .zero (mod_down0 c (by assumption))
    | (rw [mod_up c]; assumption)
end
section
theorem c_smod {a l n a' l' n'} {z m wd : Int} {tw tm : Tok} {b vs} (hz : Sg z b vs) (hm : 3 ≤ m) (hm' : m < 32) (hw : 5 ≤ wd) (hw' : wd ≤ 9) :
    Meets w mean mg mb 14 189 [.ref a, .ref a', .int wd tw, .ref 252] [(a, tupOf [.bool b, .ref l]), (l, listOf vs.toArray n), (a', tupOf [.bool false, .ref l']), (l', listOf [.int m tm].toArray n')] (NewL (Lim (z % m))) := by
  w_top off; (k_dflt (refine' meets_of (binds := [(Str.ofString "x", .ref a), (Str.ofString "y", .ref a'), (Str.ofString "w", .int wd tw), (Str.ofString "divrem", .ref 252)]) ?ho ?hcd ?hb ?hl ?h1 ?h2 ?h3 ?h4 ?h5 ?_; (case ho => k_is); (case hcd => k_is); (case hb => exact fun _ => BindsTo.of_eq rfl); (case hl => exact locs rfl); (case h1 => exact rfl); (case h2 => exact rfl); (case h3 => exact rfl); (case h4 => decide); (case h5 => decide)); intro dp un gd outer base g L' h₁ s Er F N B X T hdp hun; (try dsimp only [List.reverse_cons, List.reverse_nil, List.nil_append, List.cons_append] at F); (try dsimp only); (try k_fold))
  (repeat' (first | (k_here; (with_reducible show wpAny _ _ (call (Value.ref 182) [Value.ref _, Value.ref _, Value.int _ _, Value.ref _]) _ _ _); k_dflt ((first | refine' Meets.useT2 (by k_asm) (by k_asm) (by k_asm) (by k_asm) (by k_asm) (by exact rfl) (by exact rfl) (by tb_start) (by ktr_room) (by ktr_units) (c_fdiv (by assumption) (by omega) (by omega) (by assumption) (by assumption)) ?_); (intro d9 a9 a8 b8 l8 n8 v9 h9 tk9 hv9 F9 N9 hne9 hnf9 hng9; (try dsimp only at hv9); (skip); all_goals ((try k_sweep); (try dsimp only); (try k_fold))))) | (k_unfold; (try dsimp only)) | (k_end; wrow_close) | walk1 | (dsimp only; walk1) | (leave1; (try dsimp only)) | fail "no step"))
  all_goals ktr_unf
  all_goals (ktr_rel; assumption)
end
section
local macro_rules | `(tactic| ktr_rel) => `(tactic| ((with_reducible show LeaveE _ _ (NewG _) _ _ _); (with_unfolding_all refine' leaveE_ [_, _, _, _] ?F ?N ⟨_, _, _, _, _, _, _, _, _, _, rfl, rfl, ?P⟩ ?S; (case F => k_asm); (case N => k_asm); (case S => tb_start))))
local macro_rules | `(tactic| ktr_unf) => `(tactic| ((try dsimp only); (iterate 5 (try (k_unfold; (try dsimp only)))); (try (show LeaveE _ _ _ _ _ _; (try dsimp only)))))
theorem c_gcd {la lb na nb} {x m wd : Int} {tw tm : Tok} {va} {res : Int × Int} (hx : Lim x va) (h0 : 0 < x) (hm : 3 ≤ m) (hm' : m < 32) (hg : gl 10 x m 1 0 0 1 = some res) (hw : 5 ≤ wd) (hw' : wd ≤ 9) :
    MeetsE w mean mg mb 12 196 [.ref la, .ref lb, .int wd tw, .ref 210, .ref 252] [(la, listOf va.toArray na), (lb, listOf [.int m tm].toArray nb)] (NewG fun v b vs => Lim res.1 v ∧ Sg res.2 b vs) := by
  cases hx
  · omega
  rename_i t hx0 hx1
  have hB := (pw hw hw').1
  w_top off; (k_dflt (refine' meetsE_of (binds := [(Str.ofString "a", .ref la), (Str.ofString "b", .ref lb), (Str.ofString "w", .int wd tw), (Str.ofString "mul", .ref 210), (Str.ofString "divrem", .ref 252)]) ?ho ?hcd ?hb ?hl ?h1 ?h2 ?h3 ?h4 ?h5 ?_; (case ho => k_is); (case hcd => k_is); (case hb => exact fun _ => BindsTo.of_eq rfl); (case hl => exact locs rfl); (case h1 => exact rfl); (case h2 => exact rfl); (case h3 => exact rfl); (case h4 => decide); (case h5 => decide)); intro dp un gd outer base g L' h₁ s Er F N B X T hdp hun; (try dsimp only [List.reverse_cons, List.reverse_nil, List.nil_append, List.cons_append] at F); (try dsimp only); (try k_fold))
  repeat (fail_if_success (with_reducible show wpAny _ _ (exec (Stmt.While _ _ _ _) _) _ _ _)); first | (k_here; (with_reducible show wpAny _ _ (call (Value.ref 161) [Value.ref _, Value.ref _, Value.int _ _]) _ _ _); k_dflt ((first | refine' Meets.useBL (by k_asm) (by k_asm) (by k_asm) (by k_asm) (by k_asm) (by exact rfl) (by exact rfl) (by tb_start) (by ktr_room) (by ktr_units) (c_ssub (by assumption) (by assumption) (by assumption) (by assumption) (by assumption) (by assumption)) ?_); (intro a9 b9 l9 n9 vs9 h9 tk9 hv9 F9 N9 hne9 hnf9; (try dsimp only at hv9); (skip); all_goals ((try k_sweep); (try dsimp only); (try k_fold))))) | (k_here; (with_reducible show wpAny _ _ (call (Value.ref 168) [Value.ref _, Value.ref _, Value.int _ _, Value.ref _]) _ _ _); k_dflt ((first | refine' Meets.useBL (by k_asm) (by k_asm) (by k_asm) (by k_asm) (by k_asm) (by exact rfl) (by exact rfl) (by tb_start) (by ktr_room) (by ktr_units) (c_smul (by assumption) (by assumption) (by assumption) (by assumption) (by assumption) (by assumption)) ?_); (intro a9 b9 l9 n9 vs9 h9 tk9 hv9 F9 N9 hne9 hnf9; (try dsimp only at hv9); (skip); all_goals ((try k_sweep); (try dsimp only); (try k_fold))))) | (k_here; (with_reducible show wpAny _ _ (call (Value.ref 133) [Value.bool false, Value.ref _]) _ _ _); k_dflt ((first | refine' Meets.useB (by k_asm) (by k_asm) (by k_asm) (by k_asm) (by k_asm) (by exact rfl) (by exact rfl) (by tb_start) (by ktr_room) (by ktr_units) (c_signedF (by ktn_open)) ?_); (intro a9 b9 h9 tk9 hv9 F9 N9 hne9; (try dsimp only at hv9); (skip); all_goals ((try k_sweep); (try dsimp only); (try k_fold))))) | (k_here; (with_reducible show wpAny _ _ (call (Value.ref 252) [Value.ref _, Value.ref _, Value.int _ _]) _ _ _); k_dflt ((first | refine' Meets.useLL (by k_asm) (by k_asm) (by k_asm) (by k_asm) (by k_asm) (by exact rfl) (by exact rfl) (by tb_start) (by ktr_room) (by ktr_units) (c_drs (by ktn_open) (by omega) (by omega) (by assumption) (by assumption)) ?_); (intro a9 l9 n9 vs9 k9 o9 ws9 h9 tk9 hv9 F9 N9 hne9 hnf9 hng9; (try dsimp only at hv9); (obtain ⟨hq9, hr9⟩ := hv9; replace hq9 := hq9.lim (by assumption) (by omega)); all_goals ((try k_sweep); (try dsimp only); (try k_fold))))) | (k_unfold; (try dsimp only)) | walk1 | (dsimp only; walk1)
  (rename Fr _ _ _ _ => lF'); (rename News _ _ _ _ => lN')
  refine While_inv2 (fun n mm nx => GJ [(la, listOf [.int x t].toArray na), (lb, listOf [.int m tm].toArray nb)] wd tw res n mm nx) (n₀ := 10) lF' lN' ?init ?turn
  case init =>
    k_dflt (refine' ⟨x, m, 1, 0, 0, 1, _, _, _, _, _, _, _, _, _, _, _, _, _, _, _, _, _, _, _, _, _, _, _, _, _, _, hg, ?c1, ?c2, ?c3, ?c4, ?c5, ?c6, rfl, rfl, rfl, rfl, rfl, rfl, rfl, rfl, rfl, ?M⟩)
    case M => tb_start
    all_goals first | assumption | ktn_open
  case turn =>
    clear lF' lN'
    rintro n mm nx hh tk F₁ N₁ ⟨a, b, s0, s1, t0, t1, pa, pb, sa, sb, ta, tb, ks0, ks1, kt0, kt1, ua, ub, vs0, vs1, vt0, vt1, bs0, bs1, bt0, bt1, ka, kb, ns0, ns1, nt0, nt1, hgl, hla, hlb, hs0, hs1, ht0, ht1, e1, e2, e3, e4, e5, e6, e7, e8, e9, hM⟩
    rw [gm_eq e1 e2 e3 e4 e5 e6 e7 e8 e9] at F₁
    have N₂ : News _ _ _ _ := fun p hp => N₁ p (hM p hp)
    clear N₁ hM e1 e2 e3 e4 e5 e6 e7 e8 e9
    generalize mm = mm' at F₁
    cases hlb with
    | zero hb =>
      subst hb
      have e := gl_end hgl
      subst e
      (try k_fold)
      (repeat' (first | (k_here; (with_reducible show wpAny _ _ (call (Value.ref 161) [Value.ref _, Value.ref _, Value.int _ _]) _ _ _); k_dflt ((first | refine' Meets.useBL (by k_asm) (by k_asm) (by k_asm) (by k_asm) (by k_asm) (by exact rfl) (by exact rfl) (by tb_start) (by ktr_room) (by ktr_units) (c_ssub (by assumption) (by assumption) (by assumption) (by assumption) (by assumption) (by assumption)) ?_); (intro a9 b9 l9 n9 vs9 h9 tk9 hv9 F9 N9 hne9 hnf9; (try dsimp only at hv9); (skip); all_goals ((try k_sweep); (try dsimp only); (try k_fold))))) | (k_here; (with_reducible show wpAny _ _ (call (Value.ref 168) [Value.ref _, Value.ref _, Value.int _ _, Value.ref _]) _ _ _); k_dflt ((first | refine' Meets.useBL (by k_asm) (by k_asm) (by k_asm) (by k_asm) (by k_asm) (by exact rfl) (by exact rfl) (by tb_start) (by ktr_room) (by ktr_units) (c_smul (by assumption) (by assumption) (by assumption) (by assumption) (by assumption) (by assumption)) ?_); (intro a9 b9 l9 n9 vs9 h9 tk9 hv9 F9 N9 hne9 hnf9; (try dsimp only at hv9); (skip); all_goals ((try k_sweep); (try dsimp only); (try k_fold))))) | (k_here; (with_reducible show wpAny _ _ (call (Value.ref 133) [Value.bool false, Value.ref _]) _ _ _); k_dflt ((first | refine' Meets.useB (by k_asm) (by k_asm) (by k_asm) (by k_asm) (by k_asm) (by exact rfl) (by exact rfl) (by tb_start) (by ktr_room) (by ktr_units) (c_signedF (by ktn_open)) ?_); (intro a9 b9 h9 tk9 hv9 F9 N9 hne9; (try dsimp only at hv9); (skip); all_goals ((try k_sweep); (try dsimp only); (try k_fold))))) | (k_here; (with_reducible show wpAny _ _ (call (Value.ref 252) [Value.ref _, Value.ref _, Value.int _ _]) _ _ _); k_dflt ((first | refine' Meets.useLL (by k_asm) (by k_asm) (by k_asm) (by k_asm) (by k_asm) (by exact rfl) (by exact rfl) (by tb_start) (by ktr_room) (by ktr_units) (c_drs (by ktn_open) (by omega) (by omega) (by assumption) (by assumption)) ?_); (intro a9 l9 n9 vs9 k9 o9 ws9 h9 tk9 hv9 F9 N9 hne9 hnf9 hng9; (try dsimp only at hv9); (obtain ⟨hq9, hr9⟩ := hv9; replace hq9 := hq9.lim (by assumption) (by omega)); all_goals ((try k_sweep); (try dsimp only); (try k_fold))))) | (k_unfold; (try dsimp only)) | (k_end; wrow_close) | walk1 | (dsimp only; walk1) | (leave1; (try dsimp only)) | fail "no step"))
      all_goals ktr_unf
      ktr_rel
      exact ⟨hla, hs0⟩
    | one tb' hb0 hb1 =>
      obtain ⟨⟨n', hn', hg'⟩, q1, q2, q3, q4, q5, q6, q7⟩ := gl_step hb0 hgl
      have hq0 : 0 ≤ a / b := Int.ediv_nonneg hla.nonneg.1 (Int.le_of_lt hb0)
      (try k_fold)
      (repeat' (first | (k_here; (with_reducible show wpAny _ _ (call (Value.ref 161) [Value.ref _, Value.ref _, Value.int _ _]) _ _ _); k_dflt ((first | refine' Meets.useBL (by k_asm) (by k_asm) (by k_asm) (by k_asm) (by k_asm) (by exact rfl) (by exact rfl) (by tb_start) (by ktr_room) (by ktr_units) (c_ssub (by assumption) (by assumption) (by assumption) (by assumption) (by assumption) (by assumption)) ?_); (intro a9 b9 l9 n9 vs9 h9 tk9 hv9 F9 N9 hne9 hnf9; (try dsimp only at hv9); (skip); all_goals ((try k_sweep); (try dsimp only); (try k_fold))))) | (k_here; (with_reducible show wpAny _ _ (call (Value.ref 168) [Value.ref _, Value.ref _, Value.int _ _, Value.ref _]) _ _ _); k_dflt ((first | refine' Meets.useBL (by k_asm) (by k_asm) (by k_asm) (by k_asm) (by k_asm) (by exact rfl) (by exact rfl) (by tb_start) (by ktr_room) (by ktr_units) (c_smul (by assumption) (by assumption) (by assumption) (by assumption) (by assumption) (by assumption)) ?_); (intro a9 b9 l9 n9 vs9 h9 tk9 hv9 F9 N9 hne9 hnf9; (try dsimp only at hv9); (skip); all_goals ((try k_sweep); (try dsimp only); (try k_fold))))) | (k_here; (with_reducible show wpAny _ _ (call (Value.ref 133) [Value.bool false, Value.ref _]) _ _ _); k_dflt ((first | refine' Meets.useB (by k_asm) (by k_asm) (by k_asm) (by k_asm) (by k_asm) (by exact rfl) (by exact rfl) (by tb_start) (by ktr_room) (by ktr_units) (c_signedF (by ktn_open)) ?_); (intro a9 b9 h9 tk9 hv9 F9 N9 hne9; (try dsimp only at hv9); (skip); all_goals ((try k_sweep); (try dsimp only); (try k_fold))))) | (k_here; (with_reducible show wpAny _ _ (call (Value.ref 252) [Value.ref _, Value.ref _, Value.int _ _]) _ _ _); k_dflt ((first | refine' Meets.useLL (by k_asm) (by k_asm) (by k_asm) (by k_asm) (by k_asm) (by exact rfl) (by exact rfl) (by tb_start) (by ktr_room) (by ktr_units) (c_drs (by ktn_open) (by omega) (by omega) (by assumption) (by assumption)) ?_); (intro a9 l9 n9 vs9 k9 o9 ws9 h9 tk9 hv9 F9 N9 hne9 hnf9 hng9; (try dsimp only at hv9); (obtain ⟨hq9, hr9⟩ := hv9; replace hq9 := hq9.lim (by assumption) (by omega)); all_goals ((try k_sweep); (try dsimp only); (try k_fold))))) | (k_unfold; (try dsimp only)) | (k_end; wrow_close) | walk1 | (dsimp only; walk1) | (leave1; (try dsimp only)) | fail "no step"))
      all_goals (try dsimp only)
      k_dflt (refine' step2 ?F2 ?N2 hn' ⟨b, a % b, s1, s0 - a / b * s1, t1, t0 - a / b * t1, _, _, _, _, _, _, _, _, _, _, _, _, _, _, _, _, _, _, _, _, _, _, _, _, _, _, hg', ?u1, ?u2, ?u3, ?u4, ?u5, ?u6, ?e1, ?e2, ?e3, ?e4, ?e5, ?e6, ?e7, ?e8, ?e9, ?M2⟩)
      case F2 => k_asm
      case N2 => k_asm
      case e1 => rfl
      case e2 => rfl
      case e3 => rfl
      case e4 => rfl
      case e5 => rfl
      case e6 => rfl
      case e7 => rfl
      case e8 => rfl
      case e9 => rfl
      case M2 => tb_start
      all_goals first | assumption | ktn_open
end
section
local macro_rules | `(tactic| walk_at "exec While Compare cons nil") => `(tactic| (k_here; k_dflt (refine whl_start 3 ?_)))
local macro_rules | `(tactic| walk_at "WhlIf") => `(tactic| first | (refine WhlIf.yes (decide_eq_true (by omega)) ?_) | (refine WhlIf.no (decide_eq_false (by omega)) ?_))
local macro_rules | `(tactic| walk_at "exec For Name Subscript cons nil") => `(tactic| (k_here; (rename Fr _ _ _ _ => lF'); (with_unfolding_all refine' For_turns lF' ?_; k_whole)))
theorem c_limbs {v wd : Int} {tv tw : Tok} (h0 : 0 ≤ v) (h1 : v < 32) (hw : 5 ≤ wd) (hw' : wd ≤ 9) :
    Meets w mean mg mb 4 266 [.int v tv, .int wd tw] [] (NewL (Lim v)) := by
  have hB := (pw hw hw').1
  have e1 : Int.fmod v (2 ^ wd.toNat) = v := by rw [Int.fmod_eq_emod_of_nonneg _ (by omega)]; exact Int.emod_eq_of_lt h0 (by omega)
  have e2 : Int.fdiv v (2 ^ wd.toNat) = 0 := by rw [Int.fdiv_eq_ediv_of_nonneg _ (by omega)]; exact Int.ediv_eq_zero_of_lt h0 (by omega)
  by_cases c : 0 < v
  · w_top off; (k_dflt (refine' meets_of (binds := [(Str.ofString "number", .int v tv), (Str.ofString "w", .int wd tw)]) ?ho ?hcd ?hb ?hl ?h1 ?h2 ?h3 ?h4 ?h5 ?_; (case ho => k_is); (case hcd => k_is); (case hb => exact fun _ => BindsTo.of_eq rfl); (case hl => exact locs rfl); (case h1 => exact rfl); (case h2 => exact rfl); (case h3 => exact rfl); (case h4 => decide); (case h5 => decide)); intro dp un gd outer base g L' h₁ s Er F N B X T hdp hun; (try dsimp only [List.reverse_cons, List.reverse_nil, List.nil_append, List.cons_append] at F); (try dsimp only); (try k_fold))
    (repeat' (first | (k_unfold; (try dsimp only)) | (k_end; wrow_close) | walk1 | (dsimp only; walk1) | (leave1; (try dsimp only)) | fail "no step"))
    all_goals ktr_unf
    all_goals (ktr_rel; exact lim_eq e1 c h1)
  · obtain rfl : v = 0 := by omega
    w_top off; (k_dflt (refine' meets_of (binds := [(Str.ofString "number", .int 0 tv), (Str.ofString "w", .int wd tw)]) ?ho ?hcd ?hb ?hl ?h1 ?h2 ?h3 ?h4 ?h5 ?_; (case ho => k_is); (case hcd => k_is); (case hb => exact fun _ => BindsTo.of_eq rfl); (case hl => exact locs rfl); (case h1 => exact rfl); (case h2 => exact rfl); (case h3 => exact rfl); (case h4 => decide); (case h5 => decide)); intro dp un gd outer base g L' h₁ s Er F N B X T hdp hun; (try dsimp only [List.reverse_cons, List.reverse_nil, List.nil_append, List.cons_append] at F); (try dsimp only); (try k_fold))
    (repeat' (first | (k_unfold; (try dsimp only)) | (k_end; wrow_close) | walk1 | (dsimp only; walk1) | (leave1; (try dsimp only)) | fail "no step"))
    all_goals ktr_unf
    all_goals (ktr_rel; exact .zero rfl)
theorem c_told {l n} {v wd : Int} {tw : Tok} {vs} (hv : Lim v vs) (hw : 5 ≤ wd) (hw' : wd ≤ 9) :
    Meets w mean mg mb 4 273 [.ref l, .int wd tw] [(l, listOf vs.toArray n)] (NewI fun c => c = v) := by
  cases hv
  all_goals subst_vars
  all_goals (
    w_top off; (k_dflt (refine' meets_of (binds := [(Str.ofString "row", .ref l), (Str.ofString "w", .int wd tw)]) ?ho ?hcd ?hb ?hl ?h1 ?h2 ?h3 ?h4 ?h5 ?_; (case ho => k_is); (case hcd => k_is); (case hb => exact fun _ => BindsTo.of_eq rfl); (case hl => exact locs rfl); (case h1 => exact rfl); (case h2 => exact rfl); (case h3 => exact rfl); (case h4 => decide); (case h5 => decide)); intro dp un gd outer base g L' h₁ s Er F N B X T hdp hun; (try dsimp only [List.reverse_cons, List.reverse_nil, List.nil_append, List.cons_append] at F); (try dsimp only); (try k_fold))
    (repeat' (first | (k_unfold; (try dsimp only)) | (k_end; wrow_close) | walk1 | (dsimp only; walk1) | (leave1; (try dsimp only)) | fail "no step")))
  all_goals ktr_unf
  all_goals (ktr_rel; first | rfl | (kwd_inv; omega))
theorem c_cmpE {la lb na nb} {x y : Int} {vx vy} (hvx : Pos1 x vx) (hvy : Pos1 y vy) (h : x = y) :
    Meets w mean mg mb 2 77 [.ref la, .ref lb] [(la, listOf vx.toArray na), (lb, listOf vy.toArray nb)] (NewI (fun c => c = 0)) :=
  (c_cmp hvx hvy).mono fun _ _ ⟨c, t, e1, e2, hc⟩ => ⟨c, t, e1, e2, by cases hc <;> omega⟩
theorem c_cmpN {la lb na nb} {x y : Int} {vx vy} (hvx : Pos1 x vx) (hvy : Pos1 y vy) (h : x ≠ y) :
    Meets w mean mg mb 2 77 [.ref la, .ref lb] [(la, listOf vx.toArray na), (lb, listOf vy.toArray nb)] (NewI (fun c => c = 1 ∨ c = -1)) :=
  (c_cmp hvx hvy).mono fun _ _ ⟨c, t, e1, e2, hc⟩ => ⟨c, t, e1, e2, by cases hc <;> omega⟩
theorem c_signed0 {l n} {x : Int} {vs} (hv : Lim x vs) :
    Meets w mean mg mb 2 133 [.bool false, .ref l] [(l, listOf vs.toArray n)] (NewB l fun c => c = false) :=
  (c_signed hv).mono fun _ _ ⟨a, b, e1, e2, h⟩ => ⟨a, b, e1, e2, h⟩
theorem c_limbs1 {v wd : Int} {tv tw : Tok} (h0 : 0 < v) (h1 : v < 32) (hw : 5 ≤ wd) (hw' : wd ≤ 9) :
    Meets w mean mg mb 4 266 [.int v tv, .int wd tw] [] (NewL fun vs => ∃ t, vs = [.int v t]) :=
  (c_limbs (Int.le_of_lt h0) h1 hw hw').mono fun _ _ ⟨l, n, vs, e1, e2, h⟩ => ⟨l, n, vs, e1, e2, by
    cases h with
    | zero e => omega
    | one t a b => exact ⟨t, rfl⟩⟩
end
section
theorem c_inv {la lb na nb} {x m wd : Int} {tw tm : Tok} {va} {g z : Int} (hx : Lim x va) (h0 : 0 < x) (hxm : x < m) (hm : 3 ≤ m) (hm' : m < 32) (hg : gl 10 x m 1 0 0 1 = some (g, z)) (hg1 : g = 1) (hw : 5 ≤ wd) (hw' : wd ≤ 9) :
    Meets w mean mg mb 20 203 [.ref la, .ref lb, .int wd tw, .ref 210, .ref 252] [(la, listOf va.toArray na), (lb, listOf [.int m tm].toArray nb)] (NewL (Lim (z % m))) := by
  have hB := (pw hw hw').1
  have hxe : x % m = x := Int.emod_eq_of_lt (by omega) hxm
  w_top off; (k_dflt (refine' meets_of (binds := [(Str.ofString "a", .ref la), (Str.ofString "m", .ref lb), (Str.ofString "w", .int wd tw), (Str.ofString "mul", .ref 210), (Str.ofString "divrem", .ref 252)]) ?ho ?hcd ?hb ?hl ?h1 ?h2 ?h3 ?h4 ?h5 ?_; (case ho => k_is); (case hcd => k_is); (case hb => exact fun _ => BindsTo.of_eq rfl); (case hl => exact locs rfl); (case h1 => exact rfl); (case h2 => exact rfl); (case h3 => exact rfl); (case h4 => decide); (case h5 => decide)); intro dp un gd outer base g L' h₁ s Er F N B X T hdp hun; (try dsimp only [List.reverse_cons, List.reverse_nil, List.nil_append, List.cons_append] at F); (try dsimp only); (try k_fold))
  (repeat' (first | (k_here; (with_reducible show wpAny _ _ (call (Value.ref 189) [Value.ref _, Value.ref _, Value.int _ _, Value.ref _]) _ _ _); k_dflt ((first | refine' Meets.useL (by k_asm) (by k_asm) (by k_asm) (by k_asm) (by k_asm) (by exact rfl) (by exact rfl) (by tb_start) (by ktr_room) (by ktr_units) (c_smod (by assumption) (by omega) (by omega) (by assumption) (by assumption)) ?_); (intro l9 n9 vs9 h9 tk9 hv9 F9 N9 hne9; (try dsimp only at hv9); (skip); all_goals ((try k_sweep); (try dsimp only); (try k_fold))))) | (k_here; (with_reducible show wpAny _ _ (call (Value.ref 133) [Value.bool false, Value.ref _]) _ _ _); k_dflt ((first | refine' Meets.useB (by k_asm) (by k_asm) (by k_asm) (by k_asm) (by k_asm) (by exact rfl) (by exact rfl) (by tb_start) (by ktr_room) (by ktr_units) (c_signed0 (by ktn_open)) ?_); (intro a9 b9 h9 tk9 hv9 F9 N9 hne9; (try dsimp only at hv9); (subst hv9); all_goals ((try k_sweep); (try dsimp only); (try k_fold))))) | (k_here; (with_reducible show wpAny _ _ (call (Value.ref 77) [Value.ref _, Value.ref _]) _ _ _); k_dflt ((first | refine' Meets.useI (by k_asm) (by k_asm) (by k_asm) (by k_asm) (by k_asm) (by exact rfl) (by exact rfl) (by tb_start) (by ktr_room) (by ktr_units) (c_cmpE (by ktn_open) (by ktn_open) (by (first | assumption | omega))) ?_); (intro c9 t9 h9 tk9 hv9 F9 N9; (try dsimp only at hv9); (subst hv9); all_goals ((try k_sweep); (try dsimp only); (try k_fold))))) | (k_here; (with_reducible show wpAny _ _ (call (Value.ref 196) [Value.ref _, Value.ref _, Value.int _ _, Value.ref _, Value.ref _]) _ _ _); k_dflt ((first | refine' MeetsE.useG (by k_asm) (by k_asm) (by k_asm) (by k_asm) (by k_asm) (by exact rfl) (by exact rfl) (by tb_start) (by ktr_room) (by ktr_units) (c_gcd (by assumption) (by omega) (by omega) (by omega) (by assumption) (by assumption) (by assumption)) ?_); (intro d9 l9 v9 n9 a9 a8 b9 l8 v8 n8 h9 tk9 hv9 F9 N9; (try dsimp only at hv9); (obtain ⟨hg9, hs9⟩ := hv9); all_goals ((try k_sweep); (try dsimp only); (try k_fold))))) | (k_here; (with_reducible show wpAny _ _ (call (Value.ref 252) [Value.ref _, Value.ref _, Value.int _ _]) _ _ _); k_dflt ((first | refine' Meets.useLL (by k_asm) (by k_asm) (by k_asm) (by k_asm) (by k_asm) (by exact rfl) (by exact rfl) (by tb_start) (by ktr_room) (by ktr_units) (c_drs (by ktn_open) (by omega) (by omega) (by assumption) (by assumption)) ?_); (intro a9 l9 n9 vs9 k9 o9 ws9 h9 tk9 hv9 F9 N9 hne9 hnf9 hng9; (try dsimp only at hv9); (obtain ⟨hq9, hr9⟩ := hv9; replace hr9 := hr9.congr (by assumption)); all_goals ((try k_sweep); (try dsimp only); (try k_fold))))) | (k_unfold; (try dsimp only)) | (k_end; wrow_close) | walk1 | (dsimp only; walk1) | (leave1; (try dsimp only)) | fail "no step"))
  all_goals ktr_unf
  all_goals (first | (exfalso; omega) | (ktr_rel; assumption))
end
section
local macro_rules | `(tactic| walk_at "none of these") => `(tactic| fail)
theorem c_linvA {x m wd : Int} {tx tw tm : Tok} {g z : Int} (h0 : 0 < x) (hxm : x < m) (hm : 3 ≤ m) (hm' : m < 32) (hg : gl 10 x m 1 0 0 1 = some (g, z)) (hg1 : g = 1) (hw : 5 ≤ wd) (hw' : wd ≤ 9) :
    Meets w mean mg mb 24 280 [.int x tx, .int m tm, .int wd tw] [] (NewI fun c => c = z % m) := by
  w_top off; (k_dflt (refine' meets_of (binds := [(Str.ofString "number", .int x tx), (Str.ofString "modulus", .int m tm), (Str.ofString "w", .int wd tw)]) ?ho ?hcd ?hb ?hl ?h1 ?h2 ?h3 ?h4 ?h5 ?_; (case ho => k_is); (case hcd => k_is); (case hb => exact fun _ => BindsTo.of_eq rfl); (case hl => exact locs rfl); (case h1 => exact rfl); (case h2 => exact rfl); (case h3 => exact rfl); (case h4 => decide); (case h5 => decide)); intro dp un gd outer base g L' h₁ s Er F N B X T hdp hun; (try dsimp only [List.reverse_cons, List.reverse_nil, List.nil_append, List.cons_append] at F); (try dsimp only); (try k_fold))
  (repeat' (first | (k_here; (with_reducible show wpAny _ _ (call (Value.ref 203) [Value.ref _, Value.ref _, Value.int _ _, Value.ref _, Value.ref _]) _ _ _); k_dflt ((first | refine' Meets.useL (by k_asm) (by k_asm) (by k_asm) (by k_asm) (by k_asm) (by exact rfl) (by exact rfl) (by tb_start) (by ktr_room) (by ktr_units) (c_inv (by ktn_open) (by assumption) (by assumption) (by omega) (by omega) (by assumption) (by assumption) (by assumption) (by assumption)) ?_); (intro l9 n9 vs9 h9 tk9 hv9 F9 N9 hne9; (try dsimp only at hv9); (skip); all_goals ((try k_sweep); (try dsimp only); (try k_fold))))) | (k_here; (with_reducible show wpAny _ _ (call (Value.ref 273) [Value.ref _, Value.int _ _]) _ _ _); k_dflt ((first | refine' Meets.useI (by k_asm) (by k_asm) (by k_asm) (by k_asm) (by k_asm) (by exact rfl) (by exact rfl) (by tb_start) (by ktr_room) (by ktr_units) (c_told (by assumption) (by assumption) (by assumption)) ?_); (intro c9 t9 h9 tk9 hv9 F9 N9; (try dsimp only at hv9); (subst hv9); all_goals ((try k_sweep); (try dsimp only); (try k_fold))))) | (k_here; (with_reducible show wpAny _ _ (call (Value.ref 266) [Value.int _ _, Value.int _ _]) _ _ _); k_dflt ((first | refine' Meets.useL (by k_asm) (by k_asm) (by k_asm) (by k_asm) (by k_asm) (by exact rfl) (by exact rfl) (by tb_start) (by ktr_room) (by ktr_units) (c_limbs1 (by omega) (by omega) (by assumption) (by assumption)) ?_); (intro l9 n9 vs9 h9 tk9 hv9 F9 N9 hne9; (try dsimp only at hv9); (obtain ⟨t9, e9⟩ := hv9; subst e9); all_goals ((try k_sweep); (try dsimp only); (try k_fold))))) | (k_unfold; (try dsimp only)) | (k_end; wrow_close) | walk1 | (dsimp only; walk1) | (leave1; (try dsimp only)) | fail "no step"))
  all_goals ktr_unf
  all_goals (ktr_rel; rfl)
end
section
local macro_rules | `(tactic| ktr_rel) => `(tactic| ((with_reducible show LeaveE _ _ (NewG _) _ _ _); (with_unfolding_all refine' leaveE_ [_, _, _, _] ?F ?N ⟨_, _, _, _, _, _, _, _, _, _, rfl, rfl, ?P⟩ ?S; (case F => k_asm); (case N => k_asm); (case S => tb_start))))
local macro_rules | `(tactic| ktr_unf) => `(tactic| ((try dsimp only); (iterate 5 (try (k_unfold; (try dsimp only)))); (try (show LeaveE _ _ _ _ _ _; (try dsimp only)))))
theorem c_gcd0 {la lb na nb} {m wd : Int} {tw tm : Tok} {va} (hx : Lim 0 va) (hm : 3 ≤ m) (hm' : m < 32) (hw : 5 ≤ wd) (hw' : wd ≤ 9) :
    MeetsE w mean mg mb 12 196 [.ref la, .ref lb, .int wd tw, .ref 210, .ref 252] [(la, listOf va.toArray na), (lb, listOf [.int m tm].toArray nb)] (NewG fun v b vs => Lim m v ∧ Sg 0 b vs) := by
  cases hx with
  | one t h0 h1 => omega
  | zero e =>
    have hM : Lim m [.int m tm] := .one _ (by omega) hm'
    w_top off; (k_dflt (refine' meetsE_of (binds := [(Str.ofString "a", .ref la), (Str.ofString "b", .ref lb), (Str.ofString "w", .int wd tw), (Str.ofString "mul", .ref 210), (Str.ofString "divrem", .ref 252)]) ?ho ?hcd ?hb ?hl ?h1 ?h2 ?h3 ?h4 ?h5 ?_; (case ho => k_is); (case hcd => k_is); (case hb => exact fun _ => BindsTo.of_eq rfl); (case hl => exact locs rfl); (case h1 => exact rfl); (case h2 => exact rfl); (case h3 => exact rfl); (case h4 => decide); (case h5 => decide)); intro dp un gd outer base g L' h₁ s Er F N B X T hdp hun; (try dsimp only [List.reverse_cons, List.reverse_nil, List.nil_append, List.cons_append] at F); (try dsimp only); (try k_fold))
    (repeat' (first | (k_here; (with_reducible show wpAny _ _ (call (Value.ref 133) [Value.bool false, Value.ref _]) _ _ _); k_dflt ((first | refine' Meets.useB (by k_asm) (by k_asm) (by k_asm) (by k_asm) (by k_asm) (by exact rfl) (by exact rfl) (by tb_start) (by ktr_room) (by ktr_units) (c_signedF (by ktn_open)) ?_); (intro a9 b9 h9 tk9 hv9 F9 N9 hne9; (try dsimp only at hv9); (skip); all_goals ((try k_sweep); (try dsimp only); (try k_fold))))) | (k_unfold; (try dsimp only)) | (k_end; wrow_close) | walk1 | (dsimp only; walk1) | (leave1; (try dsimp only)) | fail "no step"))
    all_goals ktr_unf
    all_goals (ktr_rel; exact ⟨by assumption, by assumption⟩)
end
section
theorem c_linvB {x m wd : Int} {tx tw tm : Tok} {g z : Int} (h0 : 0 < x) (hxm : x < m) (hm : 3 ≤ m) (hm' : m < 32) (hg : gl 10 x m 1 0 0 1 = some (g, z)) (hg1 : g ≠ 1) (hw : 5 ≤ wd) (hw' : wd ≤ 9) :
    MeetsT w mean mg mb 24 280 [.int x tx, .int m tm, .int wd tw] (fun c => c = 0) := by
  have hB := (pw hw hw').1
  have hxe : x % m = x := Int.emod_eq_of_lt (by omega) hxm
  w_top off; (k_dflt (refine' meetsT_of (binds := [(Str.ofString "number", .int x tx), (Str.ofString "modulus", .int m tm), (Str.ofString "w", .int wd tw)]) ?ho ?hcd ?hb ?hl ?h1 ?h2 ?h3 ?h4 ?h5 ?_; (case ho => k_is); (case hcd => k_is); (case hb => exact fun _ => BindsTo.of_eq rfl); (case hl => exact locs rfl); (case h1 => exact rfl); (case h2 => exact rfl); (case h3 => exact rfl); (case h4 => decide); (case h5 => decide)); intro dp un gd env base g L' h₁ s Er F N B X T XB TB KD hdp hun; (try dsimp only [List.reverse_cons, List.reverse_nil, List.nil_append, List.cons_append] at F); (try dsimp only); (try k_fold))
  (repeat' (first | (k_here; (with_reducible show wpAny _ _ (call (Value.ref 77) [Value.ref _, Value.ref _]) _ _ _); k_dflt ((first | refine' Meets.useI (by k_asm) (by k_asm) (by k_asm) (by k_asm) (by k_asm) (by exact rfl) (by exact rfl) (by tb_start) (by ktr_room) (by ktr_units) (c_cmpN (by ktn_open) (by ktn_open) (by (first | assumption | omega))) ?_); (intro c9 t9 h9 tk9 hv9 F9 N9; (try dsimp only at hv9); (obtain hv9 | hv9 := hv9 <;> subst hv9); all_goals ((try k_sweep); (try dsimp only); (try k_fold))))) | (k_here; (with_reducible show wpAny _ _ (call (Value.ref 196) [Value.ref _, Value.ref _, Value.int _ _, Value.ref _, Value.ref _]) _ _ _); k_dflt ((first | refine' MeetsE.useG (by k_asm) (by k_asm) (by k_asm) (by k_asm) (by k_asm) (by exact rfl) (by exact rfl) (by tb_start) (by ktr_room) (by ktr_units) (c_gcd (by assumption) (by assumption) (by omega) (by omega) (by assumption) (by assumption) (by assumption)) ?_ | refine' MeetsE.useG (by k_asm) (by k_asm) (by k_asm) (by k_asm) (by k_asm) (by exact rfl) (by exact rfl) (by tb_start) (by ktr_room) (by ktr_units) (c_gcd0 (by assumption) (by omega) (by omega) (by assumption) (by assumption)) ?_); (intro d9 l9 v9 n9 a9 a8 b9 l8 v8 n8 h9 tk9 hv9 F9 N9; (try dsimp only at hv9); (obtain ⟨hg9, hs9⟩ := hv9); all_goals ((try k_sweep); (try dsimp only); (try k_fold))))) | (k_here; (with_reducible show wpAny _ _ (call (Value.ref 252) [Value.ref _, Value.ref _, Value.int _ _]) _ _ _); k_dflt ((first | refine' Meets.useLL (by k_asm) (by k_asm) (by k_asm) (by k_asm) (by k_asm) (by exact rfl) (by exact rfl) (by tb_start) (by ktr_room) (by ktr_units) (c_drs (by ktn_open) (by omega) (by omega) (by assumption) (by assumption)) ?_); (intro a9 l9 n9 vs9 k9 o9 ws9 h9 tk9 hv9 F9 N9 hne9 hnf9 hng9; (try dsimp only at hv9); (obtain ⟨hq9, hr9⟩ := hv9; replace hr9 := hr9.congr (by assumption)); all_goals ((try k_sweep); (try dsimp only); (try k_fold))))) | (k_here; (with_reducible show wpAny _ _ (call (Value.ref 266) [Value.int _ _, Value.int _ _]) _ _ _); k_dflt ((first | refine' Meets.useL (by k_asm) (by k_asm) (by k_asm) (by k_asm) (by k_asm) (by exact rfl) (by exact rfl) (by tb_start) (by ktr_room) (by ktr_units) (c_limbs1 (by omega) (by omega) (by assumption) (by assumption)) ?_); (intro l9 n9 vs9 h9 tk9 hv9 F9 N9 hne9; (try dsimp only at hv9); (obtain ⟨t9, e9⟩ := hv9; subst e9); all_goals ((try k_sweep); (try dsimp only); (try k_fold))))) | (k_unfold; (try dsimp only)) | (k_end; wrow_close) | walk1 | (dsimp only; walk1) | (leave1; (try dsimp only)) | fail "no step"))
  all_goals (try dsimp only)
  all_goals (iterate 6 (try (k_unfold; (try dsimp only))))
  all_goals ((rename KtsTurn _ _ _ => hT); (rename Fr _ _ _ _ => hF); exact leaveT_ hF hT rfl)
theorem c_linv0 {m wd : Int} {tx tw tm : Tok} (hm : 3 ≤ m) (hm' : m < 32) (hw : 5 ≤ wd) (hw' : wd ≤ 9) :
    MeetsT w mean mg mb 24 280 [.int 0 tx, .int m tm, .int wd tw] (fun c => c = 0) := by
  have hB := (pw hw hw').1
  have hxe : 0 % m = 0 := Int.zero_emod m
  w_top off; (k_dflt (refine' meetsT_of (binds := [(Str.ofString "number", .int 0 tx), (Str.ofString "modulus", .int m tm), (Str.ofString "w", .int wd tw)]) ?ho ?hcd ?hb ?hl ?h1 ?h2 ?h3 ?h4 ?h5 ?_; (case ho => k_is); (case hcd => k_is); (case hb => exact fun _ => BindsTo.of_eq rfl); (case hl => exact locs rfl); (case h1 => exact rfl); (case h2 => exact rfl); (case h3 => exact rfl); (case h4 => decide); (case h5 => decide)); intro dp un gd env base g L' h₁ s Er F N B X T XB TB KD hdp hun; (try dsimp only [List.reverse_cons, List.reverse_nil, List.nil_append, List.cons_append] at F); (try dsimp only); (try k_fold))
  (repeat' (first | (k_here; (with_reducible show wpAny _ _ (call (Value.ref 266) [Value.int 0 _, Value.int _ _]) _ _ _); k_dflt ((first | refine' Meets.useL (by k_asm) (by k_asm) (by k_asm) (by k_asm) (by k_asm) (by exact rfl) (by exact rfl) (by tb_start) (by ktr_room) (by ktr_units) (c_limbs (by decide) (by decide) (by assumption) (by assumption)) ?_); (intro l9 n9 vs9 h9 tk9 hv9 F9 N9 hne9; (try dsimp only at hv9); skip; all_goals ((try k_sweep); (try dsimp only); (try k_fold))))) | (k_here; (with_reducible show wpAny _ _ (call (Value.ref 266) [Value.int _ _, Value.int _ _]) _ _ _); k_dflt ((first | refine' Meets.useL (by k_asm) (by k_asm) (by k_asm) (by k_asm) (by k_asm) (by exact rfl) (by exact rfl) (by tb_start) (by ktr_room) (by ktr_units) (c_limbs1 (by omega) (by omega) (by assumption) (by assumption)) ?_); (intro l9 n9 vs9 h9 tk9 hv9 F9 N9 hne9; (try dsimp only at hv9); (obtain ⟨t9, e9⟩ := hv9; subst e9); all_goals ((try k_sweep); (try dsimp only); (try k_fold))))) | (k_here; (with_reducible show wpAny _ _ (call (Value.ref 77) [Value.ref _, Value.ref _]) _ _ _); k_dflt ((first | refine' Meets.useI (by k_asm) (by k_asm) (by k_asm) (by k_asm) (by k_asm) (by exact rfl) (by exact rfl) (by tb_start) (by ktr_room) (by ktr_units) (c_cmpN (by ktn_open) (by ktn_open) (by (first | assumption | omega))) ?_); (intro c9 t9 h9 tk9 hv9 F9 N9; (try dsimp only at hv9); (obtain hv9 | hv9 := hv9 <;> subst hv9); all_goals ((try k_sweep); (try dsimp only); (try k_fold))))) | (k_here; (with_reducible show wpAny _ _ (call (Value.ref 196) [Value.ref _, Value.ref _, Value.int _ _, Value.ref _, Value.ref _]) _ _ _); k_dflt ((first | refine' MeetsE.useG (by k_asm) (by k_asm) (by k_asm) (by k_asm) (by k_asm) (by exact rfl) (by exact rfl) (by tb_start) (by ktr_room) (by ktr_units) (c_gcd (by assumption) (by assumption) (by omega) (by omega) (by assumption) (by assumption) (by assumption)) ?_ | refine' MeetsE.useG (by k_asm) (by k_asm) (by k_asm) (by k_asm) (by k_asm) (by exact rfl) (by exact rfl) (by tb_start) (by ktr_room) (by ktr_units) (c_gcd0 (by assumption) (by omega) (by omega) (by assumption) (by assumption)) ?_); (intro d9 l9 v9 n9 a9 a8 b9 l8 v8 n8 h9 tk9 hv9 F9 N9; (try dsimp only at hv9); (obtain ⟨hg9, hs9⟩ := hv9); all_goals ((try k_sweep); (try dsimp only); (try k_fold))))) | (k_here; (with_reducible show wpAny _ _ (call (Value.ref 252) [Value.ref _, Value.ref _, Value.int _ _]) _ _ _); k_dflt ((first | refine' Meets.useLL (by k_asm) (by k_asm) (by k_asm) (by k_asm) (by k_asm) (by exact rfl) (by exact rfl) (by tb_start) (by ktr_room) (by ktr_units) (c_drs (by ktn_open) (by omega) (by omega) (by assumption) (by assumption)) ?_); (intro a9 l9 n9 vs9 k9 o9 ws9 h9 tk9 hv9 F9 N9 hne9 hnf9 hng9; (try dsimp only at hv9); (obtain ⟨hq9, hr9⟩ := hv9; replace hr9 := hr9.congr (by assumption)); all_goals ((try k_sweep); (try dsimp only); (try k_fold))))) | (k_here; (with_reducible show wpAny _ _ (call (Value.ref 266) [Value.int _ _, Value.int _ _]) _ _ _); k_dflt ((first | refine' Meets.useL (by k_asm) (by k_asm) (by k_asm) (by k_asm) (by k_asm) (by exact rfl) (by exact rfl) (by tb_start) (by ktr_room) (by ktr_units) (c_limbs1 (by omega) (by omega) (by assumption) (by assumption)) ?_); (intro l9 n9 vs9 h9 tk9 hv9 F9 N9 hne9; (try dsimp only at hv9); (obtain ⟨t9, e9⟩ := hv9; subst e9); all_goals ((try k_sweep); (try dsimp only); (try k_fold))))) | (k_unfold; (try dsimp only)) | (k_end; wrow_close) | walk1 | (dsimp only; walk1) | (leave1; (try dsimp only)) | fail "no step"))
  all_goals (try dsimp only)
  all_goals (iterate 6 (try (k_unfold; (try dsimp only))))
  all_goals ((rename KtsTurn _ _ _ => hT); (rename Fr _ _ _ _ => hF); exact leaveT_ hF hT rfl)
end
section
local macro_rules | `(tactic| walk_at "none of these") => `(tactic| fail)
theorem c_linv {x m wd : Int} {tx tw tm : Tok} (h0 : 0 ≤ x) (hxm : x < m) (hm : 3 ≤ m) (hm' : m ≤ 24) (hw : 5 ≤ wd) (hw' : wd ≤ 9) :
    MeetsT w mean mg mb 24 280 [.int x tx, .int m tm, .int wd tw] (fun c => c = inv x m) := by
  by_cases c : x = 0
  · subst c
    exact (c_linv0 hm (by omega) hw hw').mono fun _ e => by rw [e]; rfl
  · obtain ⟨g, z, e⟩ := gl_some (x := x) (m := m) (by omega) hxm hm'
    have ei : inv x m = if g = 1 then z % m else 0 := by unfold inv; rw [if_neg c, e]
    rw [ei]
    by_cases hg : g = 1
    · rw [if_pos hg]
      exact (c_linvA (by omega) hxm hm (by omega) e hg hw hw').toT
    · rw [if_neg hg]
      exact c_linvB (by omega) hxm hm (by omega) e hg hw hw'
end
section
theorem lawx : PySem.Challenge.rw_xm0441_01.Holds := by
  refine hd ?_
  w_strict k_go0
  all_goals try k_fold
  repeat' ((fail_if_success (with_reducible show wpAny _ _ (execs (Stmt.Assign [Expr.Tuple (Expr.Name (Str.ofString "w") _ :: _) _ _] _ _ :: _) _) _ _ _)); first | (k_here; (with_reducible show wpAny _ _ (call (Value.ref 252) [Value.ref _, Value.ref _, Value.int _ _]) _ _ _); k_dflt ((first | refine' Meets.useLL (by k_asm) (by k_asm) (by k_asm) (by k_asm) (by k_asm) (by exact rfl) (by exact rfl) (by tb_start) (by ktr_room) (by ktr_units) (c_drs (by ktn_open) (by omega) (by omega) (by assumption) (by assumption)) ?_); (intro a9 l9 n9 vs9 k9 o9 ws9 h9 tk9 hv9 F9 N9 hne9 hnf9 hng9; (try dsimp only at hv9); (obtain ⟨hq9, hr9⟩ := hv9); all_goals ((try k_sweep); (try dsimp only); (try k_fold))))) | (k_here; (with_reducible show wpAny _ _ (call (Value.ref 210) [Value.ref _, Value.ref _, Value.int _ _]) _ _ _); k_dflt ((first | refine' Meets.useL (by k_asm) (by k_asm) (by k_asm) (by k_asm) (by k_asm) (by exact rfl) (by exact rfl) (by tb_start) (by ktr_room) (by ktr_units) (c_mul (by ktn_open) (by ktn_open) (by assumption) (by assumption)) ?_); (intro l9 n9 vs9 h9 tk9 hv9 F9 N9 hne9; (try dsimp only at hv9); skip; all_goals ((try k_sweep); (try dsimp only); (try k_fold))))) | (k_here; (with_reducible show wpAny _ _ (call (Value.ref 266) [Value.int _ _, Value.int _ _]) _ _ _); k_dflt ((first | refine' Meets.useL (by k_asm) (by k_asm) (by k_asm) (by k_asm) (by k_asm) (by exact rfl) (by exact rfl) (by tb_start) (by ktr_room) (by ktr_units) (c_limbs1 (by omega) (by omega) (by assumption) (by assumption)) ?_); (intro l9 n9 vs9 h9 tk9 hv9 F9 N9 hne9; (try dsimp only at hv9); (obtain ⟨t9, e9⟩ := hv9; subst e9); all_goals ((try k_sweep); (try dsimp only); (try k_fold))))) | (k_here; (with_reducible show wpAny _ _ (call (Value.ref 266) [Value.int _ _, Value.int _ _]) _ _ _); k_dflt ((first | refine' Meets.useL (by k_asm) (by k_asm) (by k_asm) (by k_asm) (by k_asm) (by exact rfl) (by exact rfl) (by tb_start) (by ktr_room) (by ktr_units) (c_limbs (by omega) (by omega) (by assumption) (by assumption)) ?_); (intro l9 n9 vs9 h9 tk9 hv9 F9 N9 hne9; (try dsimp only at hv9); skip; all_goals ((try k_sweep); (try dsimp only); (try k_fold))))) | (k_here; (with_reducible show wpAny _ _ (call (Value.ref 280) [Value.int _ _, Value.int _ _, Value.int _ _]) _ _ _); k_dflt ((first | refine' MeetsT.useT (by k_asm) (by k_asm) (by k_asm) (by k_asm) (by k_asm) (by exact rfl) (by exact rfl) (by ktr_room) (by ktr_units) (c_linv (by omega) (by omega) (by omega) (by omega) (by omega) (by omega)) ?_); (intro c9 t9 h9 tk9 hp9 F9 N9; (try dsimp only at hp9); (subst hp9); all_goals ((try k_sweep); (try dsimp only); (try k_fold))))) | (k_unfold; (try dsimp only)) | (k_end; wrow_close) | walk1 | (dsimp only; walk1) | (leave1; (try dsimp only)))
  k_dflt (refine' law_split (by k_asm) ?stAx1 ?stBx1)
  case stAx1 =>
    (try k_fold)
    (repeat' (first | (k_here; (with_reducible show wpAny _ _ (call (Value.ref 252) [Value.ref _, Value.ref _, Value.int _ _]) _ _ _); k_dflt ((first | refine' Meets.useLL (by k_asm) (by k_asm) (by k_asm) (by k_asm) (by k_asm) (by exact rfl) (by exact rfl) (by tb_start) (by ktr_room) (by ktr_units) (c_drs (by ktn_open) (by omega) (by omega) (by assumption) (by assumption)) ?_); (intro a9 l9 n9 vs9 k9 o9 ws9 h9 tk9 hv9 F9 N9 hne9 hnf9 hng9; (try dsimp only at hv9); (obtain ⟨hq9, hr9⟩ := hv9); all_goals ((try k_sweep); (try dsimp only); (try k_fold))))) | (k_here; (with_reducible show wpAny _ _ (call (Value.ref 210) [Value.ref _, Value.ref _, Value.int _ _]) _ _ _); k_dflt ((first | refine' Meets.useL (by k_asm) (by k_asm) (by k_asm) (by k_asm) (by k_asm) (by exact rfl) (by exact rfl) (by tb_start) (by ktr_room) (by ktr_units) (c_mul (by ktn_open) (by ktn_open) (by assumption) (by assumption)) ?_); (intro l9 n9 vs9 h9 tk9 hv9 F9 N9 hne9; (try dsimp only at hv9); skip; all_goals ((try k_sweep); (try dsimp only); (try k_fold))))) | (k_here; (with_reducible show wpAny _ _ (call (Value.ref 266) [Value.int _ _, Value.int _ _]) _ _ _); k_dflt ((first | refine' Meets.useL (by k_asm) (by k_asm) (by k_asm) (by k_asm) (by k_asm) (by exact rfl) (by exact rfl) (by tb_start) (by ktr_room) (by ktr_units) (c_limbs1 (by omega) (by omega) (by assumption) (by assumption)) ?_); (intro l9 n9 vs9 h9 tk9 hv9 F9 N9 hne9; (try dsimp only at hv9); (obtain ⟨t9, e9⟩ := hv9; subst e9); all_goals ((try k_sweep); (try dsimp only); (try k_fold))))) | (k_here; (with_reducible show wpAny _ _ (call (Value.ref 266) [Value.int _ _, Value.int _ _]) _ _ _); k_dflt ((first | refine' Meets.useL (by k_asm) (by k_asm) (by k_asm) (by k_asm) (by k_asm) (by exact rfl) (by exact rfl) (by tb_start) (by ktr_room) (by ktr_units) (c_limbs (by omega) (by omega) (by assumption) (by assumption)) ?_); (intro l9 n9 vs9 h9 tk9 hv9 F9 N9 hne9; (try dsimp only at hv9); skip; all_goals ((try k_sweep); (try dsimp only); (try k_fold))))) | (k_here; (with_reducible show wpAny _ _ (call (Value.ref 280) [Value.int _ _, Value.int _ _, Value.int _ _]) _ _ _); k_dflt ((first | refine' MeetsT.useT (by k_asm) (by k_asm) (by k_asm) (by k_asm) (by k_asm) (by exact rfl) (by exact rfl) (by ktr_room) (by ktr_units) (c_linv (by omega) (by omega) (by omega) (by omega) (by omega) (by omega)) ?_); (intro c9 t9 h9 tk9 hp9 F9 N9; (try dsimp only at hp9); (subst hp9); all_goals ((try k_sweep); (try dsimp only); (try k_fold))))) | (k_unfold; (try dsimp only)) | (k_end; wrow_close) | walk1 | (dsimp only; walk1) | (leave1; (try dsimp only)) | fail "no step"))
    all_goals (first | (exfalso; omega) | skip)
    all_goals ((rename Fr _ _ _ _ => hF); (rename News _ _ _ _ => hN); k_dflt (refine li_intro hF hN (by tb_start) (by assumption) (by assumption) (by assumption) (fm5 _).1 (fm5 _).2 (fm22 _).1 (fm22 _).2))
  case stBx1 =>
    rintro s' ⟨wd, md, tw, tm, h, tk, m', oW, oM, oN, cv, rfl, F, N, e1, e2, e3, h5, h9, h3, h24⟩
    (try k_fold)
    repeat' ((fail_if_success (with_reducible show wpAny _ _ (execs (Stmt.Assign [Expr.Tuple (Expr.Name (Str.ofString "row") _ :: _) _ _] _ _ :: _) _) _ _ _)); first | (k_here; (with_reducible show wpAny _ _ (call (Value.ref 252) [Value.ref _, Value.ref _, Value.int _ _]) _ _ _); k_dflt ((first | refine' Meets.useLL (by k_asm) (by k_asm) (by k_asm) (by k_asm) (by k_asm) (by exact rfl) (by exact rfl) (by tb_start) (by ktr_room) (by ktr_units) (c_drs (by ktn_open) (by omega) (by omega) (by assumption) (by assumption)) ?_); (intro a9 l9 n9 vs9 k9 o9 ws9 h9 tk9 hv9 F9 N9 hne9 hnf9 hng9; (try dsimp only at hv9); (obtain ⟨hq9, hr9⟩ := hv9); all_goals ((try k_sweep); (try dsimp only); (try k_fold))))) | (k_here; (with_reducible show wpAny _ _ (call (Value.ref 210) [Value.ref _, Value.ref _, Value.int _ _]) _ _ _); k_dflt ((first | refine' Meets.useL (by k_asm) (by k_asm) (by k_asm) (by k_asm) (by k_asm) (by exact rfl) (by exact rfl) (by tb_start) (by ktr_room) (by ktr_units) (c_mul (by ktn_open) (by ktn_open) (by assumption) (by assumption)) ?_); (intro l9 n9 vs9 h9 tk9 hv9 F9 N9 hne9; (try dsimp only at hv9); skip; all_goals ((try k_sweep); (try dsimp only); (try k_fold))))) | (k_here; (with_reducible show wpAny _ _ (call (Value.ref 266) [Value.int _ _, Value.int _ _]) _ _ _); k_dflt ((first | refine' Meets.useL (by k_asm) (by k_asm) (by k_asm) (by k_asm) (by k_asm) (by exact rfl) (by exact rfl) (by tb_start) (by ktr_room) (by ktr_units) (c_limbs1 (by omega) (by omega) (by assumption) (by assumption)) ?_); (intro l9 n9 vs9 h9 tk9 hv9 F9 N9 hne9; (try dsimp only at hv9); (obtain ⟨t9, e9⟩ := hv9; subst e9); all_goals ((try k_sweep); (try dsimp only); (try k_fold))))) | (k_here; (with_reducible show wpAny _ _ (call (Value.ref 266) [Value.int _ _, Value.int _ _]) _ _ _); k_dflt ((first | refine' Meets.useL (by k_asm) (by k_asm) (by k_asm) (by k_asm) (by k_asm) (by exact rfl) (by exact rfl) (by tb_start) (by ktr_room) (by ktr_units) (c_limbs (by omega) (by omega) (by assumption) (by assumption)) ?_); (intro l9 n9 vs9 h9 tk9 hv9 F9 N9 hne9; (try dsimp only at hv9); skip; all_goals ((try k_sweep); (try dsimp only); (try k_fold))))) | (k_here; (with_reducible show wpAny _ _ (call (Value.ref 280) [Value.int _ _, Value.int _ _, Value.int _ _]) _ _ _); k_dflt ((first | refine' MeetsT.useT (by k_asm) (by k_asm) (by k_asm) (by k_asm) (by k_asm) (by exact rfl) (by exact rfl) (by ktr_room) (by ktr_units) (c_linv (by omega) (by omega) (by omega) (by omega) (by omega) (by omega)) ?_); (intro c9 t9 h9 tk9 hp9 F9 N9; (try dsimp only at hp9); (subst hp9); all_goals ((try k_sweep); (try dsimp only); (try k_fold))))) | (k_unfold; (try dsimp only)) | (k_end; wrow_close) | walk1 | (dsimp only; walk1) | (leave1; (try dsimp only)))
    repeat' ((fail_if_success (with_reducible show wpAny _ _ (execs (Stmt.For _ _ _ _ _ :: _) _) _ _ _)); first | (k_here; (with_reducible show wpAny _ _ (call (Value.ref 252) [Value.ref _, Value.ref _, Value.int _ _]) _ _ _); k_dflt ((first | refine' Meets.useLL (by k_asm) (by k_asm) (by k_asm) (by k_asm) (by k_asm) (by exact rfl) (by exact rfl) (by tb_start) (by ktr_room) (by ktr_units) (c_drs (by ktn_open) (by omega) (by omega) (by assumption) (by assumption)) ?_); (intro a9 l9 n9 vs9 k9 o9 ws9 h9 tk9 hv9 F9 N9 hne9 hnf9 hng9; (try dsimp only at hv9); (obtain ⟨hq9, hr9⟩ := hv9); all_goals ((try k_sweep); (try dsimp only); (try k_fold))))) | (k_here; (with_reducible show wpAny _ _ (call (Value.ref 210) [Value.ref _, Value.ref _, Value.int _ _]) _ _ _); k_dflt ((first | refine' Meets.useL (by k_asm) (by k_asm) (by k_asm) (by k_asm) (by k_asm) (by exact rfl) (by exact rfl) (by tb_start) (by ktr_room) (by ktr_units) (c_mul (by ktn_open) (by ktn_open) (by assumption) (by assumption)) ?_); (intro l9 n9 vs9 h9 tk9 hv9 F9 N9 hne9; (try dsimp only at hv9); skip; all_goals ((try k_sweep); (try dsimp only); (try k_fold))))) | (k_here; (with_reducible show wpAny _ _ (call (Value.ref 266) [Value.int _ _, Value.int _ _]) _ _ _); k_dflt ((first | refine' Meets.useL (by k_asm) (by k_asm) (by k_asm) (by k_asm) (by k_asm) (by exact rfl) (by exact rfl) (by tb_start) (by ktr_room) (by ktr_units) (c_limbs1 (by omega) (by omega) (by assumption) (by assumption)) ?_); (intro l9 n9 vs9 h9 tk9 hv9 F9 N9 hne9; (try dsimp only at hv9); (obtain ⟨t9, e9⟩ := hv9; subst e9); all_goals ((try k_sweep); (try dsimp only); (try k_fold))))) | (k_here; (with_reducible show wpAny _ _ (call (Value.ref 266) [Value.int _ _, Value.int _ _]) _ _ _); k_dflt ((first | refine' Meets.useL (by k_asm) (by k_asm) (by k_asm) (by k_asm) (by k_asm) (by exact rfl) (by exact rfl) (by tb_start) (by ktr_room) (by ktr_units) (c_limbs (by omega) (by omega) (by assumption) (by assumption)) ?_); (intro l9 n9 vs9 h9 tk9 hv9 F9 N9 hne9; (try dsimp only at hv9); skip; all_goals ((try k_sweep); (try dsimp only); (try k_fold))))) | (k_here; (with_reducible show wpAny _ _ (call (Value.ref 280) [Value.int _ _, Value.int _ _, Value.int _ _]) _ _ _); k_dflt ((first | refine' MeetsT.useT (by k_asm) (by k_asm) (by k_asm) (by k_asm) (by k_asm) (by exact rfl) (by exact rfl) (by ktr_room) (by ktr_units) (c_linv (by omega) (by omega) (by omega) (by omega) (by omega) (by omega)) ?_); (intro c9 t9 h9 tk9 hp9 F9 N9; (try dsimp only at hp9); (subst hp9); all_goals ((try k_sweep); (try dsimp only); (try k_fold))))) | (k_unfold; (try dsimp only)) | walk1 | (dsimp only; walk1))
    (rename Fr _ _ _ _ => lF')
    (rename News _ _ _ _ => lN')
    k_dflt (refine' law_split2 (md := md) (oW := oW) (oM := oM) lF' ?stCx1 ?stDx1)
    case stCx1 =>
      (try k_fold)
      (with_unfolding_all refine' For_turns lF' ?_)
      repeat' ((fail_if_success (with_reducible show wpAny _ _ (pyIter _) _ _ _)); first | (k_here; (with_reducible show wpAny _ _ (call (Value.ref 252) [Value.ref _, Value.ref _, Value.int _ _]) _ _ _); k_dflt ((first | refine' Meets.useLL (by k_asm) (by k_asm) (by k_asm) (by k_asm) (by k_asm) (by exact rfl) (by exact rfl) (by tb_start) (by ktr_room) (by ktr_units) (c_drs (by ktn_open) (by omega) (by omega) (by assumption) (by assumption)) ?_); (intro a9 l9 n9 vs9 k9 o9 ws9 h9 tk9 hv9 F9 N9 hne9 hnf9 hng9; (try dsimp only at hv9); (obtain ⟨hq9, hr9⟩ := hv9); all_goals ((try k_sweep); (try dsimp only); (try k_fold))))) | (k_here; (with_reducible show wpAny _ _ (call (Value.ref 210) [Value.ref _, Value.ref _, Value.int _ _]) _ _ _); k_dflt ((first | refine' Meets.useL (by k_asm) (by k_asm) (by k_asm) (by k_asm) (by k_asm) (by exact rfl) (by exact rfl) (by tb_start) (by ktr_room) (by ktr_units) (c_mul (by ktn_open) (by ktn_open) (by assumption) (by assumption)) ?_); (intro l9 n9 vs9 h9 tk9 hv9 F9 N9 hne9; (try dsimp only at hv9); skip; all_goals ((try k_sweep); (try dsimp only); (try k_fold))))) | (k_here; (with_reducible show wpAny _ _ (call (Value.ref 266) [Value.int _ _, Value.int _ _]) _ _ _); k_dflt ((first | refine' Meets.useL (by k_asm) (by k_asm) (by k_asm) (by k_asm) (by k_asm) (by exact rfl) (by exact rfl) (by tb_start) (by ktr_room) (by ktr_units) (c_limbs1 (by omega) (by omega) (by assumption) (by assumption)) ?_); (intro l9 n9 vs9 h9 tk9 hv9 F9 N9 hne9; (try dsimp only at hv9); (obtain ⟨t9, e9⟩ := hv9; subst e9); all_goals ((try k_sweep); (try dsimp only); (try k_fold))))) | (k_here; (with_reducible show wpAny _ _ (call (Value.ref 266) [Value.int _ _, Value.int _ _]) _ _ _); k_dflt ((first | refine' Meets.useL (by k_asm) (by k_asm) (by k_asm) (by k_asm) (by k_asm) (by exact rfl) (by exact rfl) (by tb_start) (by ktr_room) (by ktr_units) (c_limbs (by omega) (by omega) (by assumption) (by assumption)) ?_); (intro l9 n9 vs9 h9 tk9 hv9 F9 N9 hne9; (try dsimp only at hv9); skip; all_goals ((try k_sweep); (try dsimp only); (try k_fold))))) | (k_here; (with_reducible show wpAny _ _ (call (Value.ref 280) [Value.int _ _, Value.int _ _, Value.int _ _]) _ _ _); k_dflt ((first | refine' MeetsT.useT (by k_asm) (by k_asm) (by k_asm) (by k_asm) (by k_asm) (by exact rfl) (by exact rfl) (by ktr_room) (by ktr_units) (c_linv (by omega) (by omega) (by omega) (by omega) (by omega) (by omega)) ?_); (intro c9 t9 h9 tk9 hp9 F9 N9; (try dsimp only at hp9); (subst hp9); all_goals ((try k_sweep); (try dsimp only); (try k_fold))))) | (k_unfold; (try dsimp only)) | walk1 | (dsimp only; walk1))
      (rename Fr _ _ _ _ => lF2)
      (rename News _ _ _ _ => lN2)
      (rename IsRange _ _ _ _ _ _ _ _ => rgX)
      have hsm : Builtin.Range.small 0 md 1 = true := small_one (by decide) (by decide) (by omega) (by omega)
      k_dflt (with_unfolding_all refine' iter_rangeL (n := (md - 0).toNat) (fun i m nx => LJ _ md oW oM _ ys i m nx) (by rfl) (by first | exact rgX | assumption) hsm (by exact rangeSize_nat _ _) lF2 lN2 (by rfl) ?initx1 ?turnx1 ?donex1)
      case initx1 => 
        k_dflt (refine' ⟨⟨_, _, _, _, _, _, _, ?u1x1, rfl, rfl, rfl, rfl, ?u2x1, ?M2x1⟩⟩)
        case M2x1 => tb_start
        case u2x1 => assumption
        case u1x1 => exact (show Lim (1 : Int) _ from Lim.one _ (by decide) (by decide))
      case donex1 =>
        rintro m₁ nx h' tk' hJ F' N'
        exact ⟨rfl, _, _, _, _, rfl, F', N', by rw [Int.sub_zero] at hJ; exact hJ⟩
      case turnx1 =>
        clear lF2 lN2 rgX hsm
        rintro i I t m₁ nx h' tk' o hi ⟨D, va, nr, oN', cv', th, to, hva, e4, e5, e6, e7, e8, hM⟩ hoI hcl F₁ N₁
        rw [lm_eq e4 e5 e6 e7] at F₁
        have N₂ : News _ _ _ (_ :: _) := fun p hp => N₁ p ((List.mem_cons.mp hp).elim (fun e => e ▸ List.mem_cons_self ..) fun q => List.mem_cons_of_mem _ (hM p q))
        have hoJ := fun p hp => hoI p (hM p hp)
        simp only [List.forall_mem_cons, List.not_mem_nil, false_implies, implies_true, and_true] at hoJ
        obtain ⟨hA1, hA2, hA3, hA4, hA5⟩ := hoJ
        clear N₁ hM hoI e4 e5 e6 e7
        generalize m₁ = mm' at F₁
        (repeat ((rename (@Ne Nat _ _) ∧ _ => hz9); clear hz9))
        (repeat ((rename (_ < _) ∧ (_ < _) ∧ (_ < _) => hz9); clear hz9))
        have hI3 := ne_nat hA3
        have hD3 := ne_cell N₂ (a := D) (by k_mem) (by k_mem) e8 (by intro v e; cases e)
        have hT3 := ne_cell N₂ (oa := LCg.lst ys) (by k_mem) (by k_mem) e8 (by intro v e; cases e)
        as_aux_lemma =>
          w_top off
          (try k_fold)
          repeat' ((fail_if_success (with_reducible show wpAny _ _ (execs _ _) _ _ _)); first | (k_here; (with_reducible show wpAny _ _ (call (Value.ref 252) [Value.ref _, Value.ref _, Value.int _ _]) _ _ _); k_dflt ((first | refine' Meets.useLL (by k_asm) (by k_asm) (by k_asm) (by k_asm) (by k_asm) (by exact rfl) (by exact rfl) (by tb_start) (by ktr_room) (by ktr_units) (c_drs (by ktn_open) (by omega) (by omega) (by assumption) (by assumption)) ?_); (intro a9 l9 n9 vs9 k9 o9 ws9 h9 tk9 hv9 F9 N9 hne9 hnf9 hng9; (try dsimp only at hv9); (obtain ⟨hq9, hr9⟩ := hv9); all_goals ((try k_sweep); (try dsimp only); (try k_fold))))) | (k_here; (with_reducible show wpAny _ _ (call (Value.ref 210) [Value.ref _, Value.ref _, Value.int _ _]) _ _ _); k_dflt ((first | refine' Meets.useL (by k_asm) (by k_asm) (by k_asm) (by k_asm) (by k_asm) (by exact rfl) (by exact rfl) (by tb_start) (by ktr_room) (by ktr_units) (c_mul (by ktn_open) (by ktn_open) (by assumption) (by assumption)) ?_); (intro l9 n9 vs9 h9 tk9 hv9 F9 N9 hne9; (try dsimp only at hv9); skip; all_goals ((try k_sweep); (try dsimp only); (try k_fold))))) | (k_here; (with_reducible show wpAny _ _ (call (Value.ref 266) [Value.int _ _, Value.int _ _]) _ _ _); k_dflt ((first | refine' Meets.useL (by k_asm) (by k_asm) (by k_asm) (by k_asm) (by k_asm) (by exact rfl) (by exact rfl) (by tb_start) (by ktr_room) (by ktr_units) (c_limbs1 (by omega) (by omega) (by assumption) (by assumption)) ?_); (intro l9 n9 vs9 h9 tk9 hv9 F9 N9 hne9; (try dsimp only at hv9); (obtain ⟨t9, e9⟩ := hv9; subst e9); all_goals ((try k_sweep); (try dsimp only); (try k_fold))))) | (k_here; (with_reducible show wpAny _ _ (call (Value.ref 266) [Value.int _ _, Value.int _ _]) _ _ _); k_dflt ((first | refine' Meets.useL (by k_asm) (by k_asm) (by k_asm) (by k_asm) (by k_asm) (by exact rfl) (by exact rfl) (by tb_start) (by ktr_room) (by ktr_units) (c_limbs (by omega) (by omega) (by assumption) (by assumption)) ?_); (intro l9 n9 vs9 h9 tk9 hv9 F9 N9 hne9; (try dsimp only at hv9); skip; all_goals ((try k_sweep); (try dsimp only); (try k_fold))))) | (k_here; (with_reducible show wpAny _ _ (call (Value.ref 280) [Value.int _ _, Value.int _ _, Value.int _ _]) _ _ _); k_dflt ((first | refine' MeetsT.useT (by k_asm) (by k_asm) (by k_asm) (by k_asm) (by k_asm) (by exact rfl) (by exact rfl) (by ktr_room) (by ktr_units) (c_linv (by omega) (by omega) (by omega) (by omega) (by omega) (by omega)) ?_); (intro c9 t9 h9 tk9 hp9 F9 N9; (try dsimp only at hp9); (subst hp9); all_goals ((try k_sweep); (try dsimp only); (try k_fold))))) | (k_unfold; (try dsimp only)) | walk1 | (dsimp only; walk1))
          clear hI3 hD3 hT3
          repeat' ((fail_if_success (with_reducible show wpAny _ _ (eval (Expr.ListComp _ _ _ _) _) _ _ _)); first | (k_here; (with_reducible show wpAny _ _ (call (Value.ref 252) [Value.ref _, Value.ref _, Value.int _ _]) _ _ _); k_dflt ((first | refine' Meets.useLL (by k_asm) (by k_asm) (by k_asm) (by k_asm) (by k_asm) (by exact rfl) (by exact rfl) (by tb_start) (by ktr_room) (by ktr_units) (c_drs (by ktn_open) (by omega) (by omega) (by assumption) (by assumption)) ?_); (intro a9 l9 n9 vs9 k9 o9 ws9 h9 tk9 hv9 F9 N9 hne9 hnf9 hng9; (try dsimp only at hv9); (obtain ⟨hq9, hr9⟩ := hv9); all_goals ((try k_sweep); (try dsimp only); (try k_fold))))) | (k_here; (with_reducible show wpAny _ _ (call (Value.ref 210) [Value.ref _, Value.ref _, Value.int _ _]) _ _ _); k_dflt ((first | refine' Meets.useL (by k_asm) (by k_asm) (by k_asm) (by k_asm) (by k_asm) (by exact rfl) (by exact rfl) (by tb_start) (by ktr_room) (by ktr_units) (c_mul (by ktn_open) (by ktn_open) (by assumption) (by assumption)) ?_); (intro l9 n9 vs9 h9 tk9 hv9 F9 N9 hne9; (try dsimp only at hv9); skip; all_goals ((try k_sweep); (try dsimp only); (try k_fold))))) | (k_here; (with_reducible show wpAny _ _ (call (Value.ref 266) [Value.int _ _, Value.int _ _]) _ _ _); k_dflt ((first | refine' Meets.useL (by k_asm) (by k_asm) (by k_asm) (by k_asm) (by k_asm) (by exact rfl) (by exact rfl) (by tb_start) (by ktr_room) (by ktr_units) (c_limbs1 (by omega) (by omega) (by assumption) (by assumption)) ?_); (intro l9 n9 vs9 h9 tk9 hv9 F9 N9 hne9; (try dsimp only at hv9); (obtain ⟨t9, e9⟩ := hv9; subst e9); all_goals ((try k_sweep); (try dsimp only); (try k_fold))))) | (k_here; (with_reducible show wpAny _ _ (call (Value.ref 266) [Value.int _ _, Value.int _ _]) _ _ _); k_dflt ((first | refine' Meets.useL (by k_asm) (by k_asm) (by k_asm) (by k_asm) (by k_asm) (by exact rfl) (by exact rfl) (by tb_start) (by ktr_room) (by ktr_units) (c_limbs (by omega) (by omega) (by assumption) (by assumption)) ?_); (intro l9 n9 vs9 h9 tk9 hv9 F9 N9 hne9; (try dsimp only at hv9); skip; all_goals ((try k_sweep); (try dsimp only); (try k_fold))))) | (k_here; (with_reducible show wpAny _ _ (call (Value.ref 280) [Value.int _ _, Value.int _ _, Value.int _ _]) _ _ _); k_dflt ((first | refine' MeetsT.useT (by k_asm) (by k_asm) (by k_asm) (by k_asm) (by k_asm) (by exact rfl) (by exact rfl) (by ktr_room) (by ktr_units) (c_linv (by omega) (by omega) (by omega) (by omega) (by omega) (by omega)) ?_); (intro c9 t9 h9 tk9 hp9 F9 N9; (try dsimp only at hp9); (subst hp9); all_goals ((try k_sweep); (try dsimp only); (try k_fold))))) | (k_unfold; (try dsimp only)) | walk1 | (dsimp only; walk1))
          as_aux_lemma =>
            w_top off
            lcg_calm; k_dflt (refine LCt.ListComp_T (F₀ := by k_asm) (by with_unfolding_all rfl) (by decide) (by rfl) (by decide) (by rfl) ?_)
            repeat' ((fail_if_success (with_reducible show LCt.CompSrcT _ _ _ _ _ _ _ _ _ _ _ _ _ _ _)); first | (k_here; (with_reducible show wpAny _ _ (call (Value.ref 252) [Value.ref _, Value.ref _, Value.int _ _]) _ _ _); k_dflt ((first | refine' Meets.useLL (by k_asm) (by k_asm) (by k_asm) (by k_asm) (by k_asm) (by exact rfl) (by exact rfl) (by tb_start) (by ktr_room) (by ktr_units) (c_drs (by ktn_open) (by omega) (by omega) (by assumption) (by assumption)) ?_); (intro a9 l9 n9 vs9 k9 o9 ws9 h9 tk9 hv9 F9 N9 hne9 hnf9 hng9; (try dsimp only at hv9); (obtain ⟨hq9, hr9⟩ := hv9); all_goals ((try k_sweep); (try dsimp only); (try k_fold))))) | (k_here; (with_reducible show wpAny _ _ (call (Value.ref 210) [Value.ref _, Value.ref _, Value.int _ _]) _ _ _); k_dflt ((first | refine' Meets.useL (by k_asm) (by k_asm) (by k_asm) (by k_asm) (by k_asm) (by exact rfl) (by exact rfl) (by tb_start) (by ktr_room) (by ktr_units) (c_mul (by ktn_open) (by ktn_open) (by assumption) (by assumption)) ?_); (intro l9 n9 vs9 h9 tk9 hv9 F9 N9 hne9; (try dsimp only at hv9); skip; all_goals ((try k_sweep); (try dsimp only); (try k_fold))))) | (k_here; (with_reducible show wpAny _ _ (call (Value.ref 266) [Value.int _ _, Value.int _ _]) _ _ _); k_dflt ((first | refine' Meets.useL (by k_asm) (by k_asm) (by k_asm) (by k_asm) (by k_asm) (by exact rfl) (by exact rfl) (by tb_start) (by ktr_room) (by ktr_units) (c_limbs1 (by omega) (by omega) (by assumption) (by assumption)) ?_); (intro l9 n9 vs9 h9 tk9 hv9 F9 N9 hne9; (try dsimp only at hv9); (obtain ⟨t9, e9⟩ := hv9; subst e9); all_goals ((try k_sweep); (try dsimp only); (try k_fold))))) | (k_here; (with_reducible show wpAny _ _ (call (Value.ref 266) [Value.int _ _, Value.int _ _]) _ _ _); k_dflt ((first | refine' Meets.useL (by k_asm) (by k_asm) (by k_asm) (by k_asm) (by k_asm) (by exact rfl) (by exact rfl) (by tb_start) (by ktr_room) (by ktr_units) (c_limbs (by omega) (by omega) (by assumption) (by assumption)) ?_); (intro l9 n9 vs9 h9 tk9 hv9 F9 N9 hne9; (try dsimp only at hv9); skip; all_goals ((try k_sweep); (try dsimp only); (try k_fold))))) | (k_here; (with_reducible show wpAny _ _ (call (Value.ref 280) [Value.int _ _, Value.int _ _, Value.int _ _]) _ _ _); k_dflt ((first | refine' MeetsT.useT (by k_asm) (by k_asm) (by k_asm) (by k_asm) (by k_asm) (by exact rfl) (by exact rfl) (by ktr_room) (by ktr_units) (c_linv (by omega) (by omega) (by omega) (by omega) (by omega) (by omega)) ?_); (intro c9 t9 h9 tk9 hp9 F9 N9; (try dsimp only at hp9); (subst hp9); all_goals ((try k_sweep); (try dsimp only); (try k_fold))))) | (k_unfold; (try dsimp only)) | walk1 | (dsimp only; walk1))
            as_aux_lemma =>
              w_top off
              (rename IsRange _ _ _ _ _ _ _ _ => rgX)
              (rename Fr _ _ _ _ => lF2)
              (rename News _ _ _ _ => lN2)
              have hsm : Builtin.Range.small 2 ((i : Int) + 1) 1 = true := small_one (by decide) (by decide) (by omega) (by omega)
              k_dflt (refine' LCt.CompSrcT.range (n := ((i : Int) + 1 - 2).toNat) (by rfl) lF2 lN2 (by exact rgX) hsm (rangeSize_nat _ _) (by rw [PySem.sizeLine_eq]; omega) ?rtx4)
              intro g'
              clear rgX lF2 lN2 hsm
              k_dflt (refine' kci_range (GA i md) (fun k' t' I' oI' C' oC' D' m' ys' l' h' tk' E' hlo' hhi' hI' hC' hx' F' N' off' ne' => ?trnx4) ?fnnx4 ?hggx4)
              all_goals (try ((show KPfMark → _); intro hMark'))
              case hggx4 => exact ga_grows _ _
              case trnx4 =>
                as_aux_lemma =>
                  w_top off
                  clear hA1 hA2 hA3 hA4 hA5 ne'
                  (try k_fold)
                  repeat' ((fail_if_success (with_reducible show LCg.CompEnd _ _ _ _ _ _ _ _ _ _ _ _ _ _)); first | (k_here; (with_reducible show wpAny _ _ (call (Value.ref 252) [Value.ref _, Value.ref _, Value.int _ _]) _ _ _); k_dflt ((first | refine' Meets.useLL (by k_asm) (by k_asm) (by k_asm) (by k_asm) (by k_asm) (by exact rfl) (by exact rfl) (by tb_start) (by ktr_room) (by ktr_units) (c_drs (by ktn_open) (by omega) (by omega) (by assumption) (by assumption)) ?_); (intro a9 l9 n9 vs9 k9 o9 ws9 h9 tk9 hv9 F9 N9 hne9 hnf9 hng9; (try dsimp only at hv9); (obtain ⟨hq9, hr9⟩ := hv9); all_goals ((try k_sweep); (try dsimp only); (try k_fold))))) | (k_here; (with_reducible show wpAny _ _ (call (Value.ref 210) [Value.ref _, Value.ref _, Value.int _ _]) _ _ _); k_dflt ((first | refine' Meets.useL (by k_asm) (by k_asm) (by k_asm) (by k_asm) (by k_asm) (by exact rfl) (by exact rfl) (by tb_start) (by ktr_room) (by ktr_units) (c_mul (by ktn_open) (by ktn_open) (by assumption) (by assumption)) ?_); (intro l9 n9 vs9 h9 tk9 hv9 F9 N9 hne9; (try dsimp only at hv9); skip; all_goals ((try k_sweep); (try dsimp only); (try k_fold))))) | (k_here; (with_reducible show wpAny _ _ (call (Value.ref 266) [Value.int _ _, Value.int _ _]) _ _ _); k_dflt ((first | refine' Meets.useL (by k_asm) (by k_asm) (by k_asm) (by k_asm) (by k_asm) (by exact rfl) (by exact rfl) (by tb_start) (by ktr_room) (by ktr_units) (c_limbs1 (by omega) (by omega) (by assumption) (by assumption)) ?_); (intro l9 n9 vs9 h9 tk9 hv9 F9 N9 hne9; (try dsimp only at hv9); (obtain ⟨t9, e9⟩ := hv9; subst e9); all_goals ((try k_sweep); (try dsimp only); (try k_fold))))) | (k_here; (with_reducible show wpAny _ _ (call (Value.ref 266) [Value.int _ _, Value.int _ _]) _ _ _); k_dflt ((first | refine' Meets.useL (by k_asm) (by k_asm) (by k_asm) (by k_asm) (by k_asm) (by exact rfl) (by exact rfl) (by tb_start) (by ktr_room) (by ktr_units) (c_limbs (by omega) (by omega) (by assumption) (by assumption)) ?_); (intro l9 n9 vs9 h9 tk9 hv9 F9 N9 hne9; (try dsimp only at hv9); skip; all_goals ((try k_sweep); (try dsimp only); (try k_fold))))) | (k_here; (with_reducible show wpAny _ _ (call (Value.ref 280) [Value.int _ _, Value.int _ _, Value.int _ _]) _ _ _); k_dflt ((first | refine' MeetsT.useT (by k_asm) (by k_asm) (by k_asm) (by k_asm) (by k_asm) (by exact rfl) (by exact rfl) (by ktr_room) (by ktr_units) (c_linv (by omega) (by omega) (by omega) (by omega) (by omega) (by omega)) ?_); (intro c9 t9 h9 tk9 hp9 F9 N9; (try dsimp only at hp9); (subst hp9); all_goals ((try k_sweep); (try dsimp only); (try k_fold))))) | (k_unfold; (try dsimp only)) | walk1 | (dsimp only; walk1))
                  all_goals ((rename Fr _ _ _ _ => lF9); (rename News _ _ _ _ => lN9))
                  all_goals first
                    | exact ⟨_, _, _, rfl, lF9, lN9, off', True.intro, rfl, _, _, rfl, if_pos ⟨by assumption, by assumption⟩⟩
                    | exact ⟨_, _, _, rfl, lF9, lN9, off', True.intro, rfl, if_neg fun e9 => (by assumption : ¬ _) e9.1⟩
                    | exact ⟨_, _, _, rfl, lF9, lN9, off', True.intro, rfl, if_neg fun e9 => (by assumption : ¬ _) e9.2⟩
              case fnnx4 =>
                as_aux_lemma =>
                  w_top off
                  intro ys hIx hlx D9 h9 tk9 F9 N9 off9
                  change IntsAre ys (shared i md) at hIx
                  clear hlx
                  (try k_fold)
                  repeat' ((fail_if_success (with_reducible show wpAny _ _ (compareOp _ _ _) _ _ _)); first | (k_here; (with_reducible show wpAny _ _ (call (Value.ref 252) [Value.ref _, Value.ref _, Value.int _ _]) _ _ _); k_dflt ((first | refine' Meets.useLL (by k_asm) (by k_asm) (by k_asm) (by k_asm) (by k_asm) (by exact rfl) (by exact rfl) (by tb_start) (by ktr_room) (by ktr_units) (c_drs (by ktn_open) (by omega) (by omega) (by assumption) (by assumption)) ?_); (intro a9 l9 n9 vs9 k9 o9 ws9 h9 tk9 hv9 F9 N9 hne9 hnf9 hng9; (try dsimp only at hv9); (obtain ⟨hq9, hr9⟩ := hv9); all_goals ((try k_sweep); (try dsimp only); (try k_fold))))) | (k_here; (with_reducible show wpAny _ _ (call (Value.ref 210) [Value.ref _, Value.ref _, Value.int _ _]) _ _ _); k_dflt ((first | refine' Meets.useL (by k_asm) (by k_asm) (by k_asm) (by k_asm) (by k_asm) (by exact rfl) (by exact rfl) (by tb_start) (by ktr_room) (by ktr_units) (c_mul (by ktn_open) (by ktn_open) (by assumption) (by assumption)) ?_); (intro l9 n9 vs9 h9 tk9 hv9 F9 N9 hne9; (try dsimp only at hv9); skip; all_goals ((try k_sweep); (try dsimp only); (try k_fold))))) | (k_here; (with_reducible show wpAny _ _ (call (Value.ref 266) [Value.int _ _, Value.int _ _]) _ _ _); k_dflt ((first | refine' Meets.useL (by k_asm) (by k_asm) (by k_asm) (by k_asm) (by k_asm) (by exact rfl) (by exact rfl) (by tb_start) (by ktr_room) (by ktr_units) (c_limbs1 (by omega) (by omega) (by assumption) (by assumption)) ?_); (intro l9 n9 vs9 h9 tk9 hv9 F9 N9 hne9; (try dsimp only at hv9); (obtain ⟨t9, e9⟩ := hv9; subst e9); all_goals ((try k_sweep); (try dsimp only); (try k_fold))))) | (k_here; (with_reducible show wpAny _ _ (call (Value.ref 266) [Value.int _ _, Value.int _ _]) _ _ _); k_dflt ((first | refine' Meets.useL (by k_asm) (by k_asm) (by k_asm) (by k_asm) (by k_asm) (by exact rfl) (by exact rfl) (by tb_start) (by ktr_room) (by ktr_units) (c_limbs (by omega) (by omega) (by assumption) (by assumption)) ?_); (intro l9 n9 vs9 h9 tk9 hv9 F9 N9 hne9; (try dsimp only at hv9); skip; all_goals ((try k_sweep); (try dsimp only); (try k_fold))))) | (k_here; (with_reducible show wpAny _ _ (call (Value.ref 280) [Value.int _ _, Value.int _ _, Value.int _ _]) _ _ _); k_dflt ((first | refine' MeetsT.useT (by k_asm) (by k_asm) (by k_asm) (by k_asm) (by k_asm) (by exact rfl) (by exact rfl) (by ktr_room) (by ktr_units) (c_linv (by omega) (by omega) (by omega) (by omega) (by omega) (by omega)) ?_); (intro c9 t9 h9 tk9 hp9 F9 N9; (try dsimp only at hp9); (subst hp9); all_goals ((try k_sweep); (try dsimp only); (try k_fold))))) | (k_unfold; (try dsimp only)) | walk1 | (dsimp only; walk1))
                  k_dflt (refine' eq_intsK ?k1x6 hIx ?k3x6 IntsAre.nil ?k5x6 ?_)
                  case k1x6 => is_list
                  case k3x6 => is_list
                  case k5x6 => units_room
                  clear off9
                  as_aux_lemma =>
                    w_top off
                    (rename Fr _ _ _ _ => lF9)
                    by_cases hal : shared i md = []
                    · rw [decide_eq_true hal]
                      by_cases hi0 : 0 < (i : Int)
                      · have ha : alone i md = true := by unfold alone; rw [decide_eq_true hal, decide_eq_true hi0]; rfl
                        clear hIx
                        as_aux_lemma =>
                          w_top off
                          obtain ⟨v1, v2, v3, v4, hi1⟩ := inv_yes h3 h24 (by omega) ha
                          have hsF := stF_yes ha
                          have hdi := decide_eq_true hi0
                          rw [Int.zero_add] at lF9
                          generalize inv (i : Int) md = v at v1 v2 v3 v4 hsF lF9
                          have v5 : inv (0 + v) md = i := by rw [Int.zero_add]; exact v4
                          have hd0 : decide (0 < v) = true := decide_eq_true v1
                          clear v4
                          have hh := hva.nonneg
                          (try k_fold)
                          repeat' ((fail_if_success (with_reducible show wpAny _ _ (exec (Stmt.If _ _ _ _) _) _ _ _)); first | (k_here; (with_reducible show wpAny _ _ (call (Value.ref 252) [Value.ref _, Value.ref _, Value.int _ _]) _ _ _); k_dflt ((first | refine' Meets.useLL (by k_asm) (by k_asm) (by k_asm) (by k_asm) (by k_asm) (by exact rfl) (by exact rfl) (by tb_start) (by ktr_room) (by ktr_units) (c_drs (by ktn_open) (by omega) (by omega) (by assumption) (by assumption)) ?_); (intro a9 l9 n9 vs9 k9 o9 ws9 h9 tk9 hv9 F9 N9 hne9 hnf9 hng9; (try dsimp only at hv9); (obtain ⟨hq9, hr9⟩ := hv9); all_goals ((try k_sweep); (try dsimp only); (try k_fold))))) | (k_here; (with_reducible show wpAny _ _ (call (Value.ref 210) [Value.ref _, Value.ref _, Value.int _ _]) _ _ _); k_dflt ((first | refine' Meets.useL (by k_asm) (by k_asm) (by k_asm) (by k_asm) (by k_asm) (by exact rfl) (by exact rfl) (by tb_start) (by ktr_room) (by ktr_units) (c_mul (by ktn_open) (by ktn_open) (by assumption) (by assumption)) ?_); (intro l9 n9 vs9 h9 tk9 hv9 F9 N9 hne9; (try dsimp only at hv9); skip; all_goals ((try k_sweep); (try dsimp only); (try k_fold))))) | (k_here; (with_reducible show wpAny _ _ (call (Value.ref 266) [Value.int _ _, Value.int _ _]) _ _ _); k_dflt ((first | refine' Meets.useL (by k_asm) (by k_asm) (by k_asm) (by k_asm) (by k_asm) (by exact rfl) (by exact rfl) (by tb_start) (by ktr_room) (by ktr_units) (c_limbs1 (by omega) (by omega) (by assumption) (by assumption)) ?_); (intro l9 n9 vs9 h9 tk9 hv9 F9 N9 hne9; (try dsimp only at hv9); (obtain ⟨t9, e9⟩ := hv9; subst e9); all_goals ((try k_sweep); (try dsimp only); (try k_fold))))) | (k_here; (with_reducible show wpAny _ _ (call (Value.ref 266) [Value.int _ _, Value.int _ _]) _ _ _); k_dflt ((first | refine' Meets.useL (by k_asm) (by k_asm) (by k_asm) (by k_asm) (by k_asm) (by exact rfl) (by exact rfl) (by tb_start) (by ktr_room) (by ktr_units) (c_limbs (by omega) (by omega) (by assumption) (by assumption)) ?_); (intro l9 n9 vs9 h9 tk9 hv9 F9 N9 hne9; (try dsimp only at hv9); skip; all_goals ((try k_sweep); (try dsimp only); (try k_fold))))) | (k_here; (with_reducible show wpAny _ _ (call (Value.ref 280) [Value.int _ _, Value.int _ _, Value.int _ _]) _ _ _); k_dflt ((first | refine' MeetsT.useT (by k_asm) (by k_asm) (by k_asm) (by k_asm) (by k_asm) (by exact rfl) (by exact rfl) (by ktr_room) (by ktr_units) (c_linv (by omega) (by omega) (by omega) (by omega) (by omega) (by omega)) ?_); (intro c9 t9 h9 tk9 hp9 F9 N9; (try dsimp only at hp9); (subst hp9); all_goals ((try k_sweep); (try dsimp only); (try k_fold))))) | (k_unfold; (try dsimp only)) | walk1 | (dsimp only; walk1))
                          (rename Fr _ _ _ _ => lF8)
                          simp only [hdi] at lF8
                          repeat' ((fail_if_success (with_reducible show wpAny _ _ (compareOp CmpOp.NotEq _ _) _ _ _)); first | (k_here; (with_reducible show wpAny _ _ (call (Value.ref 252) [Value.ref _, Value.ref _, Value.int _ _]) _ _ _); k_dflt ((first | refine' Meets.useLL (by k_asm) (by k_asm) (by k_asm) (by k_asm) (by k_asm) (by exact rfl) (by exact rfl) (by tb_start) (by ktr_room) (by ktr_units) (c_drs (by ktn_open) (by omega) (by omega) (by assumption) (by assumption)) ?_); (intro a9 l9 n9 vs9 k9 o9 ws9 h9 tk9 hv9 F9 N9 hne9 hnf9 hng9; (try dsimp only at hv9); (obtain ⟨hq9, hr9⟩ := hv9); all_goals ((try k_sweep); (try dsimp only); (try k_fold))))) | (k_here; (with_reducible show wpAny _ _ (call (Value.ref 210) [Value.ref _, Value.ref _, Value.int _ _]) _ _ _); k_dflt ((first | refine' Meets.useL (by k_asm) (by k_asm) (by k_asm) (by k_asm) (by k_asm) (by exact rfl) (by exact rfl) (by tb_start) (by ktr_room) (by ktr_units) (c_mul (by ktn_open) (by ktn_open) (by assumption) (by assumption)) ?_); (intro l9 n9 vs9 h9 tk9 hv9 F9 N9 hne9; (try dsimp only at hv9); skip; all_goals ((try k_sweep); (try dsimp only); (try k_fold))))) | (k_here; (with_reducible show wpAny _ _ (call (Value.ref 266) [Value.int _ _, Value.int _ _]) _ _ _); k_dflt ((first | refine' Meets.useL (by k_asm) (by k_asm) (by k_asm) (by k_asm) (by k_asm) (by exact rfl) (by exact rfl) (by tb_start) (by ktr_room) (by ktr_units) (c_limbs1 (by omega) (by omega) (by assumption) (by assumption)) ?_); (intro l9 n9 vs9 h9 tk9 hv9 F9 N9 hne9; (try dsimp only at hv9); (obtain ⟨t9, e9⟩ := hv9; subst e9); all_goals ((try k_sweep); (try dsimp only); (try k_fold))))) | (k_here; (with_reducible show wpAny _ _ (call (Value.ref 266) [Value.int _ _, Value.int _ _]) _ _ _); k_dflt ((first | refine' Meets.useL (by k_asm) (by k_asm) (by k_asm) (by k_asm) (by k_asm) (by exact rfl) (by exact rfl) (by tb_start) (by ktr_room) (by ktr_units) (c_limbs (by omega) (by omega) (by assumption) (by assumption)) ?_); (intro l9 n9 vs9 h9 tk9 hv9 F9 N9 hne9; (try dsimp only at hv9); skip; all_goals ((try k_sweep); (try dsimp only); (try k_fold))))) | (k_here; (with_reducible show wpAny _ _ (call (Value.ref 280) [Value.int _ _, Value.int _ _, Value.int _ _]) _ _ _); k_dflt ((first | refine' MeetsT.useT (by k_asm) (by k_asm) (by k_asm) (by k_asm) (by k_asm) (by exact rfl) (by exact rfl) (by ktr_room) (by ktr_units) (c_linv (by omega) (by omega) (by omega) (by omega) (by omega) (by omega)) ?_); (intro c9 t9 h9 tk9 hp9 F9 N9; (try dsimp only at hp9); (subst hp9); all_goals ((try k_sweep); (try dsimp only); (try k_fold))))) | (k_unfold; (try dsimp only)) | walk1 | (dsimp only; walk1))
                          rw [hd0]
                          clear hd0 hdi
                          repeat' ((fail_if_success (with_reducible show wpAny _ _ (exec (Stmt.Assign _ _ _) _) _ _ _)); first | (k_here; (with_reducible show wpAny _ _ (call (Value.ref 252) [Value.ref _, Value.ref _, Value.int _ _]) _ _ _); k_dflt ((first | refine' Meets.useLL (by k_asm) (by k_asm) (by k_asm) (by k_asm) (by k_asm) (by exact rfl) (by exact rfl) (by tb_start) (by ktr_room) (by ktr_units) (c_drs (by ktn_open) (by omega) (by omega) (by assumption) (by assumption)) ?_); (intro a9 l9 n9 vs9 k9 o9 ws9 h9 tk9 hv9 F9 N9 hne9 hnf9 hng9; (try dsimp only at hv9); (obtain ⟨hq9, hr9⟩ := hv9); all_goals ((try k_sweep); (try dsimp only); (try k_fold))))) | (k_here; (with_reducible show wpAny _ _ (call (Value.ref 210) [Value.ref _, Value.ref _, Value.int _ _]) _ _ _); k_dflt ((first | refine' Meets.useL (by k_asm) (by k_asm) (by k_asm) (by k_asm) (by k_asm) (by exact rfl) (by exact rfl) (by tb_start) (by ktr_room) (by ktr_units) (c_mul (by ktn_open) (by ktn_open) (by assumption) (by assumption)) ?_); (intro l9 n9 vs9 h9 tk9 hv9 F9 N9 hne9; (try dsimp only at hv9); skip; all_goals ((try k_sweep); (try dsimp only); (try k_fold))))) | (k_here; (with_reducible show wpAny _ _ (call (Value.ref 266) [Value.int _ _, Value.int _ _]) _ _ _); k_dflt ((first | refine' Meets.useL (by k_asm) (by k_asm) (by k_asm) (by k_asm) (by k_asm) (by exact rfl) (by exact rfl) (by tb_start) (by ktr_room) (by ktr_units) (c_limbs1 (by omega) (by omega) (by assumption) (by assumption)) ?_); (intro l9 n9 vs9 h9 tk9 hv9 F9 N9 hne9; (try dsimp only at hv9); (obtain ⟨t9, e9⟩ := hv9; subst e9); all_goals ((try k_sweep); (try dsimp only); (try k_fold))))) | (k_here; (with_reducible show wpAny _ _ (call (Value.ref 266) [Value.int _ _, Value.int _ _]) _ _ _); k_dflt ((first | refine' Meets.useL (by k_asm) (by k_asm) (by k_asm) (by k_asm) (by k_asm) (by exact rfl) (by exact rfl) (by tb_start) (by ktr_room) (by ktr_units) (c_limbs (by omega) (by omega) (by assumption) (by assumption)) ?_); (intro l9 n9 vs9 h9 tk9 hv9 F9 N9 hne9; (try dsimp only at hv9); skip; all_goals ((try k_sweep); (try dsimp only); (try k_fold))))) | (k_here; (with_reducible show wpAny _ _ (call (Value.ref 280) [Value.int _ _, Value.int _ _, Value.int _ _]) _ _ _); k_dflt ((first | refine' MeetsT.useT (by k_asm) (by k_asm) (by k_asm) (by k_asm) (by k_asm) (by exact rfl) (by exact rfl) (by ktr_room) (by ktr_units) (c_linv (by omega) (by omega) (by omega) (by omega) (by omega) (by omega)) ?_); (intro c9 t9 h9 tk9 hp9 F9 N9; (try dsimp only at hp9); (subst hp9); all_goals ((try k_sweep); (try dsimp only); (try k_fold))))) | (k_unfold; (try dsimp only)) | walk1 | (dsimp only; walk1))
                          all_goals try (((rename ((i : Int) * v).fmod md ≠ 1 => hx9); exact absurd v3 hx9))
                          all_goals try (((rename inv (0 + v) md ≠ (i : Int) => hx9); exact absurd v5 hx9))
                          (rename ((i : Int) * v).fmod md = 1 => hx9; clear hx9)
                          clear v5 v3
                          as_aux_lemma =>
                            w_top off
                            have hz : 0 ≤ ((stF md i).1 * i).fmod md ∧ ((stF md i).1 * i).fmod md < md := ⟨Int.fmod_nonneg_of_pos _ (by omega), Int.fmod_lt_of_pos _ (by omega)⟩
                            (try k_fold)
                            repeat' ((fail_if_success (with_reducible show wpAny _ _ (exec (Stmt.If _ _ _ _) _) _ _ _)); first | (k_here; (with_reducible show wpAny _ _ (call (Value.ref 252) [Value.ref _, Value.ref _, Value.int _ _]) _ _ _); k_dflt ((first | refine' Meets.useLL (by k_asm) (by k_asm) (by k_asm) (by k_asm) (by k_asm) (by exact rfl) (by exact rfl) (by tb_start) (by ktr_room) (by ktr_units) (c_drs (by ktn_open) (by omega) (by omega) (by assumption) (by assumption)) ?_); (intro a9 l9 n9 vs9 k9 o9 ws9 h9 tk9 hv9 F9 N9 hne9 hnf9 hng9; (try dsimp only at hv9); (obtain ⟨hq9, hr9⟩ := hv9); all_goals ((try k_sweep); (try dsimp only); (try k_fold))))) | (k_here; (with_reducible show wpAny _ _ (call (Value.ref 210) [Value.ref _, Value.ref _, Value.int _ _]) _ _ _); k_dflt ((first | refine' Meets.useL (by k_asm) (by k_asm) (by k_asm) (by k_asm) (by k_asm) (by exact rfl) (by exact rfl) (by tb_start) (by ktr_room) (by ktr_units) (c_mul (by ktn_open) (by ktn_open) (by assumption) (by assumption)) ?_); (intro l9 n9 vs9 h9 tk9 hv9 F9 N9 hne9; (try dsimp only at hv9); skip; all_goals ((try k_sweep); (try dsimp only); (try k_fold))))) | (k_here; (with_reducible show wpAny _ _ (call (Value.ref 266) [Value.int _ _, Value.int _ _]) _ _ _); k_dflt ((first | refine' Meets.useL (by k_asm) (by k_asm) (by k_asm) (by k_asm) (by k_asm) (by exact rfl) (by exact rfl) (by tb_start) (by ktr_room) (by ktr_units) (c_limbs1 (by omega) (by omega) (by assumption) (by assumption)) ?_); (intro l9 n9 vs9 h9 tk9 hv9 F9 N9 hne9; (try dsimp only at hv9); (obtain ⟨t9, e9⟩ := hv9; subst e9); all_goals ((try k_sweep); (try dsimp only); (try k_fold))))) | (k_here; (with_reducible show wpAny _ _ (call (Value.ref 266) [Value.int _ _, Value.int _ _]) _ _ _); k_dflt ((first | refine' Meets.useL (by k_asm) (by k_asm) (by k_asm) (by k_asm) (by k_asm) (by exact rfl) (by exact rfl) (by tb_start) (by ktr_room) (by ktr_units) (c_limbs (by omega) (by omega) (by assumption) (by assumption)) ?_); (intro l9 n9 vs9 h9 tk9 hv9 F9 N9 hne9; (try dsimp only at hv9); skip; all_goals ((try k_sweep); (try dsimp only); (try k_fold))))) | (k_here; (with_reducible show wpAny _ _ (call (Value.ref 280) [Value.int _ _, Value.int _ _, Value.int _ _]) _ _ _); k_dflt ((first | refine' MeetsT.useT (by k_asm) (by k_asm) (by k_asm) (by k_asm) (by k_asm) (by exact rfl) (by exact rfl) (by ktr_room) (by ktr_units) (c_linv (by omega) (by omega) (by omega) (by omega) (by omega) (by omega)) ?_); (intro c9 t9 h9 tk9 hp9 F9 N9; (try dsimp only at hp9); (subst hp9); all_goals ((try k_sweep); (try dsimp only); (try k_fold))))) | (k_unfold; (try dsimp only)) | walk1 | (dsimp only; walk1))
                            have hkI : k9 ≠ I := hng9.ne (by k_mem)
                            (rename Lim _ _ => hrow)
                            replace hrow := hrow.congr (fmod_eq h3)
                            as_aux_lemma =>
                              w_top off
                              (try k_fold)
                              repeat' ((fail_if_success (with_reducible show wpAny _ _ (compareOp CmpOp.NotEq _ _) _ _ _)); first | (k_here; (with_reducible show wpAny _ _ (call (Value.ref 252) [Value.ref _, Value.ref _, Value.int _ _]) _ _ _); k_dflt ((first | refine' Meets.useLL (by k_asm) (by k_asm) (by k_asm) (by k_asm) (by k_asm) (by exact rfl) (by exact rfl) (by tb_start) (by ktr_room) (by ktr_units) (c_drs (by ktn_open) (by omega) (by omega) (by assumption) (by assumption)) ?_); (intro a9 l9 n9 vs9 k9 o9 ws9 h9 tk9 hv9 F9 N9 hne9 hnf9 hng9; (try dsimp only at hv9); (obtain ⟨hq9, hr9⟩ := hv9); all_goals ((try k_sweep); (try dsimp only); (try k_fold))))) | (k_here; (with_reducible show wpAny _ _ (call (Value.ref 210) [Value.ref _, Value.ref _, Value.int _ _]) _ _ _); k_dflt ((first | refine' Meets.useL (by k_asm) (by k_asm) (by k_asm) (by k_asm) (by k_asm) (by exact rfl) (by exact rfl) (by tb_start) (by ktr_room) (by ktr_units) (c_mul (by ktn_open) (by ktn_open) (by assumption) (by assumption)) ?_); (intro l9 n9 vs9 h9 tk9 hv9 F9 N9 hne9; (try dsimp only at hv9); skip; all_goals ((try k_sweep); (try dsimp only); (try k_fold))))) | (k_here; (with_reducible show wpAny _ _ (call (Value.ref 266) [Value.int _ _, Value.int _ _]) _ _ _); k_dflt ((first | refine' Meets.useL (by k_asm) (by k_asm) (by k_asm) (by k_asm) (by k_asm) (by exact rfl) (by exact rfl) (by tb_start) (by ktr_room) (by ktr_units) (c_limbs1 (by omega) (by omega) (by assumption) (by assumption)) ?_); (intro l9 n9 vs9 h9 tk9 hv9 F9 N9 hne9; (try dsimp only at hv9); (obtain ⟨t9, e9⟩ := hv9; subst e9); all_goals ((try k_sweep); (try dsimp only); (try k_fold))))) | (k_here; (with_reducible show wpAny _ _ (call (Value.ref 266) [Value.int _ _, Value.int _ _]) _ _ _); k_dflt ((first | refine' Meets.useL (by k_asm) (by k_asm) (by k_asm) (by k_asm) (by k_asm) (by exact rfl) (by exact rfl) (by tb_start) (by ktr_room) (by ktr_units) (c_limbs (by omega) (by omega) (by assumption) (by assumption)) ?_); (intro l9 n9 vs9 h9 tk9 hv9 F9 N9 hne9; (try dsimp only at hv9); skip; all_goals ((try k_sweep); (try dsimp only); (try k_fold))))) | (k_here; (with_reducible show wpAny _ _ (call (Value.ref 280) [Value.int _ _, Value.int _ _, Value.int _ _]) _ _ _); k_dflt ((first | refine' MeetsT.useT (by k_asm) (by k_asm) (by k_asm) (by k_asm) (by k_asm) (by exact rfl) (by exact rfl) (by ktr_room) (by ktr_units) (c_linv (by omega) (by omega) (by omega) (by omega) (by omega) (by omega)) ?_); (intro c9 t9 h9 tk9 hp9 F9 N9; (try dsimp only at hp9); (subst hp9); all_goals ((try k_sweep); (try dsimp only); (try k_fold))))) | (k_unfold; (try dsimp only)) | walk1 | (dsimp only; walk1))
                              (rename Lim _ _ => hnew)
                              k_dflt (refine' ne_intsK ?k1x12 hrow.ints ?k3x12 hnew.ints ?k5x12 ?_)
                              case k1x12 => is_list
                              case k3x12 => is_list
                              case k5x12 => units_room
                              rw [not_same]
                              repeat' ((fail_if_success (with_reducible show Turned _ _ _ _ _ _ _ _)); first | (k_here; (with_reducible show wpAny _ _ (call (Value.ref 252) [Value.ref _, Value.ref _, Value.int _ _]) _ _ _); k_dflt ((first | refine' Meets.useLL (by k_asm) (by k_asm) (by k_asm) (by k_asm) (by k_asm) (by exact rfl) (by exact rfl) (by tb_start) (by ktr_room) (by ktr_units) (c_drs (by ktn_open) (by omega) (by omega) (by assumption) (by assumption)) ?_); (intro a9 l9 n9 vs9 k9 o9 ws9 h9 tk9 hv9 F9 N9 hne9 hnf9 hng9; (try dsimp only at hv9); (obtain ⟨hq9, hr9⟩ := hv9); all_goals ((try k_sweep); (try dsimp only); (try k_fold))))) | (k_here; (with_reducible show wpAny _ _ (call (Value.ref 210) [Value.ref _, Value.ref _, Value.int _ _]) _ _ _); k_dflt ((first | refine' Meets.useL (by k_asm) (by k_asm) (by k_asm) (by k_asm) (by k_asm) (by exact rfl) (by exact rfl) (by tb_start) (by ktr_room) (by ktr_units) (c_mul (by ktn_open) (by ktn_open) (by assumption) (by assumption)) ?_); (intro l9 n9 vs9 h9 tk9 hv9 F9 N9 hne9; (try dsimp only at hv9); skip; all_goals ((try k_sweep); (try dsimp only); (try k_fold))))) | (k_here; (with_reducible show wpAny _ _ (call (Value.ref 266) [Value.int _ _, Value.int _ _]) _ _ _); k_dflt ((first | refine' Meets.useL (by k_asm) (by k_asm) (by k_asm) (by k_asm) (by k_asm) (by exact rfl) (by exact rfl) (by tb_start) (by ktr_room) (by ktr_units) (c_limbs1 (by omega) (by omega) (by assumption) (by assumption)) ?_); (intro l9 n9 vs9 h9 tk9 hv9 F9 N9 hne9; (try dsimp only at hv9); (obtain ⟨t9, e9⟩ := hv9; subst e9); all_goals ((try k_sweep); (try dsimp only); (try k_fold))))) | (k_here; (with_reducible show wpAny _ _ (call (Value.ref 266) [Value.int _ _, Value.int _ _]) _ _ _); k_dflt ((first | refine' Meets.useL (by k_asm) (by k_asm) (by k_asm) (by k_asm) (by k_asm) (by exact rfl) (by exact rfl) (by tb_start) (by ktr_room) (by ktr_units) (c_limbs (by omega) (by omega) (by assumption) (by assumption)) ?_); (intro l9 n9 vs9 h9 tk9 hv9 F9 N9 hne9; (try dsimp only at hv9); skip; all_goals ((try k_sweep); (try dsimp only); (try k_fold))))) | (k_here; (with_reducible show wpAny _ _ (call (Value.ref 280) [Value.int _ _, Value.int _ _, Value.int _ _]) _ _ _); k_dflt ((first | refine' MeetsT.useT (by k_asm) (by k_asm) (by k_asm) (by k_asm) (by k_asm) (by exact rfl) (by exact rfl) (by ktr_room) (by ktr_units) (c_linv (by omega) (by omega) (by omega) (by omega) (by omega) (by omega)) ?_); (intro c9 t9 h9 tk9 hp9 F9 N9; (try dsimp only at hp9); (subst hp9); all_goals ((try k_sweep); (try dsimp only); (try k_fold))))) | (k_unfold; (try dsimp only)) | walk1 | (dsimp only; walk1))
                              (rename Fr _ _ _ _ => lF9); (rename News _ _ _ _ => lN9)
                              k_dflt (refine' turned_of lF9 lN9 hsF hrow (by assumption) hkI hA2 hA3 hA4 hA5 ?qax12 ?qbx12 ?qcx12 ?qdx12 ?qIx12 ?qSx12)
                              case qax12 => rfl
                              case qbx12 => rfl
                              case qcx12 => rw [← own_eq]; rfl
                              case qdx12 => rfl
                              case qIx12 => k_mem
                              case qSx12 => tb_start
                      · have ha : alone i md = false := by unfold alone; rw [decide_eq_true hal, decide_eq_false hi0]; rfl
                        have hv := inv_no h3 h24 (by omega) ha
                        rw [Int.zero_add, hv] at lF9
                        clear hIx
                        as_aux_lemma =>
                          w_top off
                          (try k_fold)
                          have hd0 : decide (0 < (i : Int)) = false := decide_eq_false hi0
                          repeat' ((fail_if_success (with_reducible show wpAny _ _ (exec (Stmt.If _ _ _ _) _) _ _ _)); first | (k_here; (with_reducible show wpAny _ _ (call (Value.ref 252) [Value.ref _, Value.ref _, Value.int _ _]) _ _ _); k_dflt ((first | refine' Meets.useLL (by k_asm) (by k_asm) (by k_asm) (by k_asm) (by k_asm) (by exact rfl) (by exact rfl) (by tb_start) (by ktr_room) (by ktr_units) (c_drs (by ktn_open) (by omega) (by omega) (by assumption) (by assumption)) ?_); (intro a9 l9 n9 vs9 k9 o9 ws9 h9 tk9 hv9 F9 N9 hne9 hnf9 hng9; (try dsimp only at hv9); (obtain ⟨hq9, hr9⟩ := hv9); all_goals ((try k_sweep); (try dsimp only); (try k_fold))))) | (k_here; (with_reducible show wpAny _ _ (call (Value.ref 210) [Value.ref _, Value.ref _, Value.int _ _]) _ _ _); k_dflt ((first | refine' Meets.useL (by k_asm) (by k_asm) (by k_asm) (by k_asm) (by k_asm) (by exact rfl) (by exact rfl) (by tb_start) (by ktr_room) (by ktr_units) (c_mul (by ktn_open) (by ktn_open) (by assumption) (by assumption)) ?_); (intro l9 n9 vs9 h9 tk9 hv9 F9 N9 hne9; (try dsimp only at hv9); skip; all_goals ((try k_sweep); (try dsimp only); (try k_fold))))) | (k_here; (with_reducible show wpAny _ _ (call (Value.ref 266) [Value.int _ _, Value.int _ _]) _ _ _); k_dflt ((first | refine' Meets.useL (by k_asm) (by k_asm) (by k_asm) (by k_asm) (by k_asm) (by exact rfl) (by exact rfl) (by tb_start) (by ktr_room) (by ktr_units) (c_limbs1 (by omega) (by omega) (by assumption) (by assumption)) ?_); (intro l9 n9 vs9 h9 tk9 hv9 F9 N9 hne9; (try dsimp only at hv9); (obtain ⟨t9, e9⟩ := hv9; subst e9); all_goals ((try k_sweep); (try dsimp only); (try k_fold))))) | (k_here; (with_reducible show wpAny _ _ (call (Value.ref 266) [Value.int _ _, Value.int _ _]) _ _ _); k_dflt ((first | refine' Meets.useL (by k_asm) (by k_asm) (by k_asm) (by k_asm) (by k_asm) (by exact rfl) (by exact rfl) (by tb_start) (by ktr_room) (by ktr_units) (c_limbs (by omega) (by omega) (by assumption) (by assumption)) ?_); (intro l9 n9 vs9 h9 tk9 hv9 F9 N9 hne9; (try dsimp only at hv9); skip; all_goals ((try k_sweep); (try dsimp only); (try k_fold))))) | (k_here; (with_reducible show wpAny _ _ (call (Value.ref 280) [Value.int _ _, Value.int _ _, Value.int _ _]) _ _ _); k_dflt ((first | refine' MeetsT.useT (by k_asm) (by k_asm) (by k_asm) (by k_asm) (by k_asm) (by exact rfl) (by exact rfl) (by ktr_room) (by ktr_units) (c_linv (by omega) (by omega) (by omega) (by omega) (by omega) (by omega)) ?_); (intro c9 t9 h9 tk9 hp9 F9 N9; (try dsimp only at hp9); (subst hp9); all_goals ((try k_sweep); (try dsimp only); (try k_fold))))) | (k_unfold; (try dsimp only)) | walk1 | (dsimp only; walk1))
                          (rename Fr _ _ _ _ => lF8)
                          simp only [hd0] at lF8
                          repeat' ((fail_if_success (with_reducible show Turned _ _ _ _ _ _ _ _)); first | (k_here; (with_reducible show wpAny _ _ (call (Value.ref 252) [Value.ref _, Value.ref _, Value.int _ _]) _ _ _); k_dflt ((first | refine' Meets.useLL (by k_asm) (by k_asm) (by k_asm) (by k_asm) (by k_asm) (by exact rfl) (by exact rfl) (by tb_start) (by ktr_room) (by ktr_units) (c_drs (by ktn_open) (by omega) (by omega) (by assumption) (by assumption)) ?_); (intro a9 l9 n9 vs9 k9 o9 ws9 h9 tk9 hv9 F9 N9 hne9 hnf9 hng9; (try dsimp only at hv9); (obtain ⟨hq9, hr9⟩ := hv9); all_goals ((try k_sweep); (try dsimp only); (try k_fold))))) | (k_here; (with_reducible show wpAny _ _ (call (Value.ref 210) [Value.ref _, Value.ref _, Value.int _ _]) _ _ _); k_dflt ((first | refine' Meets.useL (by k_asm) (by k_asm) (by k_asm) (by k_asm) (by k_asm) (by exact rfl) (by exact rfl) (by tb_start) (by ktr_room) (by ktr_units) (c_mul (by ktn_open) (by ktn_open) (by assumption) (by assumption)) ?_); (intro l9 n9 vs9 h9 tk9 hv9 F9 N9 hne9; (try dsimp only at hv9); skip; all_goals ((try k_sweep); (try dsimp only); (try k_fold))))) | (k_here; (with_reducible show wpAny _ _ (call (Value.ref 266) [Value.int _ _, Value.int _ _]) _ _ _); k_dflt ((first | refine' Meets.useL (by k_asm) (by k_asm) (by k_asm) (by k_asm) (by k_asm) (by exact rfl) (by exact rfl) (by tb_start) (by ktr_room) (by ktr_units) (c_limbs1 (by omega) (by omega) (by assumption) (by assumption)) ?_); (intro l9 n9 vs9 h9 tk9 hv9 F9 N9 hne9; (try dsimp only at hv9); (obtain ⟨t9, e9⟩ := hv9; subst e9); all_goals ((try k_sweep); (try dsimp only); (try k_fold))))) | (k_here; (with_reducible show wpAny _ _ (call (Value.ref 266) [Value.int _ _, Value.int _ _]) _ _ _); k_dflt ((first | refine' Meets.useL (by k_asm) (by k_asm) (by k_asm) (by k_asm) (by k_asm) (by exact rfl) (by exact rfl) (by tb_start) (by ktr_room) (by ktr_units) (c_limbs (by omega) (by omega) (by assumption) (by assumption)) ?_); (intro l9 n9 vs9 h9 tk9 hv9 F9 N9 hne9; (try dsimp only at hv9); skip; all_goals ((try k_sweep); (try dsimp only); (try k_fold))))) | (k_here; (with_reducible show wpAny _ _ (call (Value.ref 280) [Value.int _ _, Value.int _ _, Value.int _ _]) _ _ _); k_dflt ((first | refine' MeetsT.useT (by k_asm) (by k_asm) (by k_asm) (by k_asm) (by k_asm) (by exact rfl) (by exact rfl) (by ktr_room) (by ktr_units) (c_linv (by omega) (by omega) (by omega) (by omega) (by omega) (by omega)) ?_); (intro c9 t9 h9 tk9 hp9 F9 N9; (try dsimp only at hp9); (subst hp9); all_goals ((try k_sweep); (try dsimp only); (try k_fold))))) | (k_unfold; (try dsimp only)) | walk1 | (dsimp only; walk1))
                          (rename Fr _ _ _ _ => lF9); (rename News _ _ _ _ => lN9)
                          k_dflt (refine' turned_of lF9 lN9 (stF_no ha) hva (by assumption) hA1 hA2 hA3 hA4 hA5 ?qax9 ?qbx9 ?qcx9 ?qdx9 ?qIx9 ?qSx9)
                          case qax9 => rfl
                          case qbx9 => rfl
                          case qcx9 => rfl
                          case qdx9 => rfl
                          case qIx9 => k_mem
                          case qSx9 => tb_start
                    · rw [decide_eq_false hal]
                      have ha : alone i md = false := by unfold alone; rw [decide_eq_false hal, Bool.false_and]
                      have hv := inv_no h3 h24 (by omega) ha
                      rw [Int.zero_add, hv] at lF9
                      clear hIx
                      as_aux_lemma =>
                        w_top off
                        (try k_fold)
                        repeat' ((fail_if_success (with_reducible show Turned _ _ _ _ _ _ _ _)); first | (k_here; (with_reducible show wpAny _ _ (call (Value.ref 252) [Value.ref _, Value.ref _, Value.int _ _]) _ _ _); k_dflt ((first | refine' Meets.useLL (by k_asm) (by k_asm) (by k_asm) (by k_asm) (by k_asm) (by exact rfl) (by exact rfl) (by tb_start) (by ktr_room) (by ktr_units) (c_drs (by ktn_open) (by omega) (by omega) (by assumption) (by assumption)) ?_); (intro a9 l9 n9 vs9 k9 o9 ws9 h9 tk9 hv9 F9 N9 hne9 hnf9 hng9; (try dsimp only at hv9); (obtain ⟨hq9, hr9⟩ := hv9); all_goals ((try k_sweep); (try dsimp only); (try k_fold))))) | (k_here; (with_reducible show wpAny _ _ (call (Value.ref 210) [Value.ref _, Value.ref _, Value.int _ _]) _ _ _); k_dflt ((first | refine' Meets.useL (by k_asm) (by k_asm) (by k_asm) (by k_asm) (by k_asm) (by exact rfl) (by exact rfl) (by tb_start) (by ktr_room) (by ktr_units) (c_mul (by ktn_open) (by ktn_open) (by assumption) (by assumption)) ?_); (intro l9 n9 vs9 h9 tk9 hv9 F9 N9 hne9; (try dsimp only at hv9); skip; all_goals ((try k_sweep); (try dsimp only); (try k_fold))))) | (k_here; (with_reducible show wpAny _ _ (call (Value.ref 266) [Value.int _ _, Value.int _ _]) _ _ _); k_dflt ((first | refine' Meets.useL (by k_asm) (by k_asm) (by k_asm) (by k_asm) (by k_asm) (by exact rfl) (by exact rfl) (by tb_start) (by ktr_room) (by ktr_units) (c_limbs1 (by omega) (by omega) (by assumption) (by assumption)) ?_); (intro l9 n9 vs9 h9 tk9 hv9 F9 N9 hne9; (try dsimp only at hv9); (obtain ⟨t9, e9⟩ := hv9; subst e9); all_goals ((try k_sweep); (try dsimp only); (try k_fold))))) | (k_here; (with_reducible show wpAny _ _ (call (Value.ref 266) [Value.int _ _, Value.int _ _]) _ _ _); k_dflt ((first | refine' Meets.useL (by k_asm) (by k_asm) (by k_asm) (by k_asm) (by k_asm) (by exact rfl) (by exact rfl) (by tb_start) (by ktr_room) (by ktr_units) (c_limbs (by omega) (by omega) (by assumption) (by assumption)) ?_); (intro l9 n9 vs9 h9 tk9 hv9 F9 N9 hne9; (try dsimp only at hv9); skip; all_goals ((try k_sweep); (try dsimp only); (try k_fold))))) | (k_here; (with_reducible show wpAny _ _ (call (Value.ref 280) [Value.int _ _, Value.int _ _, Value.int _ _]) _ _ _); k_dflt ((first | refine' MeetsT.useT (by k_asm) (by k_asm) (by k_asm) (by k_asm) (by k_asm) (by exact rfl) (by exact rfl) (by ktr_room) (by ktr_units) (c_linv (by omega) (by omega) (by omega) (by omega) (by omega) (by omega)) ?_); (intro c9 t9 h9 tk9 hp9 F9 N9; (try dsimp only at hp9); (subst hp9); all_goals ((try k_sweep); (try dsimp only); (try k_fold))))) | (k_unfold; (try dsimp only)) | walk1 | (dsimp only; walk1))
                        (rename Fr _ _ _ _ => lF9); (rename News _ _ _ _ => lN9)
                        k_dflt (refine' turned_of lF9 lN9 (stF_no ha) hva (by assumption) hA1 hA2 hA3 hA4 hA5 ?qax8 ?qbx8 ?qcx8 ?qdx8 ?qIx8 ?qSx8)
                        case qax8 => rfl
                        case qbx8 => rfl
                        case qcx8 => rfl
                        case qdx8 => rfl
                        case qIx8 => k_mem
                        case qSx8 => tb_start
    case stDx1 => as_aux_lemma =>
      w_top off
      rintro s' ⟨h', tk', m₁, nx, rfl, F₁, N₁, ⟨D, va, nr, oN', cv', th, to, hva, e4, e5, e6, e7, e8, hM⟩⟩
      rw [lm_eq e4 e5 e6 e7] at F₁
      have N₂ : News _ _ _ _ := fun p hp => N₁ p (hM p hp)
      clear N₁ hM e4 e5 e6 e7
      generalize m₁ = mm' at F₁
      (repeat ((rename (@Ne Nat _ _) ∧ _ => hz9); clear hz9))
      (repeat ((rename (_ < _) ∧ (_ < _) ∧ (_ < _) => hz9); clear hz9))
      clear e8
      (try k_fold)
      repeat' ((fail_if_success (with_reducible show wpAny _ _ (exec (Stmt.Assign [Expr.Name (Str.ofString "twos") _] _ _) _) _ _ _)); first | (k_here; (with_reducible show wpAny _ _ (call (Value.ref 252) [Value.ref _, Value.ref _, Value.int _ _]) _ _ _); k_dflt ((first | refine' Meets.useLL (by k_asm) (by k_asm) (by k_asm) (by k_asm) (by k_asm) (by exact rfl) (by exact rfl) (by tb_start) (by ktr_room) (by ktr_units) (c_drs (by ktn_open) (by omega) (by omega) (by assumption) (by assumption)) ?_); (intro a9 l9 n9 vs9 k9 o9 ws9 h9 tk9 hv9 F9 N9 hne9 hnf9 hng9; (try dsimp only at hv9); (obtain ⟨hq9, hr9⟩ := hv9); all_goals ((try k_sweep); (try dsimp only); (try k_fold))))) | (k_here; (with_reducible show wpAny _ _ (call (Value.ref 210) [Value.ref _, Value.ref _, Value.int _ _]) _ _ _); k_dflt ((first | refine' Meets.useL (by k_asm) (by k_asm) (by k_asm) (by k_asm) (by k_asm) (by exact rfl) (by exact rfl) (by tb_start) (by ktr_room) (by ktr_units) (c_mul (by ktn_open) (by ktn_open) (by assumption) (by assumption)) ?_); (intro l9 n9 vs9 h9 tk9 hv9 F9 N9 hne9; (try dsimp only at hv9); skip; all_goals ((try k_sweep); (try dsimp only); (try k_fold))))) | (k_here; (with_reducible show wpAny _ _ (call (Value.ref 266) [Value.int _ _, Value.int _ _]) _ _ _); k_dflt ((first | refine' Meets.useL (by k_asm) (by k_asm) (by k_asm) (by k_asm) (by k_asm) (by exact rfl) (by exact rfl) (by tb_start) (by ktr_room) (by ktr_units) (c_limbs1 (by omega) (by omega) (by assumption) (by assumption)) ?_); (intro l9 n9 vs9 h9 tk9 hv9 F9 N9 hne9; (try dsimp only at hv9); (obtain ⟨t9, e9⟩ := hv9; subst e9); all_goals ((try k_sweep); (try dsimp only); (try k_fold))))) | (k_here; (with_reducible show wpAny _ _ (call (Value.ref 266) [Value.int _ _, Value.int _ _]) _ _ _); k_dflt ((first | refine' Meets.useL (by k_asm) (by k_asm) (by k_asm) (by k_asm) (by k_asm) (by exact rfl) (by exact rfl) (by tb_start) (by ktr_room) (by ktr_units) (c_limbs (by omega) (by omega) (by assumption) (by assumption)) ?_); (intro l9 n9 vs9 h9 tk9 hv9 F9 N9 hne9; (try dsimp only at hv9); skip; all_goals ((try k_sweep); (try dsimp only); (try k_fold))))) | (k_here; (with_reducible show wpAny _ _ (call (Value.ref 280) [Value.int _ _, Value.int _ _, Value.int _ _]) _ _ _); k_dflt ((first | refine' MeetsT.useT (by k_asm) (by k_asm) (by k_asm) (by k_asm) (by k_asm) (by exact rfl) (by exact rfl) (by ktr_room) (by ktr_units) (c_linv (by omega) (by omega) (by omega) (by omega) (by omega) (by omega)) ?_); (intro c9 t9 h9 tk9 hp9 F9 N9; (try dsimp only at hp9); (subst hp9); all_goals ((try k_sweep); (try dsimp only); (try k_fold))))) | (k_unfold; (try dsimp only)) | walk1 | (dsimp only; walk1))
      as_aux_lemma =>
        w_top off
        (try k_fold)
        repeat' ((fail_if_success (with_reducible show wpAny _ _ (eval (Expr.ListComp _ _ _ _) _) _ _ _)); first | (k_here; (with_reducible show wpAny _ _ (call (Value.ref 252) [Value.ref _, Value.ref _, Value.int _ _]) _ _ _); k_dflt ((first | refine' Meets.useLL (by k_asm) (by k_asm) (by k_asm) (by k_asm) (by k_asm) (by exact rfl) (by exact rfl) (by tb_start) (by ktr_room) (by ktr_units) (c_drs (by ktn_open) (by omega) (by omega) (by assumption) (by assumption)) ?_); (intro a9 l9 n9 vs9 k9 o9 ws9 h9 tk9 hv9 F9 N9 hne9 hnf9 hng9; (try dsimp only at hv9); (obtain ⟨hq9, hr9⟩ := hv9); all_goals ((try k_sweep); (try dsimp only); (try k_fold))))) | (k_here; (with_reducible show wpAny _ _ (call (Value.ref 210) [Value.ref _, Value.ref _, Value.int _ _]) _ _ _); k_dflt ((first | refine' Meets.useL (by k_asm) (by k_asm) (by k_asm) (by k_asm) (by k_asm) (by exact rfl) (by exact rfl) (by tb_start) (by ktr_room) (by ktr_units) (c_mul (by ktn_open) (by ktn_open) (by assumption) (by assumption)) ?_); (intro l9 n9 vs9 h9 tk9 hv9 F9 N9 hne9; (try dsimp only at hv9); skip; all_goals ((try k_sweep); (try dsimp only); (try k_fold))))) | (k_here; (with_reducible show wpAny _ _ (call (Value.ref 266) [Value.int _ _, Value.int _ _]) _ _ _); k_dflt ((first | refine' Meets.useL (by k_asm) (by k_asm) (by k_asm) (by k_asm) (by k_asm) (by exact rfl) (by exact rfl) (by tb_start) (by ktr_room) (by ktr_units) (c_limbs1 (by omega) (by omega) (by assumption) (by assumption)) ?_); (intro l9 n9 vs9 h9 tk9 hv9 F9 N9 hne9; (try dsimp only at hv9); (obtain ⟨t9, e9⟩ := hv9; subst e9); all_goals ((try k_sweep); (try dsimp only); (try k_fold))))) | (k_here; (with_reducible show wpAny _ _ (call (Value.ref 266) [Value.int _ _, Value.int _ _]) _ _ _); k_dflt ((first | refine' Meets.useL (by k_asm) (by k_asm) (by k_asm) (by k_asm) (by k_asm) (by exact rfl) (by exact rfl) (by tb_start) (by ktr_room) (by ktr_units) (c_limbs (by omega) (by omega) (by assumption) (by assumption)) ?_); (intro l9 n9 vs9 h9 tk9 hv9 F9 N9 hne9; (try dsimp only at hv9); skip; all_goals ((try k_sweep); (try dsimp only); (try k_fold))))) | (k_here; (with_reducible show wpAny _ _ (call (Value.ref 280) [Value.int _ _, Value.int _ _, Value.int _ _]) _ _ _); k_dflt ((first | refine' MeetsT.useT (by k_asm) (by k_asm) (by k_asm) (by k_asm) (by k_asm) (by exact rfl) (by exact rfl) (by ktr_room) (by ktr_units) (c_linv (by omega) (by omega) (by omega) (by omega) (by omega) (by omega)) ?_); (intro c9 t9 h9 tk9 hp9 F9 N9; (try dsimp only at hp9); (subst hp9); all_goals ((try k_sweep); (try dsimp only); (try k_fold))))) | (k_unfold; (try dsimp only)) | walk1 | (dsimp only; walk1))
        (rename Fr _ _ _ _ => lF0)
        lcg_calm; k_dflt (refine ListComp_Tu lF0 (by with_unfolding_all rfl) (by decide) (by rfl) (by decide) (by rfl) ?_)
        repeat' ((fail_if_success (with_reducible show SrcTu _ _ _ _ _ _ _ _ _ _ _ _ _ _ _)); first | (k_here; (with_reducible show wpAny _ _ (call (Value.ref 252) [Value.ref _, Value.ref _, Value.int _ _]) _ _ _); k_dflt ((first | refine' Meets.useLL (by k_asm) (by k_asm) (by k_asm) (by k_asm) (by k_asm) (by exact rfl) (by exact rfl) (by tb_start) (by ktr_room) (by ktr_units) (c_drs (by ktn_open) (by omega) (by omega) (by assumption) (by assumption)) ?_); (intro a9 l9 n9 vs9 k9 o9 ws9 h9 tk9 hv9 F9 N9 hne9 hnf9 hng9; (try dsimp only at hv9); (obtain ⟨hq9, hr9⟩ := hv9); all_goals ((try k_sweep); (try dsimp only); (try k_fold))))) | (k_here; (with_reducible show wpAny _ _ (call (Value.ref 210) [Value.ref _, Value.ref _, Value.int _ _]) _ _ _); k_dflt ((first | refine' Meets.useL (by k_asm) (by k_asm) (by k_asm) (by k_asm) (by k_asm) (by exact rfl) (by exact rfl) (by tb_start) (by ktr_room) (by ktr_units) (c_mul (by ktn_open) (by ktn_open) (by assumption) (by assumption)) ?_); (intro l9 n9 vs9 h9 tk9 hv9 F9 N9 hne9; (try dsimp only at hv9); skip; all_goals ((try k_sweep); (try dsimp only); (try k_fold))))) | (k_here; (with_reducible show wpAny _ _ (call (Value.ref 266) [Value.int _ _, Value.int _ _]) _ _ _); k_dflt ((first | refine' Meets.useL (by k_asm) (by k_asm) (by k_asm) (by k_asm) (by k_asm) (by exact rfl) (by exact rfl) (by tb_start) (by ktr_room) (by ktr_units) (c_limbs1 (by omega) (by omega) (by assumption) (by assumption)) ?_); (intro l9 n9 vs9 h9 tk9 hv9 F9 N9 hne9; (try dsimp only at hv9); (obtain ⟨t9, e9⟩ := hv9; subst e9); all_goals ((try k_sweep); (try dsimp only); (try k_fold))))) | (k_here; (with_reducible show wpAny _ _ (call (Value.ref 266) [Value.int _ _, Value.int _ _]) _ _ _); k_dflt ((first | refine' Meets.useL (by k_asm) (by k_asm) (by k_asm) (by k_asm) (by k_asm) (by exact rfl) (by exact rfl) (by tb_start) (by ktr_room) (by ktr_units) (c_limbs (by omega) (by omega) (by assumption) (by assumption)) ?_); (intro l9 n9 vs9 h9 tk9 hv9 F9 N9 hne9; (try dsimp only at hv9); skip; all_goals ((try k_sweep); (try dsimp only); (try k_fold))))) | (k_here; (with_reducible show wpAny _ _ (call (Value.ref 280) [Value.int _ _, Value.int _ _, Value.int _ _]) _ _ _); k_dflt ((first | refine' MeetsT.useT (by k_asm) (by k_asm) (by k_asm) (by k_asm) (by k_asm) (by exact rfl) (by exact rfl) (by ktr_room) (by ktr_units) (c_linv (by omega) (by omega) (by omega) (by omega) (by omega) (by omega)) ?_); (intro c9 t9 h9 tk9 hp9 F9 N9; (try dsimp only at hp9); (subst hp9); all_goals ((try k_sweep); (try dsimp only); (try k_fold))))) | (k_unfold; (try dsimp only)) | walk1 | (dsimp only; walk1))
        (rename Fr _ _ _ _ => lF2)
        (rename News _ _ _ _ => lN2)
        k_dflt (refine' SrcTu.mk (vs := [_, _]) (by rfl) lF2 lN2 ?qmx14 (by exact Nat.le_of_ble_eq_true rfl) ?rtx14)
        case qmx14 => k_mem
        intro g'
        clear lF2 lN2
        k_dflt (refine' kci_list (ns := [4, 8]) (dv md) (.cons 4 _ (.cons 8 _ .nil)) (fun k' t' I' oI' C' oC' D' m' ys' l' h' tk' E' hk' hI' hC' hx' F' N' off' ne' => ?trnx14) ?fnnx14 ?hggx14)
        all_goals (try ((show KPfMark → _); intro hMark'))
        case hggx14 => exact dv_grows _
        case trnx14 =>
          have hk4 : 4 ≤ k' := by simp only [List.mem_cons, List.not_mem_nil, or_false] at hk'; omega
          clear ne' hk'
          (try k_fold)
          repeat' ((fail_if_success (with_reducible show LCg.CompEnd _ _ _ _ _ _ _ _ _ _ _ _ _ _)); first | (k_here; (with_reducible show wpAny _ _ (call (Value.ref 252) [Value.ref _, Value.ref _, Value.int _ _]) _ _ _); k_dflt ((first | refine' Meets.useLL (by k_asm) (by k_asm) (by k_asm) (by k_asm) (by k_asm) (by exact rfl) (by exact rfl) (by tb_start) (by ktr_room) (by ktr_units) (c_drs (by ktn_open) (by omega) (by omega) (by assumption) (by assumption)) ?_); (intro a9 l9 n9 vs9 k9 o9 ws9 h9 tk9 hv9 F9 N9 hne9 hnf9 hng9; (try dsimp only at hv9); (obtain ⟨hq9, hr9⟩ := hv9); all_goals ((try k_sweep); (try dsimp only); (try k_fold))))) | (k_here; (with_reducible show wpAny _ _ (call (Value.ref 210) [Value.ref _, Value.ref _, Value.int _ _]) _ _ _); k_dflt ((first | refine' Meets.useL (by k_asm) (by k_asm) (by k_asm) (by k_asm) (by k_asm) (by exact rfl) (by exact rfl) (by tb_start) (by ktr_room) (by ktr_units) (c_mul (by ktn_open) (by ktn_open) (by assumption) (by assumption)) ?_); (intro l9 n9 vs9 h9 tk9 hv9 F9 N9 hne9; (try dsimp only at hv9); skip; all_goals ((try k_sweep); (try dsimp only); (try k_fold))))) | (k_here; (with_reducible show wpAny _ _ (call (Value.ref 266) [Value.int _ _, Value.int _ _]) _ _ _); k_dflt ((first | refine' Meets.useL (by k_asm) (by k_asm) (by k_asm) (by k_asm) (by k_asm) (by exact rfl) (by exact rfl) (by tb_start) (by ktr_room) (by ktr_units) (c_limbs1 (by omega) (by omega) (by assumption) (by assumption)) ?_); (intro l9 n9 vs9 h9 tk9 hv9 F9 N9 hne9; (try dsimp only at hv9); (obtain ⟨t9, e9⟩ := hv9; subst e9); all_goals ((try k_sweep); (try dsimp only); (try k_fold))))) | (k_here; (with_reducible show wpAny _ _ (call (Value.ref 266) [Value.int _ _, Value.int _ _]) _ _ _); k_dflt ((first | refine' Meets.useL (by k_asm) (by k_asm) (by k_asm) (by k_asm) (by k_asm) (by exact rfl) (by exact rfl) (by tb_start) (by ktr_room) (by ktr_units) (c_limbs (by omega) (by omega) (by assumption) (by assumption)) ?_); (intro l9 n9 vs9 h9 tk9 hv9 F9 N9 hne9; (try dsimp only at hv9); skip; all_goals ((try k_sweep); (try dsimp only); (try k_fold))))) | (k_here; (with_reducible show wpAny _ _ (call (Value.ref 280) [Value.int _ _, Value.int _ _, Value.int _ _]) _ _ _); k_dflt ((first | refine' MeetsT.useT (by k_asm) (by k_asm) (by k_asm) (by k_asm) (by k_asm) (by exact rfl) (by exact rfl) (by ktr_room) (by ktr_units) (c_linv (by omega) (by omega) (by omega) (by omega) (by omega) (by omega)) ?_); (intro c9 t9 h9 tk9 hp9 F9 N9; (try dsimp only at hp9); (subst hp9); all_goals ((try k_sweep); (try dsimp only); (try k_fold))))) | (k_unfold; (try dsimp only)) | walk1 | (dsimp only; walk1))
          all_goals ((rename Fr _ _ _ _ => lF9); (rename News _ _ _ _ => lN9))
          all_goals first
            | exact ⟨_, _, _, rfl, lF9, lN9, off', .head _, rfl, _, _, rfl, if_pos (by assumption)⟩
            | exact ⟨_, _, _, rfl, lF9, lN9, off', .head _, rfl, if_neg (by assumption)⟩
        case fnnx14 =>
          intro ys hIx hlx D9 h9 tk9 F9 N9 off9
          change IntsAre ys (twosL md) at hIx
          clear hlx off9
          as_aux_lemma =>
            w_top off
            have hll := lens_at h3 h24
            (try k_fold)
            repeat' ((fail_if_success (with_reducible show wpAny _ _ (call (Value.builtin "len") _) _ _ _)); first | (k_here; (with_reducible show wpAny _ _ (call (Value.ref 252) [Value.ref _, Value.ref _, Value.int _ _]) _ _ _); k_dflt ((first | refine' Meets.useLL (by k_asm) (by k_asm) (by k_asm) (by k_asm) (by k_asm) (by exact rfl) (by exact rfl) (by tb_start) (by ktr_room) (by ktr_units) (c_drs (by ktn_open) (by omega) (by omega) (by assumption) (by assumption)) ?_); (intro a9 l9 n9 vs9 k9 o9 ws9 h9 tk9 hv9 F9 N9 hne9 hnf9 hng9; (try dsimp only at hv9); (obtain ⟨hq9, hr9⟩ := hv9); all_goals ((try k_sweep); (try dsimp only); (try k_fold))))) | (k_here; (with_reducible show wpAny _ _ (call (Value.ref 210) [Value.ref _, Value.ref _, Value.int _ _]) _ _ _); k_dflt ((first | refine' Meets.useL (by k_asm) (by k_asm) (by k_asm) (by k_asm) (by k_asm) (by exact rfl) (by exact rfl) (by tb_start) (by ktr_room) (by ktr_units) (c_mul (by ktn_open) (by ktn_open) (by assumption) (by assumption)) ?_); (intro l9 n9 vs9 h9 tk9 hv9 F9 N9 hne9; (try dsimp only at hv9); skip; all_goals ((try k_sweep); (try dsimp only); (try k_fold))))) | (k_here; (with_reducible show wpAny _ _ (call (Value.ref 266) [Value.int _ _, Value.int _ _]) _ _ _); k_dflt ((first | refine' Meets.useL (by k_asm) (by k_asm) (by k_asm) (by k_asm) (by k_asm) (by exact rfl) (by exact rfl) (by tb_start) (by ktr_room) (by ktr_units) (c_limbs1 (by omega) (by omega) (by assumption) (by assumption)) ?_); (intro l9 n9 vs9 h9 tk9 hv9 F9 N9 hne9; (try dsimp only at hv9); (obtain ⟨t9, e9⟩ := hv9; subst e9); all_goals ((try k_sweep); (try dsimp only); (try k_fold))))) | (k_here; (with_reducible show wpAny _ _ (call (Value.ref 266) [Value.int _ _, Value.int _ _]) _ _ _); k_dflt ((first | refine' Meets.useL (by k_asm) (by k_asm) (by k_asm) (by k_asm) (by k_asm) (by exact rfl) (by exact rfl) (by tb_start) (by ktr_room) (by ktr_units) (c_limbs (by omega) (by omega) (by assumption) (by assumption)) ?_); (intro l9 n9 vs9 h9 tk9 hv9 F9 N9 hne9; (try dsimp only at hv9); skip; all_goals ((try k_sweep); (try dsimp only); (try k_fold))))) | (k_here; (with_reducible show wpAny _ _ (call (Value.ref 280) [Value.int _ _, Value.int _ _, Value.int _ _]) _ _ _); k_dflt ((first | refine' MeetsT.useT (by k_asm) (by k_asm) (by k_asm) (by k_asm) (by k_asm) (by exact rfl) (by exact rfl) (by ktr_room) (by ktr_units) (c_linv (by omega) (by omega) (by omega) (by omega) (by omega) (by omega)) ?_); (intro c9 t9 h9 tk9 hp9 F9 N9; (try dsimp only at hp9); (subst hp9); all_goals ((try k_sweep); (try dsimp only); (try k_fold))))) | (k_unfold; (try dsimp only)) | walk1 | (dsimp only; walk1))
            k_dflt (refine' len_ints_fit ?qax15 hIx ?qbx15 ?_)
            case qax15 => is_list
            case qbx15 => omega
            repeat' ((fail_if_success (with_reducible show wpAny _ _ (exec (Stmt.Assign [Expr.Name (Str.ofString "odd") _] _ _) _) _ _ _)); first | (k_here; (with_reducible show wpAny _ _ (call (Value.ref 252) [Value.ref _, Value.ref _, Value.int _ _]) _ _ _); k_dflt ((first | refine' Meets.useLL (by k_asm) (by k_asm) (by k_asm) (by k_asm) (by k_asm) (by exact rfl) (by exact rfl) (by tb_start) (by ktr_room) (by ktr_units) (c_drs (by ktn_open) (by omega) (by omega) (by assumption) (by assumption)) ?_); (intro a9 l9 n9 vs9 k9 o9 ws9 h9 tk9 hv9 F9 N9 hne9 hnf9 hng9; (try dsimp only at hv9); (obtain ⟨hq9, hr9⟩ := hv9); all_goals ((try k_sweep); (try dsimp only); (try k_fold))))) | (k_here; (with_reducible show wpAny _ _ (call (Value.ref 210) [Value.ref _, Value.ref _, Value.int _ _]) _ _ _); k_dflt ((first | refine' Meets.useL (by k_asm) (by k_asm) (by k_asm) (by k_asm) (by k_asm) (by exact rfl) (by exact rfl) (by tb_start) (by ktr_room) (by ktr_units) (c_mul (by ktn_open) (by ktn_open) (by assumption) (by assumption)) ?_); (intro l9 n9 vs9 h9 tk9 hv9 F9 N9 hne9; (try dsimp only at hv9); skip; all_goals ((try k_sweep); (try dsimp only); (try k_fold))))) | (k_here; (with_reducible show wpAny _ _ (call (Value.ref 266) [Value.int _ _, Value.int _ _]) _ _ _); k_dflt ((first | refine' Meets.useL (by k_asm) (by k_asm) (by k_asm) (by k_asm) (by k_asm) (by exact rfl) (by exact rfl) (by tb_start) (by ktr_room) (by ktr_units) (c_limbs1 (by omega) (by omega) (by assumption) (by assumption)) ?_); (intro l9 n9 vs9 h9 tk9 hv9 F9 N9 hne9; (try dsimp only at hv9); (obtain ⟨t9, e9⟩ := hv9; subst e9); all_goals ((try k_sweep); (try dsimp only); (try k_fold))))) | (k_here; (with_reducible show wpAny _ _ (call (Value.ref 266) [Value.int _ _, Value.int _ _]) _ _ _); k_dflt ((first | refine' Meets.useL (by k_asm) (by k_asm) (by k_asm) (by k_asm) (by k_asm) (by exact rfl) (by exact rfl) (by tb_start) (by ktr_room) (by ktr_units) (c_limbs (by omega) (by omega) (by assumption) (by assumption)) ?_); (intro l9 n9 vs9 h9 tk9 hv9 F9 N9 hne9; (try dsimp only at hv9); skip; all_goals ((try k_sweep); (try dsimp only); (try k_fold))))) | (k_here; (with_reducible show wpAny _ _ (call (Value.ref 280) [Value.int _ _, Value.int _ _, Value.int _ _]) _ _ _); k_dflt ((first | refine' MeetsT.useT (by k_asm) (by k_asm) (by k_asm) (by k_asm) (by k_asm) (by exact rfl) (by exact rfl) (by ktr_room) (by ktr_units) (c_linv (by omega) (by omega) (by omega) (by omega) (by omega) (by omega)) ?_); (intro c9 t9 h9 tk9 hp9 F9 N9; (try dsimp only at hp9); (subst hp9); all_goals ((try k_sweep); (try dsimp only); (try k_fold))))) | (k_unfold; (try dsimp only)) | walk1 | (dsimp only; walk1))
            (rename Fr _ _ _ _ => lF0)
            lcg_calm
            k_dflt (refine Assign_ListComp_S lF0 (by rfl) (by with_unfolding_all rfl) (by with_unfolding_all rfl) (by decide) (by rfl) (by decide) (by rfl) (by rfl) (by rfl) ?_)
            repeat' ((fail_if_success (with_reducible show SrcS _ _ _ _ _ _ _ _ _ _ _ _ _ _ _)); first | (k_here; (with_reducible show wpAny _ _ (call (Value.ref 252) [Value.ref _, Value.ref _, Value.int _ _]) _ _ _); k_dflt ((first | refine' Meets.useLL (by k_asm) (by k_asm) (by k_asm) (by k_asm) (by k_asm) (by exact rfl) (by exact rfl) (by tb_start) (by ktr_room) (by ktr_units) (c_drs (by ktn_open) (by omega) (by omega) (by assumption) (by assumption)) ?_); (intro a9 l9 n9 vs9 k9 o9 ws9 h9 tk9 hv9 F9 N9 hne9 hnf9 hng9; (try dsimp only at hv9); (obtain ⟨hq9, hr9⟩ := hv9); all_goals ((try k_sweep); (try dsimp only); (try k_fold))))) | (k_here; (with_reducible show wpAny _ _ (call (Value.ref 210) [Value.ref _, Value.ref _, Value.int _ _]) _ _ _); k_dflt ((first | refine' Meets.useL (by k_asm) (by k_asm) (by k_asm) (by k_asm) (by k_asm) (by exact rfl) (by exact rfl) (by tb_start) (by ktr_room) (by ktr_units) (c_mul (by ktn_open) (by ktn_open) (by assumption) (by assumption)) ?_); (intro l9 n9 vs9 h9 tk9 hv9 F9 N9 hne9; (try dsimp only at hv9); skip; all_goals ((try k_sweep); (try dsimp only); (try k_fold))))) | (k_here; (with_reducible show wpAny _ _ (call (Value.ref 266) [Value.int _ _, Value.int _ _]) _ _ _); k_dflt ((first | refine' Meets.useL (by k_asm) (by k_asm) (by k_asm) (by k_asm) (by k_asm) (by exact rfl) (by exact rfl) (by tb_start) (by ktr_room) (by ktr_units) (c_limbs1 (by omega) (by omega) (by assumption) (by assumption)) ?_); (intro l9 n9 vs9 h9 tk9 hv9 F9 N9 hne9; (try dsimp only at hv9); (obtain ⟨t9, e9⟩ := hv9; subst e9); all_goals ((try k_sweep); (try dsimp only); (try k_fold))))) | (k_here; (with_reducible show wpAny _ _ (call (Value.ref 266) [Value.int _ _, Value.int _ _]) _ _ _); k_dflt ((first | refine' Meets.useL (by k_asm) (by k_asm) (by k_asm) (by k_asm) (by k_asm) (by exact rfl) (by exact rfl) (by tb_start) (by ktr_room) (by ktr_units) (c_limbs (by omega) (by omega) (by assumption) (by assumption)) ?_); (intro l9 n9 vs9 h9 tk9 hv9 F9 N9 hne9; (try dsimp only at hv9); skip; all_goals ((try k_sweep); (try dsimp only); (try k_fold))))) | (k_here; (with_reducible show wpAny _ _ (call (Value.ref 280) [Value.int _ _, Value.int _ _, Value.int _ _]) _ _ _); k_dflt ((first | refine' MeetsT.useT (by k_asm) (by k_asm) (by k_asm) (by k_asm) (by k_asm) (by exact rfl) (by exact rfl) (by ktr_room) (by ktr_units) (c_linv (by omega) (by omega) (by omega) (by omega) (by omega) (by omega)) ?_); (intro c9 t9 h9 tk9 hp9 F9 N9; (try dsimp only at hp9); (subst hp9); all_goals ((try k_sweep); (try dsimp only); (try k_fold))))) | (k_unfold; (try dsimp only)) | walk1 | (dsimp only; walk1))
            (rename IsRange _ _ _ _ _ _ _ _ => rgX)
            (rename Fr _ _ _ _ => lF2)
            (rename News _ _ _ _ => lN2)
            k_dflt (refine' SrcS.mk (by rfl) lF2 lN2 (by exact rgX) (step_small (by omega) (by omega)) (step_size _) (step_room (by omega)) ?rtx15)
            intro g'
            clear rgX lF2 lN2
            k_dflt (refine' kci_rest (ks := stepKs (stepN (md + 1))) (dv md) (step_len _) (step_at _) (fun k' t' I' oI' C' oC' D' m' ys' l' h' tk' E' hk' hI' hC' hx' F' N' off' ne' => ?trnx15) ?fnnx15 ?hggx15)
            all_goals (try ((show KPfMark → _); intro hMark'))
            case hggx15 => exact dv_grows _
            case trnx15 =>
              have hk4 : 3 ≤ k' := (step_mem hk').1
              clear ne' hk'
              (try k_fold)
              repeat' ((fail_if_success (with_reducible show LCg.CompEnd _ _ _ _ _ _ _ _ _ _ _ _ _ _)); first | (k_here; (with_reducible show wpAny _ _ (call (Value.ref 252) [Value.ref _, Value.ref _, Value.int _ _]) _ _ _); k_dflt ((first | refine' Meets.useLL (by k_asm) (by k_asm) (by k_asm) (by k_asm) (by k_asm) (by exact rfl) (by exact rfl) (by tb_start) (by ktr_room) (by ktr_units) (c_drs (by ktn_open) (by omega) (by omega) (by assumption) (by assumption)) ?_); (intro a9 l9 n9 vs9 k9 o9 ws9 h9 tk9 hv9 F9 N9 hne9 hnf9 hng9; (try dsimp only at hv9); (obtain ⟨hq9, hr9⟩ := hv9); all_goals ((try k_sweep); (try dsimp only); (try k_fold))))) | (k_here; (with_reducible show wpAny _ _ (call (Value.ref 210) [Value.ref _, Value.ref _, Value.int _ _]) _ _ _); k_dflt ((first | refine' Meets.useL (by k_asm) (by k_asm) (by k_asm) (by k_asm) (by k_asm) (by exact rfl) (by exact rfl) (by tb_start) (by ktr_room) (by ktr_units) (c_mul (by ktn_open) (by ktn_open) (by assumption) (by assumption)) ?_); (intro l9 n9 vs9 h9 tk9 hv9 F9 N9 hne9; (try dsimp only at hv9); skip; all_goals ((try k_sweep); (try dsimp only); (try k_fold))))) | (k_here; (with_reducible show wpAny _ _ (call (Value.ref 266) [Value.int _ _, Value.int _ _]) _ _ _); k_dflt ((first | refine' Meets.useL (by k_asm) (by k_asm) (by k_asm) (by k_asm) (by k_asm) (by exact rfl) (by exact rfl) (by tb_start) (by ktr_room) (by ktr_units) (c_limbs1 (by omega) (by omega) (by assumption) (by assumption)) ?_); (intro l9 n9 vs9 h9 tk9 hv9 F9 N9 hne9; (try dsimp only at hv9); (obtain ⟨t9, e9⟩ := hv9; subst e9); all_goals ((try k_sweep); (try dsimp only); (try k_fold))))) | (k_here; (with_reducible show wpAny _ _ (call (Value.ref 266) [Value.int _ _, Value.int _ _]) _ _ _); k_dflt ((first | refine' Meets.useL (by k_asm) (by k_asm) (by k_asm) (by k_asm) (by k_asm) (by exact rfl) (by exact rfl) (by tb_start) (by ktr_room) (by ktr_units) (c_limbs (by omega) (by omega) (by assumption) (by assumption)) ?_); (intro l9 n9 vs9 h9 tk9 hv9 F9 N9 hne9; (try dsimp only at hv9); skip; all_goals ((try k_sweep); (try dsimp only); (try k_fold))))) | (k_here; (with_reducible show wpAny _ _ (call (Value.ref 280) [Value.int _ _, Value.int _ _, Value.int _ _]) _ _ _); k_dflt ((first | refine' MeetsT.useT (by k_asm) (by k_asm) (by k_asm) (by k_asm) (by k_asm) (by exact rfl) (by exact rfl) (by ktr_room) (by ktr_units) (c_linv (by omega) (by omega) (by omega) (by omega) (by omega) (by omega)) ?_); (intro c9 t9 h9 tk9 hp9 F9 N9; (try dsimp only at hp9); (subst hp9); all_goals ((try k_sweep); (try dsimp only); (try k_fold))))) | (k_unfold; (try dsimp only)) | walk1 | (dsimp only; walk1))
              all_goals ((rename Fr _ _ _ _ => lF9); (rename News _ _ _ _ => lN9))
              all_goals first
                | exact ⟨_, _, _, rfl, lF9, lN9, off', True.intro, rfl, _, _, rfl, if_pos (by assumption)⟩
                | exact ⟨_, _, _, rfl, lF9, lN9, off', True.intro, rfl, if_neg (by assumption)⟩
            case fnnx15 =>
              intro zs hIz hlz D8 h8 tk8 F8 N8 off8
              change IntsAre zs (oddL md) at hIz
              clear hlz off8 hIx
              as_aux_lemma =>
                w_top off
                (try k_fold)
                repeat' ((fail_if_success (with_reducible show wpAny _ _ (exec (Stmt.Assign [Expr.Name (Str.ofString "odd") _] _ _) _) _ _ _)); first | (k_here; (with_reducible show wpAny _ _ (call (Value.ref 252) [Value.ref _, Value.ref _, Value.int _ _]) _ _ _); k_dflt ((first | refine' Meets.useLL (by k_asm) (by k_asm) (by k_asm) (by k_asm) (by k_asm) (by exact rfl) (by exact rfl) (by tb_start) (by ktr_room) (by ktr_units) (c_drs (by ktn_open) (by omega) (by omega) (by assumption) (by assumption)) ?_); (intro a9 l9 n9 vs9 k9 o9 ws9 h9 tk9 hv9 F9 N9 hne9 hnf9 hng9; (try dsimp only at hv9); (obtain ⟨hq9, hr9⟩ := hv9); all_goals ((try k_sweep); (try dsimp only); (try k_fold))))) | (k_here; (with_reducible show wpAny _ _ (call (Value.ref 210) [Value.ref _, Value.ref _, Value.int _ _]) _ _ _); k_dflt ((first | refine' Meets.useL (by k_asm) (by k_asm) (by k_asm) (by k_asm) (by k_asm) (by exact rfl) (by exact rfl) (by tb_start) (by ktr_room) (by ktr_units) (c_mul (by ktn_open) (by ktn_open) (by assumption) (by assumption)) ?_); (intro l9 n9 vs9 h9 tk9 hv9 F9 N9 hne9; (try dsimp only at hv9); skip; all_goals ((try k_sweep); (try dsimp only); (try k_fold))))) | (k_here; (with_reducible show wpAny _ _ (call (Value.ref 266) [Value.int _ _, Value.int _ _]) _ _ _); k_dflt ((first | refine' Meets.useL (by k_asm) (by k_asm) (by k_asm) (by k_asm) (by k_asm) (by exact rfl) (by exact rfl) (by tb_start) (by ktr_room) (by ktr_units) (c_limbs1 (by omega) (by omega) (by assumption) (by assumption)) ?_); (intro l9 n9 vs9 h9 tk9 hv9 F9 N9 hne9; (try dsimp only at hv9); (obtain ⟨t9, e9⟩ := hv9; subst e9); all_goals ((try k_sweep); (try dsimp only); (try k_fold))))) | (k_here; (with_reducible show wpAny _ _ (call (Value.ref 266) [Value.int _ _, Value.int _ _]) _ _ _); k_dflt ((first | refine' Meets.useL (by k_asm) (by k_asm) (by k_asm) (by k_asm) (by k_asm) (by exact rfl) (by exact rfl) (by tb_start) (by ktr_room) (by ktr_units) (c_limbs (by omega) (by omega) (by assumption) (by assumption)) ?_); (intro l9 n9 vs9 h9 tk9 hv9 F9 N9 hne9; (try dsimp only at hv9); skip; all_goals ((try k_sweep); (try dsimp only); (try k_fold))))) | (k_here; (with_reducible show wpAny _ _ (call (Value.ref 280) [Value.int _ _, Value.int _ _, Value.int _ _]) _ _ _); k_dflt ((first | refine' MeetsT.useT (by k_asm) (by k_asm) (by k_asm) (by k_asm) (by k_asm) (by exact rfl) (by exact rfl) (by ktr_room) (by ktr_units) (c_linv (by omega) (by omega) (by omega) (by omega) (by omega) (by omega)) ?_); (intro c9 t9 h9 tk9 hp9 F9 N9; (try dsimp only at hp9); (subst hp9); all_goals ((try k_sweep); (try dsimp only); (try k_fold))))) | (k_unfold; (try dsimp only)) | walk1 | (dsimp only; walk1))
                (rename Fr _ _ _ _ => lF0)
                lcg_calm
                k_dflt (refine Assign_ListComp_C (p := primeP) lF0 (by rfl) (by with_unfolding_all rfl) (by with_unfolding_all rfl) (by rfl) (fun _ => rfl) (fun _ => rfl) (by decide) (by rfl) (by decide) (by rfl) (by rfl) ?_)
                repeat' ((fail_if_success (with_reducible show SrcC _ _ _ _ _ _ _ _ _ _ _ _ _ _ _)); first | (k_here; (with_reducible show wpAny _ _ (call (Value.ref 252) [Value.ref _, Value.ref _, Value.int _ _]) _ _ _); k_dflt ((first | refine' Meets.useLL (by k_asm) (by k_asm) (by k_asm) (by k_asm) (by k_asm) (by exact rfl) (by exact rfl) (by tb_start) (by ktr_room) (by ktr_units) (c_drs (by ktn_open) (by omega) (by omega) (by assumption) (by assumption)) ?_); (intro a9 l9 n9 vs9 k9 o9 ws9 h9 tk9 hv9 F9 N9 hne9 hnf9 hng9; (try dsimp only at hv9); (obtain ⟨hq9, hr9⟩ := hv9); all_goals ((try k_sweep); (try dsimp only); (try k_fold))))) | (k_here; (with_reducible show wpAny _ _ (call (Value.ref 210) [Value.ref _, Value.ref _, Value.int _ _]) _ _ _); k_dflt ((first | refine' Meets.useL (by k_asm) (by k_asm) (by k_asm) (by k_asm) (by k_asm) (by exact rfl) (by exact rfl) (by tb_start) (by ktr_room) (by ktr_units) (c_mul (by ktn_open) (by ktn_open) (by assumption) (by assumption)) ?_); (intro l9 n9 vs9 h9 tk9 hv9 F9 N9 hne9; (try dsimp only at hv9); skip; all_goals ((try k_sweep); (try dsimp only); (try k_fold))))) | (k_here; (with_reducible show wpAny _ _ (call (Value.ref 266) [Value.int _ _, Value.int _ _]) _ _ _); k_dflt ((first | refine' Meets.useL (by k_asm) (by k_asm) (by k_asm) (by k_asm) (by k_asm) (by exact rfl) (by exact rfl) (by tb_start) (by ktr_room) (by ktr_units) (c_limbs1 (by omega) (by omega) (by assumption) (by assumption)) ?_); (intro l9 n9 vs9 h9 tk9 hv9 F9 N9 hne9; (try dsimp only at hv9); (obtain ⟨t9, e9⟩ := hv9; subst e9); all_goals ((try k_sweep); (try dsimp only); (try k_fold))))) | (k_here; (with_reducible show wpAny _ _ (call (Value.ref 266) [Value.int _ _, Value.int _ _]) _ _ _); k_dflt ((first | refine' Meets.useL (by k_asm) (by k_asm) (by k_asm) (by k_asm) (by k_asm) (by exact rfl) (by exact rfl) (by tb_start) (by ktr_room) (by ktr_units) (c_limbs (by omega) (by omega) (by assumption) (by assumption)) ?_); (intro l9 n9 vs9 h9 tk9 hv9 F9 N9 hne9; (try dsimp only at hv9); skip; all_goals ((try k_sweep); (try dsimp only); (try k_fold))))) | (k_here; (with_reducible show wpAny _ _ (call (Value.ref 280) [Value.int _ _, Value.int _ _, Value.int _ _]) _ _ _); k_dflt ((first | refine' MeetsT.useT (by k_asm) (by k_asm) (by k_asm) (by k_asm) (by k_asm) (by exact rfl) (by exact rfl) (by ktr_room) (by ktr_units) (c_linv (by omega) (by omega) (by omega) (by omega) (by omega) (by omega)) ?_); (intro c9 t9 h9 tk9 hp9 F9 N9; (try dsimp only at hp9); (subst hp9); all_goals ((try k_sweep); (try dsimp only); (try k_fold))))) | (k_unfold; (try dsimp only)) | walk1 | (dsimp only; walk1))
                (rename Fr _ _ _ _ => lF2)
                (rename News _ _ _ _ => lN2)
                k_dflt (refine' SrcC.mk (by rfl) lF2 lN2 ?qmx16 ?qzx16 hIz ?trnx16 ?fnnx16)
                case qmx16 => k_mem
                case qzx16 =>
                  rw [List.size_toArray, hIz.length, PySem.sizeLine_eq]
                  omega
                case trnx16 =>
                  intro g'
                  intro k t K oK I oI C D ys h tk E' hk hK F N
                  as_aux_lemma =>
                    w_top off
                    have hkb := odd_mem hk h24
                    (rename Fr _ _ _ _ => lF0)
                    (try k_fold)
                    repeat' ((fail_if_success (with_reducible show wpAny _ _ (eval (Expr.ListComp _ _ _ _) _) _ _ _)); first | (k_here; (with_reducible show wpAny _ _ (call (Value.ref 252) [Value.ref _, Value.ref _, Value.int _ _]) _ _ _); k_dflt ((first | refine' Meets.useLL (by k_asm) (by k_asm) (by k_asm) (by k_asm) (by k_asm) (by exact rfl) (by exact rfl) (by tb_start) (by ktr_room) (by ktr_units) (c_drs (by ktn_open) (by omega) (by omega) (by assumption) (by assumption)) ?_); (intro a9 l9 n9 vs9 k9 o9 ws9 h9 tk9 hv9 F9 N9 hne9 hnf9 hng9; (try dsimp only at hv9); (obtain ⟨hq9, hr9⟩ := hv9); all_goals ((try k_sweep); (try dsimp only); (try k_fold))))) | (k_here; (with_reducible show wpAny _ _ (call (Value.ref 210) [Value.ref _, Value.ref _, Value.int _ _]) _ _ _); k_dflt ((first | refine' Meets.useL (by k_asm) (by k_asm) (by k_asm) (by k_asm) (by k_asm) (by exact rfl) (by exact rfl) (by tb_start) (by ktr_room) (by ktr_units) (c_mul (by ktn_open) (by ktn_open) (by assumption) (by assumption)) ?_); (intro l9 n9 vs9 h9 tk9 hv9 F9 N9 hne9; (try dsimp only at hv9); skip; all_goals ((try k_sweep); (try dsimp only); (try k_fold))))) | (k_here; (with_reducible show wpAny _ _ (call (Value.ref 266) [Value.int _ _, Value.int _ _]) _ _ _); k_dflt ((first | refine' Meets.useL (by k_asm) (by k_asm) (by k_asm) (by k_asm) (by k_asm) (by exact rfl) (by exact rfl) (by tb_start) (by ktr_room) (by ktr_units) (c_limbs1 (by omega) (by omega) (by assumption) (by assumption)) ?_); (intro l9 n9 vs9 h9 tk9 hv9 F9 N9 hne9; (try dsimp only at hv9); (obtain ⟨t9, e9⟩ := hv9; subst e9); all_goals ((try k_sweep); (try dsimp only); (try k_fold))))) | (k_here; (with_reducible show wpAny _ _ (call (Value.ref 266) [Value.int _ _, Value.int _ _]) _ _ _); k_dflt ((first | refine' Meets.useL (by k_asm) (by k_asm) (by k_asm) (by k_asm) (by k_asm) (by exact rfl) (by exact rfl) (by tb_start) (by ktr_room) (by ktr_units) (c_limbs (by omega) (by omega) (by assumption) (by assumption)) ?_); (intro l9 n9 vs9 h9 tk9 hv9 F9 N9 hne9; (try dsimp only at hv9); skip; all_goals ((try k_sweep); (try dsimp only); (try k_fold))))) | (k_here; (with_reducible show wpAny _ _ (call (Value.ref 280) [Value.int _ _, Value.int _ _, Value.int _ _]) _ _ _); k_dflt ((first | refine' MeetsT.useT (by k_asm) (by k_asm) (by k_asm) (by k_asm) (by k_asm) (by exact rfl) (by exact rfl) (by ktr_room) (by ktr_units) (c_linv (by omega) (by omega) (by omega) (by omega) (by omega) (by omega)) ?_); (intro c9 t9 h9 tk9 hp9 F9 N9; (try dsimp only at hp9); (subst hp9); all_goals ((try k_sweep); (try dsimp only); (try k_fold))))) | (k_unfold; (try dsimp only)) | walk1 | (dsimp only; walk1))
                    lcg_calm; k_dflt (refine ListComp_S lF0 (by with_unfolding_all rfl) (by decide) (by rfl) (by decide) (by rfl) ?_)
                    repeat' ((fail_if_success (with_reducible show SrcS _ _ _ _ _ _ _ _ _ _ _ _ _ _ _)); first | (k_here; (with_reducible show wpAny _ _ (call (Value.ref 252) [Value.ref _, Value.ref _, Value.int _ _]) _ _ _); k_dflt ((first | refine' Meets.useLL (by k_asm) (by k_asm) (by k_asm) (by k_asm) (by k_asm) (by exact rfl) (by exact rfl) (by tb_start) (by ktr_room) (by ktr_units) (c_drs (by ktn_open) (by omega) (by omega) (by assumption) (by assumption)) ?_); (intro a9 l9 n9 vs9 k9 o9 ws9 h9 tk9 hv9 F9 N9 hne9 hnf9 hng9; (try dsimp only at hv9); (obtain ⟨hq9, hr9⟩ := hv9); all_goals ((try k_sweep); (try dsimp only); (try k_fold))))) | (k_here; (with_reducible show wpAny _ _ (call (Value.ref 210) [Value.ref _, Value.ref _, Value.int _ _]) _ _ _); k_dflt ((first | refine' Meets.useL (by k_asm) (by k_asm) (by k_asm) (by k_asm) (by k_asm) (by exact rfl) (by exact rfl) (by tb_start) (by ktr_room) (by ktr_units) (c_mul (by ktn_open) (by ktn_open) (by assumption) (by assumption)) ?_); (intro l9 n9 vs9 h9 tk9 hv9 F9 N9 hne9; (try dsimp only at hv9); skip; all_goals ((try k_sweep); (try dsimp only); (try k_fold))))) | (k_here; (with_reducible show wpAny _ _ (call (Value.ref 266) [Value.int _ _, Value.int _ _]) _ _ _); k_dflt ((first | refine' Meets.useL (by k_asm) (by k_asm) (by k_asm) (by k_asm) (by k_asm) (by exact rfl) (by exact rfl) (by tb_start) (by ktr_room) (by ktr_units) (c_limbs1 (by omega) (by omega) (by assumption) (by assumption)) ?_); (intro l9 n9 vs9 h9 tk9 hv9 F9 N9 hne9; (try dsimp only at hv9); (obtain ⟨t9, e9⟩ := hv9; subst e9); all_goals ((try k_sweep); (try dsimp only); (try k_fold))))) | (k_here; (with_reducible show wpAny _ _ (call (Value.ref 266) [Value.int _ _, Value.int _ _]) _ _ _); k_dflt ((first | refine' Meets.useL (by k_asm) (by k_asm) (by k_asm) (by k_asm) (by k_asm) (by exact rfl) (by exact rfl) (by tb_start) (by ktr_room) (by ktr_units) (c_limbs (by omega) (by omega) (by assumption) (by assumption)) ?_); (intro l9 n9 vs9 h9 tk9 hv9 F9 N9 hne9; (try dsimp only at hv9); skip; all_goals ((try k_sweep); (try dsimp only); (try k_fold))))) | (k_here; (with_reducible show wpAny _ _ (call (Value.ref 280) [Value.int _ _, Value.int _ _, Value.int _ _]) _ _ _); k_dflt ((first | refine' MeetsT.useT (by k_asm) (by k_asm) (by k_asm) (by k_asm) (by k_asm) (by exact rfl) (by exact rfl) (by ktr_room) (by ktr_units) (c_linv (by omega) (by omega) (by omega) (by omega) (by omega) (by omega)) ?_); (intro c9 t9 h9 tk9 hp9 F9 N9; (try dsimp only at hp9); (subst hp9); all_goals ((try k_sweep); (try dsimp only); (try k_fold))))) | (k_unfold; (try dsimp only)) | walk1 | (dsimp only; walk1))
                    (rename IsRange _ _ _ _ _ _ _ _ => rgX)
                    (rename Fr _ _ _ _ => lF2)
                    (rename News _ _ _ _ => lN2)
                    k_dflt (refine' SrcS.mk (by rfl) lF2 lN2 (by exact rgX) (step_small (by omega) (by omega)) (step_size _) (step_room (by omega)) ?rtx17)
                    intro g'
                    clear rgX lF2 lN2
                    k_dflt (refine' kci_rest (ks := stepKs (stepN k)) (dv k) (step_len _) (step_at _) (fun k' t' I' oI' C' oC' D' m' ys' l' h' tk' E' hk' hI' hC' hx' F' N' off' ne' => ?trnx17) ?fnnx17 ?hggx17)
                    all_goals (try ((show KPfMark → _); intro hMark'))
                    case hggx17 => exact dv_grows _
                    case trnx17 =>
                      have hk4 : 3 ≤ k' := (step_mem hk').1
                      clear ne' hk'
                      (try k_fold)
                      repeat' ((fail_if_success (with_reducible show LCg.CompEnd _ _ _ _ _ _ _ _ _ _ _ _ _ _)); first | (k_here; (with_reducible show wpAny _ _ (call (Value.ref 252) [Value.ref _, Value.ref _, Value.int _ _]) _ _ _); k_dflt ((first | refine' Meets.useLL (by k_asm) (by k_asm) (by k_asm) (by k_asm) (by k_asm) (by exact rfl) (by exact rfl) (by tb_start) (by ktr_room) (by ktr_units) (c_drs (by ktn_open) (by omega) (by omega) (by assumption) (by assumption)) ?_); (intro a9 l9 n9 vs9 k9 o9 ws9 h9 tk9 hv9 F9 N9 hne9 hnf9 hng9; (try dsimp only at hv9); (obtain ⟨hq9, hr9⟩ := hv9); all_goals ((try k_sweep); (try dsimp only); (try k_fold))))) | (k_here; (with_reducible show wpAny _ _ (call (Value.ref 210) [Value.ref _, Value.ref _, Value.int _ _]) _ _ _); k_dflt ((first | refine' Meets.useL (by k_asm) (by k_asm) (by k_asm) (by k_asm) (by k_asm) (by exact rfl) (by exact rfl) (by tb_start) (by ktr_room) (by ktr_units) (c_mul (by ktn_open) (by ktn_open) (by assumption) (by assumption)) ?_); (intro l9 n9 vs9 h9 tk9 hv9 F9 N9 hne9; (try dsimp only at hv9); skip; all_goals ((try k_sweep); (try dsimp only); (try k_fold))))) | (k_here; (with_reducible show wpAny _ _ (call (Value.ref 266) [Value.int _ _, Value.int _ _]) _ _ _); k_dflt ((first | refine' Meets.useL (by k_asm) (by k_asm) (by k_asm) (by k_asm) (by k_asm) (by exact rfl) (by exact rfl) (by tb_start) (by ktr_room) (by ktr_units) (c_limbs1 (by omega) (by omega) (by assumption) (by assumption)) ?_); (intro l9 n9 vs9 h9 tk9 hv9 F9 N9 hne9; (try dsimp only at hv9); (obtain ⟨t9, e9⟩ := hv9; subst e9); all_goals ((try k_sweep); (try dsimp only); (try k_fold))))) | (k_here; (with_reducible show wpAny _ _ (call (Value.ref 266) [Value.int _ _, Value.int _ _]) _ _ _); k_dflt ((first | refine' Meets.useL (by k_asm) (by k_asm) (by k_asm) (by k_asm) (by k_asm) (by exact rfl) (by exact rfl) (by tb_start) (by ktr_room) (by ktr_units) (c_limbs (by omega) (by omega) (by assumption) (by assumption)) ?_); (intro l9 n9 vs9 h9 tk9 hv9 F9 N9 hne9; (try dsimp only at hv9); skip; all_goals ((try k_sweep); (try dsimp only); (try k_fold))))) | (k_here; (with_reducible show wpAny _ _ (call (Value.ref 280) [Value.int _ _, Value.int _ _, Value.int _ _]) _ _ _); k_dflt ((first | refine' MeetsT.useT (by k_asm) (by k_asm) (by k_asm) (by k_asm) (by k_asm) (by exact rfl) (by exact rfl) (by ktr_room) (by ktr_units) (c_linv (by omega) (by omega) (by omega) (by omega) (by omega) (by omega)) ?_); (intro c9 t9 h9 tk9 hp9 F9 N9; (try dsimp only at hp9); (subst hp9); all_goals ((try k_sweep); (try dsimp only); (try k_fold))))) | (k_unfold; (try dsimp only)) | walk1 | (dsimp only; walk1))
                      all_goals ((rename Fr _ _ _ _ => lF9); (rename News _ _ _ _ => lN9))
                      all_goals first
                        | exact ⟨_, _, _, rfl, lF9, lN9, off', True.intro, rfl, _, _, rfl, if_pos (by assumption)⟩
                        | exact ⟨_, _, _, rfl, lF9, lN9, off', True.intro, rfl, if_neg (by assumption)⟩
                    case fnnx17 =>
                      intro us hIu hlu D6 h6 tk6 F6 N6 off6
                      change IntsAre us (innerL k) at hIu
                      clear hlu off6
                      (try k_fold)
                      repeat' ((fail_if_success (with_reducible show wpAny _ _ (compareOp _ _ _) _ _ _)); first | (k_here; (with_reducible show wpAny _ _ (call (Value.ref 252) [Value.ref _, Value.ref _, Value.int _ _]) _ _ _); k_dflt ((first | refine' Meets.useLL (by k_asm) (by k_asm) (by k_asm) (by k_asm) (by k_asm) (by exact rfl) (by exact rfl) (by tb_start) (by ktr_room) (by ktr_units) (c_drs (by ktn_open) (by omega) (by omega) (by assumption) (by assumption)) ?_); (intro a9 l9 n9 vs9 k9 o9 ws9 h9 tk9 hv9 F9 N9 hne9 hnf9 hng9; (try dsimp only at hv9); (obtain ⟨hq9, hr9⟩ := hv9); all_goals ((try k_sweep); (try dsimp only); (try k_fold))))) | (k_here; (with_reducible show wpAny _ _ (call (Value.ref 210) [Value.ref _, Value.ref _, Value.int _ _]) _ _ _); k_dflt ((first | refine' Meets.useL (by k_asm) (by k_asm) (by k_asm) (by k_asm) (by k_asm) (by exact rfl) (by exact rfl) (by tb_start) (by ktr_room) (by ktr_units) (c_mul (by ktn_open) (by ktn_open) (by assumption) (by assumption)) ?_); (intro l9 n9 vs9 h9 tk9 hv9 F9 N9 hne9; (try dsimp only at hv9); skip; all_goals ((try k_sweep); (try dsimp only); (try k_fold))))) | (k_here; (with_reducible show wpAny _ _ (call (Value.ref 266) [Value.int _ _, Value.int _ _]) _ _ _); k_dflt ((first | refine' Meets.useL (by k_asm) (by k_asm) (by k_asm) (by k_asm) (by k_asm) (by exact rfl) (by exact rfl) (by tb_start) (by ktr_room) (by ktr_units) (c_limbs1 (by omega) (by omega) (by assumption) (by assumption)) ?_); (intro l9 n9 vs9 h9 tk9 hv9 F9 N9 hne9; (try dsimp only at hv9); (obtain ⟨t9, e9⟩ := hv9; subst e9); all_goals ((try k_sweep); (try dsimp only); (try k_fold))))) | (k_here; (with_reducible show wpAny _ _ (call (Value.ref 266) [Value.int _ _, Value.int _ _]) _ _ _); k_dflt ((first | refine' Meets.useL (by k_asm) (by k_asm) (by k_asm) (by k_asm) (by k_asm) (by exact rfl) (by exact rfl) (by tb_start) (by ktr_room) (by ktr_units) (c_limbs (by omega) (by omega) (by assumption) (by assumption)) ?_); (intro l9 n9 vs9 h9 tk9 hv9 F9 N9 hne9; (try dsimp only at hv9); skip; all_goals ((try k_sweep); (try dsimp only); (try k_fold))))) | (k_here; (with_reducible show wpAny _ _ (call (Value.ref 280) [Value.int _ _, Value.int _ _, Value.int _ _]) _ _ _); k_dflt ((first | refine' MeetsT.useT (by k_asm) (by k_asm) (by k_asm) (by k_asm) (by k_asm) (by exact rfl) (by exact rfl) (by ktr_room) (by ktr_units) (c_linv (by omega) (by omega) (by omega) (by omega) (by omega) (by omega)) ?_); (intro c9 t9 h9 tk9 hp9 F9 N9; (try dsimp only at hp9); (subst hp9); all_goals ((try k_sweep); (try dsimp only); (try k_fold))))) | (k_unfold; (try dsimp only)) | walk1 | (dsimp only; walk1))
                      k_dflt (refine' eq_intsK ?k1x17 hIu ?k3x17 IntsAre.nil ?k5x17 ?_)
                      case k1x17 => is_list
                      case k3x17 => is_list
                      case k5x17 => units_room
                      repeat' ((fail_if_success (with_reducible show _ ∧ _)); first | (k_here; (with_reducible show wpAny _ _ (call (Value.ref 252) [Value.ref _, Value.ref _, Value.int _ _]) _ _ _); k_dflt ((first | refine' Meets.useLL (by k_asm) (by k_asm) (by k_asm) (by k_asm) (by k_asm) (by exact rfl) (by exact rfl) (by tb_start) (by ktr_room) (by ktr_units) (c_drs (by ktn_open) (by omega) (by omega) (by assumption) (by assumption)) ?_); (intro a9 l9 n9 vs9 k9 o9 ws9 h9 tk9 hv9 F9 N9 hne9 hnf9 hng9; (try dsimp only at hv9); (obtain ⟨hq9, hr9⟩ := hv9); all_goals ((try k_sweep); (try dsimp only); (try k_fold))))) | (k_here; (with_reducible show wpAny _ _ (call (Value.ref 210) [Value.ref _, Value.ref _, Value.int _ _]) _ _ _); k_dflt ((first | refine' Meets.useL (by k_asm) (by k_asm) (by k_asm) (by k_asm) (by k_asm) (by exact rfl) (by exact rfl) (by tb_start) (by ktr_room) (by ktr_units) (c_mul (by ktn_open) (by ktn_open) (by assumption) (by assumption)) ?_); (intro l9 n9 vs9 h9 tk9 hv9 F9 N9 hne9; (try dsimp only at hv9); skip; all_goals ((try k_sweep); (try dsimp only); (try k_fold))))) | (k_here; (with_reducible show wpAny _ _ (call (Value.ref 266) [Value.int _ _, Value.int _ _]) _ _ _); k_dflt ((first | refine' Meets.useL (by k_asm) (by k_asm) (by k_asm) (by k_asm) (by k_asm) (by exact rfl) (by exact rfl) (by tb_start) (by ktr_room) (by ktr_units) (c_limbs1 (by omega) (by omega) (by assumption) (by assumption)) ?_); (intro l9 n9 vs9 h9 tk9 hv9 F9 N9 hne9; (try dsimp only at hv9); (obtain ⟨t9, e9⟩ := hv9; subst e9); all_goals ((try k_sweep); (try dsimp only); (try k_fold))))) | (k_here; (with_reducible show wpAny _ _ (call (Value.ref 266) [Value.int _ _, Value.int _ _]) _ _ _); k_dflt ((first | refine' Meets.useL (by k_asm) (by k_asm) (by k_asm) (by k_asm) (by k_asm) (by exact rfl) (by exact rfl) (by tb_start) (by ktr_room) (by ktr_units) (c_limbs (by omega) (by omega) (by assumption) (by assumption)) ?_); (intro l9 n9 vs9 h9 tk9 hv9 F9 N9 hne9; (try dsimp only at hv9); skip; all_goals ((try k_sweep); (try dsimp only); (try k_fold))))) | (k_here; (with_reducible show wpAny _ _ (call (Value.ref 280) [Value.int _ _, Value.int _ _, Value.int _ _]) _ _ _); k_dflt ((first | refine' MeetsT.useT (by k_asm) (by k_asm) (by k_asm) (by k_asm) (by k_asm) (by exact rfl) (by exact rfl) (by ktr_room) (by ktr_units) (c_linv (by omega) (by omega) (by omega) (by omega) (by omega) (by omega)) ?_); (intro c9 t9 h9 tk9 hp9 F9 N9; (try dsimp only at hp9); (subst hp9); all_goals ((try k_sweep); (try dsimp only); (try k_fold))))) | (k_unfold; (try dsimp only)) | walk1 | (dsimp only; walk1))
                      all_goals ((rename Fr _ _ _ _ => lF9); (rename News _ _ _ _ => lN9))
                      refine ⟨rfl, _, _, rfl, lF9, fun p hp => lN9 p ?_⟩
                      exact List.mem_cons_of_mem _ (List.mem_cons_of_mem _ hp)
                case fnnx16 =>
                  intro g' xs hIy
                  intro D7 h7 tk7 F7 N7 off7
                  clear off7
                  change IntsAre xs (oddF md) at hIy
                  as_aux_lemma =>
                    w_top off
                    have hll := lens_at h3 h24
                    (try k_fold)
                    repeat' ((fail_if_success (with_reducible show wpAny _ _ (call (Value.builtin "len") _) _ _ _)); first | (k_here; (with_reducible show wpAny _ _ (call (Value.ref 252) [Value.ref _, Value.ref _, Value.int _ _]) _ _ _); k_dflt ((first | refine' Meets.useLL (by k_asm) (by k_asm) (by k_asm) (by k_asm) (by k_asm) (by exact rfl) (by exact rfl) (by tb_start) (by ktr_room) (by ktr_units) (c_drs (by ktn_open) (by omega) (by omega) (by assumption) (by assumption)) ?_); (intro a9 l9 n9 vs9 k9 o9 ws9 h9 tk9 hv9 F9 N9 hne9 hnf9 hng9; (try dsimp only at hv9); (obtain ⟨hq9, hr9⟩ := hv9); all_goals ((try k_sweep); (try dsimp only); (try k_fold))))) | (k_here; (with_reducible show wpAny _ _ (call (Value.ref 210) [Value.ref _, Value.ref _, Value.int _ _]) _ _ _); k_dflt ((first | refine' Meets.useL (by k_asm) (by k_asm) (by k_asm) (by k_asm) (by k_asm) (by exact rfl) (by exact rfl) (by tb_start) (by ktr_room) (by ktr_units) (c_mul (by ktn_open) (by ktn_open) (by assumption) (by assumption)) ?_); (intro l9 n9 vs9 h9 tk9 hv9 F9 N9 hne9; (try dsimp only at hv9); skip; all_goals ((try k_sweep); (try dsimp only); (try k_fold))))) | (k_here; (with_reducible show wpAny _ _ (call (Value.ref 266) [Value.int _ _, Value.int _ _]) _ _ _); k_dflt ((first | refine' Meets.useL (by k_asm) (by k_asm) (by k_asm) (by k_asm) (by k_asm) (by exact rfl) (by exact rfl) (by tb_start) (by ktr_room) (by ktr_units) (c_limbs1 (by omega) (by omega) (by assumption) (by assumption)) ?_); (intro l9 n9 vs9 h9 tk9 hv9 F9 N9 hne9; (try dsimp only at hv9); (obtain ⟨t9, e9⟩ := hv9; subst e9); all_goals ((try k_sweep); (try dsimp only); (try k_fold))))) | (k_here; (with_reducible show wpAny _ _ (call (Value.ref 266) [Value.int _ _, Value.int _ _]) _ _ _); k_dflt ((first | refine' Meets.useL (by k_asm) (by k_asm) (by k_asm) (by k_asm) (by k_asm) (by exact rfl) (by exact rfl) (by tb_start) (by ktr_room) (by ktr_units) (c_limbs (by omega) (by omega) (by assumption) (by assumption)) ?_); (intro l9 n9 vs9 h9 tk9 hv9 F9 N9 hne9; (try dsimp only at hv9); skip; all_goals ((try k_sweep); (try dsimp only); (try k_fold))))) | (k_here; (with_reducible show wpAny _ _ (call (Value.ref 280) [Value.int _ _, Value.int _ _, Value.int _ _]) _ _ _); k_dflt ((first | refine' MeetsT.useT (by k_asm) (by k_asm) (by k_asm) (by k_asm) (by k_asm) (by exact rfl) (by exact rfl) (by ktr_room) (by ktr_units) (c_linv (by omega) (by omega) (by omega) (by omega) (by omega) (by omega)) ?_); (intro c9 t9 h9 tk9 hp9 F9 N9; (try dsimp only at hp9); (subst hp9); all_goals ((try k_sweep); (try dsimp only); (try k_fold))))) | (k_unfold; (try dsimp only)) | walk1 | (dsimp only; walk1))
                    k_dflt (refine' len_ints_fit ?qax18 hIy ?qbx18 ?_)
                    case qax18 => is_list
                    case qbx18 => omega
                    repeat' ((fail_if_success (with_reducible show wpAny _ _ (binaryOp Operator.Pow _ _) _ _ _)); first | (k_here; (with_reducible show wpAny _ _ (call (Value.ref 252) [Value.ref _, Value.ref _, Value.int _ _]) _ _ _); k_dflt ((first | refine' Meets.useLL (by k_asm) (by k_asm) (by k_asm) (by k_asm) (by k_asm) (by exact rfl) (by exact rfl) (by tb_start) (by ktr_room) (by ktr_units) (c_drs (by ktn_open) (by omega) (by omega) (by assumption) (by assumption)) ?_); (intro a9 l9 n9 vs9 k9 o9 ws9 h9 tk9 hv9 F9 N9 hne9 hnf9 hng9; (try dsimp only at hv9); (obtain ⟨hq9, hr9⟩ := hv9); all_goals ((try k_sweep); (try dsimp only); (try k_fold))))) | (k_here; (with_reducible show wpAny _ _ (call (Value.ref 210) [Value.ref _, Value.ref _, Value.int _ _]) _ _ _); k_dflt ((first | refine' Meets.useL (by k_asm) (by k_asm) (by k_asm) (by k_asm) (by k_asm) (by exact rfl) (by exact rfl) (by tb_start) (by ktr_room) (by ktr_units) (c_mul (by ktn_open) (by ktn_open) (by assumption) (by assumption)) ?_); (intro l9 n9 vs9 h9 tk9 hv9 F9 N9 hne9; (try dsimp only at hv9); skip; all_goals ((try k_sweep); (try dsimp only); (try k_fold))))) | (k_here; (with_reducible show wpAny _ _ (call (Value.ref 266) [Value.int _ _, Value.int _ _]) _ _ _); k_dflt ((first | refine' Meets.useL (by k_asm) (by k_asm) (by k_asm) (by k_asm) (by k_asm) (by exact rfl) (by exact rfl) (by tb_start) (by ktr_room) (by ktr_units) (c_limbs1 (by omega) (by omega) (by assumption) (by assumption)) ?_); (intro l9 n9 vs9 h9 tk9 hv9 F9 N9 hne9; (try dsimp only at hv9); (obtain ⟨t9, e9⟩ := hv9; subst e9); all_goals ((try k_sweep); (try dsimp only); (try k_fold))))) | (k_here; (with_reducible show wpAny _ _ (call (Value.ref 266) [Value.int _ _, Value.int _ _]) _ _ _); k_dflt ((first | refine' Meets.useL (by k_asm) (by k_asm) (by k_asm) (by k_asm) (by k_asm) (by exact rfl) (by exact rfl) (by tb_start) (by ktr_room) (by ktr_units) (c_limbs (by omega) (by omega) (by assumption) (by assumption)) ?_); (intro l9 n9 vs9 h9 tk9 hv9 F9 N9 hne9; (try dsimp only at hv9); skip; all_goals ((try k_sweep); (try dsimp only); (try k_fold))))) | (k_here; (with_reducible show wpAny _ _ (call (Value.ref 280) [Value.int _ _, Value.int _ _, Value.int _ _]) _ _ _); k_dflt ((first | refine' MeetsT.useT (by k_asm) (by k_asm) (by k_asm) (by k_asm) (by k_asm) (by exact rfl) (by exact rfl) (by ktr_room) (by ktr_units) (c_linv (by omega) (by omega) (by omega) (by omega) (by omega) (by omega)) ?_); (intro c9 t9 h9 tk9 hp9 F9 N9; (try dsimp only at hp9); (subst hp9); all_goals ((try k_sweep); (try dsimp only); (try k_fold))))) | (k_unfold; (try dsimp only)) | walk1 | (dsimp only; walk1))
                    refine pow_int_small ?_ ?_ ?_ ?_
                    · omega
                    · omega
                    · decide
                    · repeat' ((fail_if_success (with_reducible show wpAny _ _ (compareOp _ _ _) _ _ _)); first | (k_here; (with_reducible show wpAny _ _ (call (Value.ref 252) [Value.ref _, Value.ref _, Value.int _ _]) _ _ _); k_dflt ((first | refine' Meets.useLL (by k_asm) (by k_asm) (by k_asm) (by k_asm) (by k_asm) (by exact rfl) (by exact rfl) (by tb_start) (by ktr_room) (by ktr_units) (c_drs (by ktn_open) (by omega) (by omega) (by assumption) (by assumption)) ?_); (intro a9 l9 n9 vs9 k9 o9 ws9 h9 tk9 hv9 F9 N9 hne9 hnf9 hng9; (try dsimp only at hv9); (obtain ⟨hq9, hr9⟩ := hv9); all_goals ((try k_sweep); (try dsimp only); (try k_fold))))) | (k_here; (with_reducible show wpAny _ _ (call (Value.ref 210) [Value.ref _, Value.ref _, Value.int _ _]) _ _ _); k_dflt ((first | refine' Meets.useL (by k_asm) (by k_asm) (by k_asm) (by k_asm) (by k_asm) (by exact rfl) (by exact rfl) (by tb_start) (by ktr_room) (by ktr_units) (c_mul (by ktn_open) (by ktn_open) (by assumption) (by assumption)) ?_); (intro l9 n9 vs9 h9 tk9 hv9 F9 N9 hne9; (try dsimp only at hv9); skip; all_goals ((try k_sweep); (try dsimp only); (try k_fold))))) | (k_here; (with_reducible show wpAny _ _ (call (Value.ref 266) [Value.int _ _, Value.int _ _]) _ _ _); k_dflt ((first | refine' Meets.useL (by k_asm) (by k_asm) (by k_asm) (by k_asm) (by k_asm) (by exact rfl) (by exact rfl) (by tb_start) (by ktr_room) (by ktr_units) (c_limbs1 (by omega) (by omega) (by assumption) (by assumption)) ?_); (intro l9 n9 vs9 h9 tk9 hv9 F9 N9 hne9; (try dsimp only at hv9); (obtain ⟨t9, e9⟩ := hv9; subst e9); all_goals ((try k_sweep); (try dsimp only); (try k_fold))))) | (k_here; (with_reducible show wpAny _ _ (call (Value.ref 266) [Value.int _ _, Value.int _ _]) _ _ _); k_dflt ((first | refine' Meets.useL (by k_asm) (by k_asm) (by k_asm) (by k_asm) (by k_asm) (by exact rfl) (by exact rfl) (by tb_start) (by ktr_room) (by ktr_units) (c_limbs (by omega) (by omega) (by assumption) (by assumption)) ?_); (intro l9 n9 vs9 h9 tk9 hv9 F9 N9 hne9; (try dsimp only at hv9); skip; all_goals ((try k_sweep); (try dsimp only); (try k_fold))))) | (k_here; (with_reducible show wpAny _ _ (call (Value.ref 280) [Value.int _ _, Value.int _ _, Value.int _ _]) _ _ _); k_dflt ((first | refine' MeetsT.useT (by k_asm) (by k_asm) (by k_asm) (by k_asm) (by k_asm) (by exact rfl) (by exact rfl) (by ktr_room) (by ktr_units) (c_linv (by omega) (by omega) (by omega) (by omega) (by omega) (by omega)) ?_); (intro c9 t9 h9 tk9 hp9 F9 N9; (try dsimp only at hp9); (subst hp9); all_goals ((try k_sweep); (try dsimp only); (try k_fold))))) | (k_unfold; (try dsimp only)) | walk1 | (dsimp only; walk1))
                      rw [own_val h3 h24]
                      walk1
                      rw [beq_self_eq_true]
                      repeat' ((fail_if_success (with_reducible show wpAny _ _ (compareOp _ _ _) _ _ _)); first | (k_here; (with_reducible show wpAny _ _ (call (Value.ref 252) [Value.ref _, Value.ref _, Value.int _ _]) _ _ _); k_dflt ((first | refine' Meets.useLL (by k_asm) (by k_asm) (by k_asm) (by k_asm) (by k_asm) (by exact rfl) (by exact rfl) (by tb_start) (by ktr_room) (by ktr_units) (c_drs (by ktn_open) (by omega) (by omega) (by assumption) (by assumption)) ?_); (intro a9 l9 n9 vs9 k9 o9 ws9 h9 tk9 hv9 F9 N9 hne9 hnf9 hng9; (try dsimp only at hv9); (obtain ⟨hq9, hr9⟩ := hv9); all_goals ((try k_sweep); (try dsimp only); (try k_fold))))) | (k_here; (with_reducible show wpAny _ _ (call (Value.ref 210) [Value.ref _, Value.ref _, Value.int _ _]) _ _ _); k_dflt ((first | refine' Meets.useL (by k_asm) (by k_asm) (by k_asm) (by k_asm) (by k_asm) (by exact rfl) (by exact rfl) (by tb_start) (by ktr_room) (by ktr_units) (c_mul (by ktn_open) (by ktn_open) (by assumption) (by assumption)) ?_); (intro l9 n9 vs9 h9 tk9 hv9 F9 N9 hne9; (try dsimp only at hv9); skip; all_goals ((try k_sweep); (try dsimp only); (try k_fold))))) | (k_here; (with_reducible show wpAny _ _ (call (Value.ref 266) [Value.int _ _, Value.int _ _]) _ _ _); k_dflt ((first | refine' Meets.useL (by k_asm) (by k_asm) (by k_asm) (by k_asm) (by k_asm) (by exact rfl) (by exact rfl) (by tb_start) (by ktr_room) (by ktr_units) (c_limbs1 (by omega) (by omega) (by assumption) (by assumption)) ?_); (intro l9 n9 vs9 h9 tk9 hv9 F9 N9 hne9; (try dsimp only at hv9); (obtain ⟨t9, e9⟩ := hv9; subst e9); all_goals ((try k_sweep); (try dsimp only); (try k_fold))))) | (k_here; (with_reducible show wpAny _ _ (call (Value.ref 266) [Value.int _ _, Value.int _ _]) _ _ _); k_dflt ((first | refine' Meets.useL (by k_asm) (by k_asm) (by k_asm) (by k_asm) (by k_asm) (by exact rfl) (by exact rfl) (by tb_start) (by ktr_room) (by ktr_units) (c_limbs (by omega) (by omega) (by assumption) (by assumption)) ?_); (intro l9 n9 vs9 h9 tk9 hv9 F9 N9 hne9; (try dsimp only at hv9); skip; all_goals ((try k_sweep); (try dsimp only); (try k_fold))))) | (k_here; (with_reducible show wpAny _ _ (call (Value.ref 280) [Value.int _ _, Value.int _ _, Value.int _ _]) _ _ _); k_dflt ((first | refine' MeetsT.useT (by k_asm) (by k_asm) (by k_asm) (by k_asm) (by k_asm) (by exact rfl) (by exact rfl) (by ktr_room) (by ktr_units) (c_linv (by omega) (by omega) (by omega) (by omega) (by omega) (by omega)) ?_); (intro c9 t9 h9 tk9 hp9 F9 N9; (try dsimp only at hp9); (subst hp9); all_goals ((try k_sweep); (try dsimp only); (try k_fold))))) | (k_unfold; (try dsimp only)) | walk1 | (dsimp only; walk1))
                      rw [due_val h3 h24]
                      walk1
                      rw [beq_self_eq_true]
                      repeat' ((fail_if_success (with_reducible show GoodW _ _ _ _ _ _ _)); first | (k_here; (with_reducible show wpAny _ _ (call (Value.ref 252) [Value.ref _, Value.ref _, Value.int _ _]) _ _ _); k_dflt ((first | refine' Meets.useLL (by k_asm) (by k_asm) (by k_asm) (by k_asm) (by k_asm) (by exact rfl) (by exact rfl) (by tb_start) (by ktr_room) (by ktr_units) (c_drs (by ktn_open) (by omega) (by omega) (by assumption) (by assumption)) ?_); (intro a9 l9 n9 vs9 k9 o9 ws9 h9 tk9 hv9 F9 N9 hne9 hnf9 hng9; (try dsimp only at hv9); (obtain ⟨hq9, hr9⟩ := hv9); all_goals ((try k_sweep); (try dsimp only); (try k_fold))))) | (k_here; (with_reducible show wpAny _ _ (call (Value.ref 210) [Value.ref _, Value.ref _, Value.int _ _]) _ _ _); k_dflt ((first | refine' Meets.useL (by k_asm) (by k_asm) (by k_asm) (by k_asm) (by k_asm) (by exact rfl) (by exact rfl) (by tb_start) (by ktr_room) (by ktr_units) (c_mul (by ktn_open) (by ktn_open) (by assumption) (by assumption)) ?_); (intro l9 n9 vs9 h9 tk9 hv9 F9 N9 hne9; (try dsimp only at hv9); skip; all_goals ((try k_sweep); (try dsimp only); (try k_fold))))) | (k_here; (with_reducible show wpAny _ _ (call (Value.ref 266) [Value.int _ _, Value.int _ _]) _ _ _); k_dflt ((first | refine' Meets.useL (by k_asm) (by k_asm) (by k_asm) (by k_asm) (by k_asm) (by exact rfl) (by exact rfl) (by tb_start) (by ktr_room) (by ktr_units) (c_limbs1 (by omega) (by omega) (by assumption) (by assumption)) ?_); (intro l9 n9 vs9 h9 tk9 hv9 F9 N9 hne9; (try dsimp only at hv9); (obtain ⟨t9, e9⟩ := hv9; subst e9); all_goals ((try k_sweep); (try dsimp only); (try k_fold))))) | (k_here; (with_reducible show wpAny _ _ (call (Value.ref 266) [Value.int _ _, Value.int _ _]) _ _ _); k_dflt ((first | refine' Meets.useL (by k_asm) (by k_asm) (by k_asm) (by k_asm) (by k_asm) (by exact rfl) (by exact rfl) (by tb_start) (by ktr_room) (by ktr_units) (c_limbs (by omega) (by omega) (by assumption) (by assumption)) ?_); (intro l9 n9 vs9 h9 tk9 hv9 F9 N9 hne9; (try dsimp only at hv9); skip; all_goals ((try k_sweep); (try dsimp only); (try k_fold))))) | (k_here; (with_reducible show wpAny _ _ (call (Value.ref 280) [Value.int _ _, Value.int _ _, Value.int _ _]) _ _ _); k_dflt ((first | refine' MeetsT.useT (by k_asm) (by k_asm) (by k_asm) (by k_asm) (by k_asm) (by exact rfl) (by exact rfl) (by ktr_room) (by ktr_units) (c_linv (by omega) (by omega) (by omega) (by omega) (by omega) (by omega)) ?_); (intro c9 t9 h9 tk9 hp9 F9 N9; (try dsimp only at hp9); (subst hp9); all_goals ((try k_sweep); (try dsimp only); (try k_fold))))) | (k_unfold; (try dsimp only)) | walk1 | (dsimp only; walk1))
                      all_goals (k_end; wrow_close)
end
end Mine
theorem PySem.Challenge.cw_xm0441_01_holds : PySem.Challenge.rw_xm0441_01.Holds :=
  Mine.lawx
