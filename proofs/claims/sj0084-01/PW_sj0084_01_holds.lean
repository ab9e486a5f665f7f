import PyProof.Rows.All
import Wide.All
import OpenK.AllK
import Wide.FinOn
import PySem.Challenge.RW_sj0084_01
set_option rowWalk.seconds 0
open PySem PySem.W PyProof.Rows PySem.Calls PySem.Spec
set_option Elab.async false
set_option maxRecDepth 100000
namespace Mine
def vw : Program := view PySem.Challenge.pw_sj0084_01 [1,2,3,4,5,6,7,8,9,10,11,12,13,14,16,17,18,19,21,22,23,25,26,27,28,29,30,31,33,34,35,36,37,38,39,40,41]
set_option maxRecDepth 100000
theorem wsaid : PySem.Challenge.rw_sj0084_01.wellSaid = true := by kernel_rfl
local macro_rules | `(tactic| o_law) => `(tactic| refine holds_law wsaid fun said => ?_)
local macro_rules | `(tactic| o_head $H) => `(tactic| (
  refine holds_open (q := vw) (loose := []) (Xt := fun s => xlAt vw [] s && recOk (RowW.records (OpenRow.toRowW (OpenLaw.row PySem.Challenge.rw_sj0084_01))) s) (XP := XL vw []) (Yf := Hook.obs $H) (Ya := Hook.val $H) (YP := Hook.says $H) (N := 4392) ?hl (Hook.of $H) (Hook.keeps $H) (fun s e => xl_of s (Bool.and_eq_true_iff.mp e).1) XL.keeps (by rfl) (by rfl) (by rfl) (fun s e => recFacts_of (Bool.and_eq_true_iff.mp e).2) (by rfl) (by first | assumption | decide +kernel) (by decide +kernel) ⟨rfl, rfl, rfl, rfl, rfl, by decide +kernel⟩ ?hw ?hc
  case hl => intro w; kernel_rfl))
set_option maxHeartbeats 8000000 in
open_top hd for PySem.Challenge.rw_sj0084_01
theorem top_off : True := by
  w_top off
  trivial

abbrev PR : Program := PySem.Challenge.rw_sj0084_01.row.prog

/-- what a call that is asked about hands back: a value, what it made, the rest kept -/
def Done (g : Heap) (s₀ : Shared) (Out : List (Addr × Obj) → Value → Prop) (v : Value) (s' : Shared) : Prop :=
  ∃ L' m' tl h' tk', s' = { s₀ with heap := h', toks := tk' } ∧ Fr g L' h' m' ∧ News g L' h' tl ∧ Out tl v

def Spec (w : World) (f : Addr) (k : Nat) (vs : List Value) (Pre : Heap → Prop) (Out : List (Addr × Obj) → Value → Prop) : Prop :=
  ∀ (p : Program) (loose : List Str) (mean : ExcName → Option Value) (mg mb : Str → Option Value) (dp un : Nat) (gd : Option (List Code)) (cn : Str) (cs : Scope) (a : Addr) (ccd : Value) (cl : List (Str × Addr)) (outer : List Env)
    (A₀ : Around) (base h₀ : Heap) (L : Addr) (m : Str → Option Value) (news : List (Addr × Obj)) (s : Shared) (Q E : Value → Shared → Prop),
    Below A₀ base outer h₀ → Fr h₀ L s.heap m → (hd.heap_1 w.params).In h₀ → News h₀ L s.heap news → Top p loose mean mg mb h₀ → cs.kind = .function →
    Pre s.heap → dp + k < recursionLimit → un + 8 * k < cLine →
    (∀ r tl h' tk', Fr h₀ L h' m → News h₀ L h' (tl ++ news) → (∀ p ∈ news, ∀ q ∈ tl, p.1 ≠ q.1) → Out tl r → Q r { s with heap := h', toks := tk' }) →
    wpAny (model PR w) (ktrTop dp un gd cn cs L a ccd cl outer) (call (.ref f) vs) Q E s

theorem bd_lo {a : Int} (h : 0 ≤ a) : -1000 < a := by omega
theorem bd_hi {a n : Int} (h : a < n) (hn : n < 100) : a < 1000 := by omega
theorem room_64 {un k c : Nat} (h : un + 8 * k < c + 3) (hk : 9 ≤ k) : un + 64 < c := by omega
theorem room_d {dp k k' r : Nat} (h : dp + k < r + 1) (hk : k' + 1 ≤ k) : dp + k' < r := by omega
theorem room_u {un k k' c : Nat} (h : un + 8 * k < c + 3) (hk : k' + 1 ≤ k) : un + 8 * k' < c := by omega
theorem Spec.use {w : World} {f : Addr} {k : Nat} {vs : List Value} {Pre : Heap → Prop} {Out : List (Addr × Obj) → Value → Prop}
    {p : Program} {loose : List Str} {mean : ExcName → Option Value} {mg mb : Str → Option Value} {dp un : Nat} {gd : Option (List Code)} {cn : Str} {cs : Scope} {a : Addr} {ccd : Value} {cl : List (Str × Addr)} {outer : List Env}
    {A₀ : Around} {base h₀ : Heap} {L : Addr} {m : Str → Option Value} {news : List (Addr × Obj)} {s : Shared} {Q E : Value → Shared → Prop}
    (S : Spec w f k vs Pre Out) (B : Below A₀ base outer h₀) (F : Fr h₀ L s.heap m) (X : (hd.heap_1 w.params).In h₀) (N : News h₀ L s.heap news) (T : Top p loose mean mg mb h₀) (hk : cs.kind = .function)
    (hp : Pre s.heap) (hd : dp + k < recursionLimit) (hu : un + 8 * k < cLine)
    (h : ∀ r tl h' tk', Fr h₀ L h' m → News h₀ L h' (tl ++ news) → (∀ p ∈ news, ∀ q ∈ tl, p.1 ≠ q.1) → Out tl r → Q r { s with heap := h', toks := tk' }) :
    wpAny (model PR w) (ktrTop dp un gd cn cs L a ccd cl outer) (call (.ref f) vs) Q E s :=
  S _ _ _ _ _ _ _ _ _ _ _ _ _ _ _ _ _ _ _ _ _ _ _ B F X N T hk hp hd hu h

/-- a def's contract from its body -/
theorem Spec.of {w : World} {f : Addr} {k : Nat} {vs : List Value} {Pre : Heap → Prop} {Out : List (Addr × Obj) → Value → Prop}
    {name qual : Str} {params : Arguments} {body : List Stmt} {scope : Scope} {dV kV doc pm cdv ct oc : Value} {an od : Option Addr} {osl : Array (Option Value)} {binds : List (Str × Value)}
    (ho : (hd.heap_1 w.params).lookup f = some ⟨oc, od, .func (fnOf name qual params body scope dV kV doc pm an cdv ct), osl⟩) (hcd : codeIn (hd.heap_1 w.params) cdv qual = true)
    (hbind : ∀ s, BindsTo s (fnOf name qual params body scope dV kV doc pm an cdv ct) ⟨vs, []⟩ binds) (hloc : ∀ y ∈ binds, scope.names.lookup y.1 = some .local)
    (hco : scope.isCoroutine = false) (hgen : scope.isGenerator = false) (hk : scope.kind = .function) (hcell : ∀ x ∈ scope.names, x.2 ≠ .cell)
    (h : ∀ (p : Program) (loose : List Str) (mean : ExcName → Option Value) (mg mb : Str → Option Value) (dp un : Nat) (gd : Option (List Code)) (outer : List Env) (A₀ : Around) (base g : Heap) (L : Addr) (s : Shared),
      Below A₀ base outer g → Fr g L s.heap (fun y => binds.reverse.lookup y) → (hd.heap_1 w.params).In g → News g L s.heap [] → Top p loose mean mg mb g → scope.kind = .function →
      Pre g → dp + k < recursionLimit + 1 → un + 8 * k < cLine + 3 → 
      wpAny (model PR w) (ktrTop dp un gd qual scope L f cdv [] outer) (execs body (envOf qual scope L f cdv))
        (fun fl s' => Done g s Out (match fl with | .ret v => v | _ => .none) s') (fun _ _ => False) s) :
    Spec w f k vs Pre Out := by
  intro p loose mean mg mb dp un gd cn cs a ccd cl outer A₀ base h₀ L m news s Q E B F X N T hcs hpre hd hu ret
  have B₁ := pushX (env := envX cn cs L a ccd cl) B F rfl hcs
  have hA : A₀.frames = some outer := B.stack
  refine wpAny_call ?_
  refine codeAny_call_def (fd := fnOf name qual params body scope dV kV doc pm an cdv ct) (body := body) (binds := binds) (show dp < recursionLimit by omega) (X.keeps F.keep _ _ ho) rfl (T.nolimit.keeps F.keep) (codeRec_of (X.keeps F.keep) hcd) rfl (hbind s) hcell hloc (fun h₁ hns hk₁ => ?_) hco hgen hk
  have B₂ : Below (ktrTop dp un gd cn cs L a ccd cl outer) base (envX cn cs L a ccd cl :: outer) s.heap := ⟨rfl, B₁.stays, B₁.frames⟩
  refine wpAny_mono (h p loose mean mg mb (dp + 1) (un + 3) gd (envX cn cs L a ccd cl :: outer) _ base s.heap s.heap.objs.size { s with heap := h₁, toks := s.toks + binds.length }
    B₂ ⟨hns, hk₁, Nat.le_refl _⟩ (X.keeps F.keep) News.nil (T.keeps F.keep) hk hpre (by omega) (by omega)) (fun fl s' hl => ?_) fun _ _ y => y.elim
  obtain ⟨L', m', tl, h', tk', rfl, F', N', ho'⟩ := hl
  obtain ⟨oL, es, ep, hL, r⟩ := F.ns
  refine ret _ tl h' tk' ⟨⟨oL, es, ep, F'.keep _ _ hL, r⟩, fun b o e => F'.keep _ _ (F.keep _ _ e), F.above⟩ (fun q hq => ?_) (fun q hq z hz => ?_) ho'
  · rcases List.mem_append.mp hq with hq | hq
    · refine ⟨(N' q hq).1, fun e => ?_, ?_⟩
      · have := (N' q hq).2.2; rw [e, hL] at this; cases this
      · cases e : h₀.get? q.1 with
        | none => rfl
        | some o => have := (N' q hq).2.2; rw [F.keep _ _ e] at this; cases this
    · exact ⟨F'.keep _ _ (N q hq).1, (N q hq).2.1, (N q hq).2.2⟩
  · intro e
    have h2 := (N' z hz).2.2
    rw [← e, (N q hq).1] at h2; cases h2

/-- a list of ints -/
def Nums (ns : List Int) (o : Obj) : Prop := ∃ its n, o = listOf its n ∧ IntsAre its.toList ns

/-- zeros at the end are struck -/
def strip : List Int → List Int
  | [] => []
  | x :: r => match strip r with
    | [] => if x = 0 then [] else [x]
    | r' => x :: r'

theorem strip_cons_nil {x : Int} {r : List Int} (h : strip r = []) : strip (x :: r) = if x = 0 then [] else [x] := by
  unfold strip; rw [h]
theorem strip_cons_cons {x y : Int} {r t : List Int} (h : strip r = y :: t) : strip (x :: r) = x :: y :: t := by
  conv => lhs; unfold strip
  rw [h]
theorem strip_cons_nil0 {x : Int} {r : List Int} (h : strip r = []) : strip (x :: r) = if x = 0 then [] else [x] := strip_cons_nil h
def OutNums (ns : List Int) (tl : List (Addr × Obj)) (r : Value) : Prop := ∃ a o, r = .ref a ∧ tl = [(a, o)] ∧ Nums ns o

/-- canonical limbs of a number below 2^w * 2^w -/
def Lm (w v : Int) (o : Obj) : Prop :=
  (v = 0 ∧ ∃ n, o = listOf #[] n) ∨ (0 < v ∧ v < 2 ^ w.toNat ∧ ∃ t n, o = listOf #[.int v t] n) ∨
  (∃ lo hi t t' n, o = listOf #[.int lo t, .int hi t'] n ∧ 0 ≤ lo ∧ lo < 2 ^ w.toNat ∧ 0 < hi ∧ hi < 2 ^ w.toNat ∧ v = hi * 2 ^ w.toNat + lo)
def OutLm (w v : Int) (tl : List (Addr × Obj)) (r : Value) : Prop := ∃ a o, r = .ref a ∧ tl = [(a, o)] ∧ Lm w v o
def WOk (w : Int) : Prop := 6 ≤ w ∧ w ≤ 9
theorem WOk.cases {w : Int} (h : WOk w) : w = 6 ∨ w = 7 ∨ w = 8 ∨ w = 9 := by obtain ⟨h1, h2⟩ := h; omega
theorem base_pos (w : Int) : (0 : Int) < 2 ^ w.toNat := kbt_pos _

theorem Lm.small {w v : Int} {o : Obj} (h : Lm w v o) (hv : v < 2 ^ w.toNat) : (v = 0 ∧ ∃ n, o = listOf #[] n) ∨ (0 < v ∧ v < 2 ^ w.toNat ∧ ∃ t n, o = listOf #[.int v t] n) := by
  rcases h with h | h | ⟨lo, hi, t, t', n, _, h1, h2, h3, h4, h5⟩
  · exact .inl h
  · exact .inr h
  · exfalso
    have := base_pos w
    have : 1 * 2 ^ w.toNat ≤ hi * 2 ^ w.toNat := Int.mul_le_mul_of_nonneg_right (by omega) (by omega)
    omega

theorem strip_two {x y : Int} : strip [x, y] = if y = 0 then (if x = 0 then [] else [x]) else [x, y] := by
  by_cases hy : y = 0
  · rw [strip_cons_nil0 (by subst hy; rfl), if_pos hy]
  · rw [if_neg hy, strip_cons_cons (y := y) (t := []) (by rw [strip_cons_nil0 rfl, if_neg hy])]
theorem strip_one {x : Int} : strip [x] = if x = 0 then [] else [x] := strip_cons_nil rfl

theorem lm_of_strip2 {w lo hi v : Int} {o : Obj} (h0 : 0 ≤ lo) (h1 : lo < 2 ^ w.toNat) (h2 : 0 ≤ hi) (h3 : hi < 2 ^ w.toNat) (hv : v = hi * 2 ^ w.toNat + lo) (h : Nums (strip [lo, hi]) o) : Lm w v o := by
  rw [strip_two] at h
  by_cases hy : hi = 0
  · rw [if_pos hy] at h
    have hv' : v = lo := by rw [hv, hy]; omega
    by_cases hx : lo = 0
    · rw [if_pos hx] at h
      obtain ⟨⟨its⟩, n, rfl, hi⟩ := h
      cases hi
      exact .inl ⟨by omega, _, rfl⟩
    · rw [if_neg hx] at h
      obtain ⟨⟨its⟩, n, rfl, hi⟩ := h
      cases hi with | cons _ t hr => cases hr; subst hv'; exact .inr (.inl ⟨by omega, h1, t, n, rfl⟩)
  · rw [if_neg hy] at h
    obtain ⟨⟨its⟩, n, rfl, hi⟩ := h
    cases hi with | cons _ t hr => cases hr with | cons _ t' hr => cases hr; exact .inr (.inr ⟨lo, _, t, t', n, rfl, h0, h1, by omega, h3, hv⟩)
theorem lm_of_strip1 {w v : Int} {o : Obj} (h0 : 0 ≤ v) (h1 : v < 2 ^ w.toNat) (h : Nums (strip [v]) o) : Lm w v o := by
  rw [strip_one] at h
  by_cases hx : v = 0
  · rw [if_pos hx] at h
    obtain ⟨⟨its⟩, n, rfl, hi⟩ := h
    cases hi
    exact .inl ⟨by omega, _, rfl⟩
  · rw [if_neg hx] at h
    obtain ⟨⟨its⟩, n, rfl, hi⟩ := h
    cases hi with | cons _ t hr => cases hr; exact .inr (.inl ⟨by omega, h1, t, n, rfl⟩)
theorem lm_of_strip0 {w : Int} {o : Obj} (h : Nums (strip []) o) : Lm w 0 o := by
  obtain ⟨⟨its⟩, n, rfl, hi⟩ := h
  cases hi
  exact .inl ⟨rfl, _, rfl⟩

-- the words of the program upon ints, by the base
section
variable {prog : Program} {wd : World} {A : Around} {E : Value → Shared → Prop} {s : Shared} {hp : Heap} {gn : Array GenState} {dr : Drawn} {to : Nat} {os : OsState} {a b w : Int} {t u : Tok} {Q : Value → Shared → Prop}
theorem r_shl1 (hw : WOk w) (h : Q (.int (2 ^ w.toNat) to) ⟨hp, gn, dr, to + 1, os⟩) : wpAny (model prog wd) A (binaryOp .LShift (.int 1 t) (.int w u)) Q E ⟨hp, gn, dr, to, os⟩ :=
  lshift_int_small (by obtain ⟨h1, h2⟩ := hw; omega) (by obtain ⟨h1, h2⟩ := hw; omega) (by decide) (by rw [Int.one_mul]; exact h)
theorem r_mask (h : Q (.int (a % 2 ^ w.toNat) to) ⟨hp, gn, dr, to + 1, os⟩) : wpAny (model prog wd) A (binaryOp .BitAnd (.int a t) (.int (2 ^ w.toNat - 1) u)) Q E ⟨hp, gn, dr, to, os⟩ :=
  and_int (by rw [kbt_mask]; exact h)
theorem r_shr (hw : WOk w) (h : Q (.int (a / 2 ^ w.toNat) to) ⟨hp, gn, dr, to + 1, os⟩) : wpAny (model prog wd) A (binaryOp .RShift (.int a t) (.int w u)) Q E ⟨hp, gn, dr, to, os⟩ :=
  rshift_int (by obtain ⟨h1, h2⟩ := hw; omega) (by rw [Int.fdiv_eq_ediv_of_nonneg _ (Int.le_of_lt (base_pos w))]; exact h)
theorem r_ishr (hw : WOk w) (h : Q (.int (a / 2 ^ w.toNat) to) ⟨hp, gn, dr, to + 1, os⟩) : wpAny (model prog wd) A (inplaceOp .RShift (.int a t) (.int w u)) Q E ⟨hp, gn, dr, to, os⟩ :=
  irshift_int (by obtain ⟨h1, h2⟩ := hw; omega) (by rw [Int.fdiv_eq_ediv_of_nonneg _ (Int.le_of_lt (base_pos w))]; exact h)
end

-- the ends of a contract
theorem done_nums {g h' : Heap} {s₀ s' : Shared} {L' a : Addr} {m' : Str → Option Value} {tk' n : Nat} {news : List (Addr × Obj)} {its : Array Value} {ns : List Int}
    (es : s' = { s₀ with heap := h', toks := tk' }) (F : Fr g L' h' m') (N : News g L' h' news) (hm : (a, listOf its n) ∈ news) (hi : IntsAre its.toList ns) : Done g s₀ (OutNums ns) (.ref a) s' :=
  ⟨_, _, [(a, listOf its n)], _, _, es, F, fun p hp => N p (by rw [List.mem_singleton.mp hp]; exact hm), _, _, rfl, rfl, _, _, rfl, hi⟩
theorem done_lm {g h' : Heap} {s₀ s' : Shared} {L' a : Addr} {m' : Str → Option Value} {tk' : Nat} {news : List (Addr × Obj)} {o : Obj} {w v : Int}
    (es : s' = { s₀ with heap := h', toks := tk' }) (F : Fr g L' h' m') (N : News g L' h' news) (hm : (a, o) ∈ news) (hi : Lm w v o) : Done g s₀ (OutLm w v) (.ref a) s' :=
  ⟨_, _, [(a, o)], _, _, es, F, fun p hp => N p (by rw [List.mem_singleton.mp hp]; exact hm), _, _, rfl, rfl, hi⟩
def OutInt (v : Int) (tl : List (Addr × Obj)) (r : Value) : Prop := tl = [] ∧ ∃ t, r = .int v t
def OutBool (b : Bool) (tl : List (Addr × Obj)) (r : Value) : Prop := tl = [] ∧ r = .bool b
theorem done_int {g h' : Heap} {s₀ s' : Shared} {L' : Addr} {m' : Str → Option Value} {tk' t : Nat} {x v : Int}
    (es : s' = { s₀ with heap := h', toks := tk' }) (F : Fr g L' h' m') (e : x = v) : Done g s₀ (OutInt v) (.int x t) s' :=
  ⟨_, _, [], _, _, es, F, News.nil, rfl, _, by rw [e]⟩
theorem done_bool {g h' : Heap} {s₀ s' : Shared} {L' : Addr} {m' : Str → Option Value} {tk' : Nat} {x v : Bool}
    (es : s' = { s₀ with heap := h', toks := tk' }) (F : Fr g L' h' m') (e : x = v) : Done g s₀ (OutBool v) (.bool x) s' :=
  ⟨_, _, [], _, _, es, F, News.nil, rfl, by rw [e]⟩

theorem lm_one {w v x : Int} {t : Tok} {n : Nat} (e : x = v) (h0 : 0 < v) (h1 : v < 2 ^ w.toNat) : Lm w v (listOf #[.int x t] n) := by
  subst e; exact .inr (.inl ⟨h0, h1, _, _, rfl⟩)
theorem lm_two {w v x y : Int} {t t' : Tok} {n : Nat} (h0 : 0 ≤ x) (h1 : x < 2 ^ w.toNat) (h2 : 0 < y) (h3 : y < 2 ^ w.toNat) (hv : v = y * 2 ^ w.toNat + x) : Lm w v (listOf #[.int x t, .int y t'] n) :=
  .inr (.inr ⟨_, _, _, _, _, rfl, h0, h1, h2, h3, hv⟩)
theorem lm_nil {w v : Int} {n : Nat} (h : v = 0) : Lm w v (listOf #[] n) := .inl ⟨h, _, rfl⟩
theorem div_lt_base {w v : Int} (h1 : v < 2 ^ w.toNat * 2 ^ w.toNat) : v / 2 ^ w.toNat < 2 ^ w.toNat := Int.ediv_lt_of_lt_mul (base_pos w) h1
theorem div_base_pos {w v : Int} (h1 : 2 ^ w.toNat ≤ v) : 0 < v / 2 ^ w.toNat := by
  have hB := base_pos w
  have := (Int.le_ediv_iff_mul_le hB (a := 1) (b := v)).mpr (by omega)
  omega
theorem div_base_zero {w v : Int} (h0 : 0 ≤ v) (h1 : v < 2 ^ w.toNat) : v / 2 ^ w.toNat = 0 := Int.ediv_eq_zero_of_lt h0 h1
theorem mod_base {w v : Int} (h0 : 0 ≤ v) (h1 : v < 2 ^ w.toNat) : v % 2 ^ w.toNat = v := Int.emod_eq_of_lt h0 h1
theorem div_base_nonneg {w v : Int} (h0 : 0 ≤ v) : 0 ≤ v / 2 ^ w.toNat := Int.ediv_nonneg h0 (Int.le_of_lt (base_pos w))
theorem mod_base_nonneg {w v : Int} : 0 ≤ v % 2 ^ w.toNat := Int.emod_nonneg _ (Int.ne_of_gt (base_pos w))
theorem mod_base_lt {w v : Int} : v % 2 ^ w.toNat < 2 ^ w.toNat := Int.emod_lt_of_pos _ (base_pos w)
theorem div_mod_base {w v : Int} : v = v / 2 ^ w.toNat * 2 ^ w.toNat + v % 2 ^ w.toNat := by
  have := Int.mul_ediv_add_emod v (2 ^ w.toNat)
  rw [Int.mul_comm] at this; omega
section
variable {prog : Program} {wd : World} {A : Around} {E : Value → Shared → Prop} {s : Shared} {hp : Heap} {gn : Array GenState} {dr : Drawn} {to : Nat} {os : OsState} {a b : Int} {t u : Tok} {Q : Value → Shared → Prop}
theorem r_iadd0 (h : Q (.int b to) ⟨hp, gn, dr, to + 1, os⟩) : wpAny (model prog wd) A (inplaceOp .Add (.int 0 t) (.int b u)) Q E ⟨hp, gn, dr, to, os⟩ := iadd_int (by rw [Int.zero_add]; exact h)
theorem r_and1 (h : Q (.int (a % 2) to) ⟨hp, gn, dr, to + 1, os⟩) : wpAny (model prog wd) A (binaryOp .BitAnd (.int a t) (.int 1 u)) Q E ⟨hp, gn, dr, to, os⟩ :=
  and_int (by
    have e : Builtin.bitAnd a 1 = a % 2 := by
      have := kbt_mask a 1
      rw [show ((2 : Int) ^ 1 - 1) = 1 from rfl, show (2 : Int) ^ 1 = 2 from rfl] at this
      exact this
    rw [e]; exact h)
end
def sgn (a b : Int) : Int := if a < b then -1 else if a = b then 0 else 1

-- frames by slots
def slots : List Str → List (Option Value) → Str → Option Value
  | n :: ns, v :: vs, y => if y = n then v else slots ns vs y
  | _, _, _ => none
inductive Slot (x : Str) (v : Value) : List Str → List (Option Value) → Prop
  | here {ns : List Str} {vs : List (Option Value)} : Slot x v (x :: ns) (some v :: vs)
  | there {n : Str} {ns : List Str} {o : Option Value} {vs : List (Option Value)} : Slot x v ns vs → Slot x v (n :: ns) (o :: vs)
inductive SetSlot (x : Str) (v : Value) : List Str → List (Option Value) → List (Option Value) → Prop
  | here {ns : List Str} {o : Option Value} {vs : List (Option Value)} : SetSlot x v (x :: ns) (o :: vs) (some v :: vs)
  | there {n : Str} {ns : List Str} {o : Option Value} {vs vs' : List (Option Value)} : SetSlot x v ns vs vs' → SetSlot x v (n :: ns) (o :: vs) (o :: vs')
inductive Mem1 (x : Str) : List Str → Prop
  | here {ns : List Str} : Mem1 x (x :: ns)
  | there {n : Str} {ns : List Str} : Mem1 x ns → Mem1 x (n :: ns)
theorem Mem1.mem {x : Str} : ∀ {ns : List Str}, Mem1 x ns → x ∈ ns
  | _, .here => .head _
  | _, .there h => .tail _ h.mem
theorem Slot.at0 {x : Str} {ns : List Str} {v : Value} {vs : List (Option Value)} : Slot x v (x :: ns) (some v :: vs) := .here
theorem SetSlot.at0 {x : Str} {ns : List Str} {o : Option Value} {v : Value} {vs : List (Option Value)} : SetSlot x v (x :: ns) (o :: vs) (some v :: vs) := .here
theorem Slot.at1 {n0 : Str} {x : Str} {ns : List Str} {o0 : Option Value} {v : Value} {vs : List (Option Value)} : Slot x v (n0 :: x :: ns) (o0 :: some v :: vs) := .there .here
theorem SetSlot.at1 {n0 : Str} {x : Str} {ns : List Str} {o0 : Option Value} {o : Option Value} {v : Value} {vs : List (Option Value)} : SetSlot x v (n0 :: x :: ns) (o0 :: o :: vs) (o0 :: some v :: vs) := .there .here
theorem Slot.at2 {n0 n1 : Str} {x : Str} {ns : List Str} {o0 o1 : Option Value} {v : Value} {vs : List (Option Value)} : Slot x v (n0 :: n1 :: x :: ns) (o0 :: o1 :: some v :: vs) := .there (.there .here)
theorem SetSlot.at2 {n0 n1 : Str} {x : Str} {ns : List Str} {o0 o1 : Option Value} {o : Option Value} {v : Value} {vs : List (Option Value)} : SetSlot x v (n0 :: n1 :: x :: ns) (o0 :: o1 :: o :: vs) (o0 :: o1 :: some v :: vs) := .there (.there .here)
theorem Slot.at3 {n0 n1 n2 : Str} {x : Str} {ns : List Str} {o0 o1 o2 : Option Value} {v : Value} {vs : List (Option Value)} : Slot x v (n0 :: n1 :: n2 :: x :: ns) (o0 :: o1 :: o2 :: some v :: vs) := .there (.there (.there .here))
theorem SetSlot.at3 {n0 n1 n2 : Str} {x : Str} {ns : List Str} {o0 o1 o2 : Option Value} {o : Option Value} {v : Value} {vs : List (Option Value)} : SetSlot x v (n0 :: n1 :: n2 :: x :: ns) (o0 :: o1 :: o2 :: o :: vs) (o0 :: o1 :: o2 :: some v :: vs) := .there (.there (.there .here))
theorem Slot.at4 {n0 n1 n2 n3 : Str} {x : Str} {ns : List Str} {o0 o1 o2 o3 : Option Value} {v : Value} {vs : List (Option Value)} : Slot x v (n0 :: n1 :: n2 :: n3 :: x :: ns) (o0 :: o1 :: o2 :: o3 :: some v :: vs) := .there (.there (.there (.there .here)))
theorem SetSlot.at4 {n0 n1 n2 n3 : Str} {x : Str} {ns : List Str} {o0 o1 o2 o3 : Option Value} {o : Option Value} {v : Value} {vs : List (Option Value)} : SetSlot x v (n0 :: n1 :: n2 :: n3 :: x :: ns) (o0 :: o1 :: o2 :: o3 :: o :: vs) (o0 :: o1 :: o2 :: o3 :: some v :: vs) := .there (.there (.there (.there .here)))
theorem Slot.at5 {n0 n1 n2 n3 n4 : Str} {x : Str} {ns : List Str} {o0 o1 o2 o3 o4 : Option Value} {v : Value} {vs : List (Option Value)} : Slot x v (n0 :: n1 :: n2 :: n3 :: n4 :: x :: ns) (o0 :: o1 :: o2 :: o3 :: o4 :: some v :: vs) := .there (.there (.there (.there (.there .here))))
theorem SetSlot.at5 {n0 n1 n2 n3 n4 : Str} {x : Str} {ns : List Str} {o0 o1 o2 o3 o4 : Option Value} {o : Option Value} {v : Value} {vs : List (Option Value)} : SetSlot x v (n0 :: n1 :: n2 :: n3 :: n4 :: x :: ns) (o0 :: o1 :: o2 :: o3 :: o4 :: o :: vs) (o0 :: o1 :: o2 :: o3 :: o4 :: some v :: vs) := .there (.there (.there (.there (.there .here))))
theorem Slot.at6 {n0 n1 n2 n3 n4 n5 : Str} {x : Str} {ns : List Str} {o0 o1 o2 o3 o4 o5 : Option Value} {v : Value} {vs : List (Option Value)} : Slot x v (n0 :: n1 :: n2 :: n3 :: n4 :: n5 :: x :: ns) (o0 :: o1 :: o2 :: o3 :: o4 :: o5 :: some v :: vs) := .there (.there (.there (.there (.there (.there .here)))))
theorem SetSlot.at6 {n0 n1 n2 n3 n4 n5 : Str} {x : Str} {ns : List Str} {o0 o1 o2 o3 o4 o5 : Option Value} {o : Option Value} {v : Value} {vs : List (Option Value)} : SetSlot x v (n0 :: n1 :: n2 :: n3 :: n4 :: n5 :: x :: ns) (o0 :: o1 :: o2 :: o3 :: o4 :: o5 :: o :: vs) (o0 :: o1 :: o2 :: o3 :: o4 :: o5 :: some v :: vs) := .there (.there (.there (.there (.there (.there .here)))))
theorem Slot.at7 {n0 n1 n2 n3 n4 n5 n6 : Str} {x : Str} {ns : List Str} {o0 o1 o2 o3 o4 o5 o6 : Option Value} {v : Value} {vs : List (Option Value)} : Slot x v (n0 :: n1 :: n2 :: n3 :: n4 :: n5 :: n6 :: x :: ns) (o0 :: o1 :: o2 :: o3 :: o4 :: o5 :: o6 :: some v :: vs) := .there (.there (.there (.there (.there (.there (.there .here))))))
theorem SetSlot.at7 {n0 n1 n2 n3 n4 n5 n6 : Str} {x : Str} {ns : List Str} {o0 o1 o2 o3 o4 o5 o6 : Option Value} {o : Option Value} {v : Value} {vs : List (Option Value)} : SetSlot x v (n0 :: n1 :: n2 :: n3 :: n4 :: n5 :: n6 :: x :: ns) (o0 :: o1 :: o2 :: o3 :: o4 :: o5 :: o6 :: o :: vs) (o0 :: o1 :: o2 :: o3 :: o4 :: o5 :: o6 :: some v :: vs) := .there (.there (.there (.there (.there (.there (.there .here))))))
theorem Slot.at8 {n0 n1 n2 n3 n4 n5 n6 n7 : Str} {x : Str} {ns : List Str} {o0 o1 o2 o3 o4 o5 o6 o7 : Option Value} {v : Value} {vs : List (Option Value)} : Slot x v (n0 :: n1 :: n2 :: n3 :: n4 :: n5 :: n6 :: n7 :: x :: ns) (o0 :: o1 :: o2 :: o3 :: o4 :: o5 :: o6 :: o7 :: some v :: vs) := .there (.there (.there (.there (.there (.there (.there (.there .here)))))))
theorem SetSlot.at8 {n0 n1 n2 n3 n4 n5 n6 n7 : Str} {x : Str} {ns : List Str} {o0 o1 o2 o3 o4 o5 o6 o7 : Option Value} {o : Option Value} {v : Value} {vs : List (Option Value)} : SetSlot x v (n0 :: n1 :: n2 :: n3 :: n4 :: n5 :: n6 :: n7 :: x :: ns) (o0 :: o1 :: o2 :: o3 :: o4 :: o5 :: o6 :: o7 :: o :: vs) (o0 :: o1 :: o2 :: o3 :: o4 :: o5 :: o6 :: o7 :: some v :: vs) := .there (.there (.there (.there (.there (.there (.there (.there .here)))))))
theorem Slot.skip {n0 n1 n2 n3 n4 n5 n6 n7 n8 : Str} {x : Str} {ns : List Str} {o0 o1 o2 o3 o4 o5 o6 o7 o8 : Option Value} {v : Value} {vs : List (Option Value)} (h : Slot x v ns vs) : Slot x v (n0 :: n1 :: n2 :: n3 :: n4 :: n5 :: n6 :: n7 :: n8 :: ns) (o0 :: o1 :: o2 :: o3 :: o4 :: o5 :: o6 :: o7 :: o8 :: vs) := .there (.there (.there (.there (.there (.there (.there (.there (.there h))))))))
theorem SetSlot.skip {n0 n1 n2 n3 n4 n5 n6 n7 n8 : Str} {x : Str} {ns : List Str} {o0 o1 o2 o3 o4 o5 o6 o7 o8 : Option Value} {v : Value} {vs vs' : List (Option Value)} (h : SetSlot x v ns vs vs') : SetSlot x v (n0 :: n1 :: n2 :: n3 :: n4 :: n5 :: n6 :: n7 :: n8 :: ns) (o0 :: o1 :: o2 :: o3 :: o4 :: o5 :: o6 :: o7 :: o8 :: vs) (o0 :: o1 :: o2 :: o3 :: o4 :: o5 :: o6 :: o7 :: o8 :: vs') := .there (.there (.there (.there (.there (.there (.there (.there (.there h))))))))
structure SlotsOk (cs : Scope) (ns : List Str) : Prop where
  nodup : ns.Nodup
  ok : ∀ x ∈ ns, cs.names.lookup x = some .local ∧ (x == ("__debug__" : Str)) = false
  kind : cs.kind = .function
structure GlobOk (cs : Scope) (gs : List Str) : Prop where
  ok : ∀ x ∈ gs, cs.names.lookup x = some .globalImplicit ∧ (x == ("__debug__" : Str)) = false
  kind : cs.kind = .function

theorem Slot.mem {x : Str} {v : Value} : ∀ {ns : List Str} {vs : List (Option Value)}, Slot x v ns vs → x ∈ ns
  | _, _, .here => .head _
  | _, _, .there h => .tail _ h.mem
theorem Slot.get {x : Str} {v : Value} : ∀ {ns : List Str} {vs : List (Option Value)}, ns.Nodup → Slot x v ns vs → slots ns vs x = some v
  | _, _, _, .here => by simp [slots]
  | n :: ns, _, nd, .there h => by
    have hn : x ≠ n := fun e => (List.nodup_cons.mp nd).1 (e ▸ h.mem)
    rw [slots, if_neg hn]
    exact h.get (List.nodup_cons.mp nd).2
theorem SetSlot.mem {x : Str} {v : Value} : ∀ {ns : List Str} {vs vs' : List (Option Value)}, SetSlot x v ns vs vs' → x ∈ ns
  | _, _, _, .here => .head _
  | _, _, _, .there h => .tail _ h.mem
theorem SetSlot.set {x : Str} {v : Value} : ∀ {ns : List Str} {vs vs' : List (Option Value)}, ns.Nodup → SetSlot x v ns vs vs' → (fun y => if y = x then some v else slots ns vs y) = slots ns vs'
  | _, _, _, _, .here => by
    funext y
    by_cases h : y = x
    · simp [slots, h]
    · simp [slots, h]
  | n :: ns, o :: vs, _, nd, .there (vs' := vs') h => by
    funext y
    have hy := congrFun (h.set (List.nodup_cons.mp nd).2) y
    have hn : x ≠ n := fun e => (List.nodup_cons.mp nd).1 (e ▸ h.mem)
    simp only [slots] at hy ⊢
    by_cases hx : y = x
    · subst hx
      rw [if_pos rfl] at hy
      rw [if_pos rfl, if_neg hn]
      exact hy
    · rw [if_neg hx] at hy ⊢
      rw [hy]

section
variable {M : Model} {A : Around} {E : Value → Shared → Prop} {cs : Scope} {cn : Str} {L a : Addr} {ccd : Value} {h₀ : Heap} {ns gs : List Str} {K : Frag} {p : Program} {loose : List Str} {mean : ExcName → Option Value} {mg mb : Str → Option Value}
theorem name_slot (S : SlotsOk cs ns) {s : Shared} {vs : List (Option Value)} (F : Fr h₀ L s.heap (slots ns vs)) {x : Str} {pos : Pos} {v : Value} {Q : Value → Shared → Prop} (hs : Slot x v ns vs) (h : Q v s) : wpAny M A (eval (.Name x pos) (envOf cn cs L a ccd)) Q E s :=
  nameX_L (cl := []) F (hs.get S.nodup) h S.kind (S.ok x hs.mem).1 (S.ok x hs.mem).2
theorem load_slot (S : SlotsOk cs ns) {s : Shared} {vs : List (Option Value)} (F : Fr h₀ L s.heap (slots ns vs)) {x : Str} {v : Value} {Q : Value → Shared → Prop} (hs : Slot x v ns vs) (h : Q v s) : wpAny M A (loadName (envOf cn cs L a ccd) x) Q E s :=
  ldn F (hs.get S.nodup) h S.kind (S.ok x hs.mem).1
theorem name_glob (X : K.In h₀) (T : Top p loose mean mg mb h₀) (G : GlobOk cs gs) {s : Shared} {vs : List (Option Value)} (F : Fr h₀ L s.heap (slots ns vs)) {x : Str} {pos : Pos} {v : Value} (hx : Mem1 x gs) (e : nsIn K mainGlobals x = some (some v)) {Q : Value → Shared → Prop} (h : Q v s) :
    wpAny M A (eval (.Name x pos) (envOf cn cs L a ccd)) Q E s := nameX_K (cl := []) F X (topRead_of T) e h G.kind (G.ok x hx.mem).1 (G.ok x hx.mem).2
theorem name_built (X : K.In h₀) (T : Top p loose mean mg mb h₀) (G : GlobOk cs gs) {s : Shared} {vs : List (Option Value)} (F : Fr h₀ L s.heap (slots ns vs)) {x : Str} {pos : Pos} {v : Value} (hx : Mem1 x gs) (e : nsIn K mainGlobals x = some none ∧ bootBuiltins x = some v ∧ x ≠ "__name__") {Q : Value → Shared → Prop} (h : Q v s) :
    wpAny M A (eval (.Name x pos) (envOf cn cs L a ccd)) Q E s := nameX_B (cl := []) F X (topRead_of T) e.1 e.2.1 e.2.2 h G.kind (G.ok x hx.mem).1 (G.ok x hx.mem).2
variable {hp : Heap} {gn : Array GenState} {dr : Drawn} {to : Nat} {os : OsState}
theorem st_slot (S : SlotsOk cs ns) {vs : List (Option Value)} {news : List (Addr × Obj)} (F : Fr h₀ L hp (slots ns vs)) (N : News h₀ L hp news) {x : Str} {v : Value} {vs' : List (Option Value)} (hs : SetSlot x v ns vs vs') {Q : Unit → Shared → Prop}
    (h : ∀ h' tk', Fr h₀ L h' (slots ns vs') → News h₀ L h' news → Q () ⟨h', gn, dr, tk', os⟩) : wpAny M A (storeName (envOf cn cs L a ccd) x v) Q E ⟨hp, gn, dr, to, os⟩ :=
  storeX_L (cl := []) F N (fun h' F' N' => h h' _ (hs.set S.nodup ▸ F') N') S.kind (S.ok x hs.mem).1
theorem c_int {i : Int} {k : Nat} {pos : Pos} {env : Env} {Q : Value → Shared → Prop} (h : Q (.int i to) ⟨hp, gn, dr, to + 1, os⟩) : wpAny M A (eval (.Constant (.int i) k pos) env) Q E ⟨hp, gn, dr, to, os⟩ := wpAny_Constant_int h
variable {s : Shared} {x : Str} {v : Value} {vs vs' : List (Option Value)}
theorem st_tok {Q : Unit → Shared → Prop} {env : Env} {i : Int} {t : Tok} (h : ∀ t, wpAny M A (storeName env x (.int i t)) Q E s) : wpAny M A (storeName env x (.int i t)) Q E s := h t
theorem fr_slot {h : Heap} (F : Fr h₀ L h (fun y => if y = x then some v else slots ns vs y)) (S : SlotsOk cs ns) (hs : SetSlot x v ns vs vs') : Fr h₀ L h (slots ns vs') := hs.set S.nodup ▸ F
end
-- expressions that are read without a call, in direct style: no continuation stands in the terms
/-- the expression gives v and goes on at s' -/
structure Ev (M : Model) (A : Around) (env : Env) (e : Expr) (s : Shared) (v : Value) (s' : Shared) : Prop where
  plain : ∀ rest, starEach (e :: rest) env = (false, eval e env) :: starEach rest env
  go : ∀ (E Q : Value → Shared → Prop), Q v s' → wpAny M A (eval e env) Q E s
/-- a word upon values gives v -/
def Op (M : Model) (A : Around) (m : Sem Value) (s : Shared) (v : Value) (s' : Shared) : Prop := ∀ (E Q : Value → Shared → Prop), Q v s' → wpAny M A m Q E s
structure Evs (M : Model) (A : Around) (env : Env) (es : List Expr) (s : Shared) (vs : List Value) (s' : Shared) : Prop where
  plain : ∀ pos, (backTo pos (starEach es env)).any (·.1) = false
  head : ∀ e r, es = e :: r → starEach es env = (false, eval e env) :: starEach r env
  go : ∀ (pos : Pos) (E : Value → Shared → Prop) (Q : List Value → Shared → Prop), Q vs s' → wpAny M A (spliced (backTo pos (starEach es env))) Q E s
section
variable {M : Model} {A : Around} {env : Env}
theorem Ev.const {hp : Heap} {gn : Array GenState} {dr : Drawn} {os : OsState} {i : Int} {k : Nat} {pos : Pos} {to : Nat} : Ev M A env (.Constant (.int i) k pos) ⟨hp, gn, dr, to, os⟩ (.int i to) ⟨hp, gn, dr, to + 1, os⟩ := ⟨fun _ => rfl, fun _ _ h => c_int h⟩
theorem Ev.slot {cs : Scope} {cn : Str} {L a : Addr} {ccd : Value} {h₀ : Heap} {ns : List Str} (S : SlotsOk cs ns) {s : Shared} {vs : List (Option Value)} (F : Fr h₀ L s.heap (slots ns vs)) {x : Str} {pos : Pos} {v : Value} (hs : Slot x v ns vs) :
    Ev M A (envOf cn cs L a ccd) (.Name x pos) s v s := ⟨fun _ => rfl, fun _ _ h => name_slot S F hs h⟩
variable {s s1 s2 s3 : Shared} {l r : Expr} {op : Operator} {pos : Pos} {u v w : Value} {es : List Expr} {us : List Value} {E : Value → Shared → Prop} {Q : Value → Shared → Prop}
theorem Ev.bin (h1 : Ev M A env l s u s1) (h2 : Ev M A env r s1 v s2) (h : Op M A (binaryOp op u v) s2 w s3) : Ev M A env (.BinOp l op r pos) s w s3 :=
  ⟨fun _ => rfl, fun E Q hQ => wpAny_BinOp (h1.go E _ (h2.go E _ (h E Q hQ)))⟩
theorem Ev.sub (h1 : Ev M A env l s u s1) (h2 : Ev M A env r s1 v s2) (h : Op M A (subscriptTail l r u v) s2 w s3) : Ev M A env (.Subscript l r pos) s w s3 :=
  ⟨fun _ => rfl, fun E Q hQ => Subscript_ (h1.go E _ (h2.go E _ (h E Q hQ)))⟩
theorem Ev.un {op : UnaryOp} (h1 : Ev M A env l s u s1) (h : Op M A (unaryOp op u) s1 w s2) : Ev M A env (.UnaryOp op l pos) s w s2 :=
  ⟨fun _ => rfl, fun E Q hQ => UnaryOp_ (h1.go E _ (h E Q hQ))⟩
theorem Ev.attr {n attr : Str} {np : Pos} (h1 : Ev M A env (.Name n np) s u s1) (h : Op M A (getAttr u attr true) s1 w s2) : Ev M A env (.Attribute (.Name n np) attr pos) s w s2 :=
  ⟨fun _ => rfl, fun E Q hQ => Attribute_name (h1.go E _ (h E Q hQ))⟩
theorem Evs.nil : Evs M A env [] s [] s := ⟨fun _ => rfl, fun _ _ h => (nomatch h), fun _ _ _ h => args_nil h⟩
theorem Evs.cons (h1 : Ev M A env l s u s1) (h2 : Evs M A env es s1 us s2) : Evs M A env (l :: es) s (u :: us) s2 :=
  ⟨fun pos => by rw [h1.plain]; exact h2.plain pos, fun e r q => by cases q; exact h1.plain _, fun pos E _ h => args_cons (h1.go E _ (h2.go pos E _ h)) (h1.plain es)⟩
theorem bin_go (h1 : Ev M A env l s u s1) (h2 : Ev M A env r s1 v s2) (h : wpAny M A (binaryOp op u v) Q E s2) : wpAny M A (eval (.BinOp l op r pos) env) Q E s := wpAny_BinOp (h1.go E _ (h2.go E _ h))
theorem Evs.args {e : Expr} {f : Value} {Q : Args → Shared → Prop} (ha : Evs M A env (e :: es) s us s1) (h : Q ⟨us, []⟩ s1) : wpAny M A (evalArgs f true (backTo pos (starEach (e :: es) env)) []) Q E s := by
  have g := ha.go pos E (fun us s1 => Q ⟨us, []⟩ s1) h
  rw [ha.head e es rfl] at g ⊢
  exact evalArgs_plain g
theorem sub_go (h1 : Ev M A env l s u s1) (h2 : Ev M A env r s1 v s2) (h : wpAny M A (subscriptTail l r u v) Q E s2) : wpAny M A (eval (.Subscript l r pos) env) Q E s := Subscript_ (h1.go E _ (h2.go E _ h))
theorem args_go {Q : List Value → Shared → Prop} (h1 : Evs M A env es s us s1) (h : Q us s1) : wpAny M A (spliced (backTo pos (starEach es env))) Q E s := h1.go pos E Q h
theorem cmp_go {op : CmpOp} {whole : Sem Value} {Q : Bool → Shared → Prop} (h1 : Ev M A env l s u s1) (h2 : Ev M A env r s1 v s2) (hm : behindInMarks op r = false) (h : wpAny M A (compareOp op u v) (fun c s₃ => wpAny M A (truthy c) Q E s₃) E s2) :
    wpAny M A (isTrue (.Compare l [op] [r] pos) env whole) Q E s := wpAny_isTrue_Compare1 (h1.go E _ (h2.go E _ h)) hm
end
section
variable {M : Model} {A : Around} {E : Value → Shared → Prop} {cs : Scope} {cn : Str} {L a : Addr} {ccd : Value} {cl : List (Str × Addr)} {h₀ : Heap} {K : Frag} {p : Program} {loose : List Str} {mean : ExcName → Option Value} {mg mb : Str → Option Value} {gs : List Str}
  {s s1 : Shared} {m : Str → Option Value} {x : Str} {p0 pos : Pos} {e : Expr} {es : List Expr} {us : List Value} {Q : Value → Shared → Prop}
/-- a call of a name of the module, its arguments read in direct style -/
theorem callG_goC {v : Value} (X : K.In h₀) (T : Top p loose mean mg mb h₀) (G : GlobOk cs gs) (F : Fr h₀ L s.heap m) (hx : Mem1 x gs) (hv : nsIn K mainGlobals x = some (some v)) (hk : keepIn K v = true)
    (ha : Evs M A (envX cn cs L a ccd cl) (e :: es) s us s1) (F1 : Fr h₀ L s1.heap m) (h : wpAny M A (call v us) Q E s1) : wpAny M A (eval (.Call (.Name x p0) (e :: es) [] pos) (envX cn cs L a ccd cl)) Q E s :=
  Call_ (nameX_K F X (topRead_of T) hv (callWith_of (by rw [ha.plain]; rfl) (fun h => keeps_K hk h) (ha.args ⟨X.keeps F1.keep, h⟩)) G.kind (G.ok x hx.mem).1 (G.ok x hx.mem).2)
theorem callB_goC {id : String} (X : K.In h₀) (T : Top p loose mean mg mb h₀) (G : GlobOk cs gs) (F : Fr h₀ L s.heap m) (hx : Mem1 x gs) (hv : nsIn K mainGlobals x = some none ∧ bootBuiltins x = some (.builtin id) ∧ x ≠ "__name__")
    (ha : Evs M A (envX cn cs L a ccd cl) (e :: es) s us s1) (h : wpAny M A (call (.builtin id) us) Q E s1) : wpAny M A (eval (.Call (.Name x p0) (e :: es) [] pos) (envX cn cs L a ccd cl)) Q E s :=
  Call_ (nameX_B F X (topRead_of T) hv.1 hv.2.1 hv.2.2 (callWith_builtin (ha.plain pos) (ha.args h)) G.kind (G.ok x hx.mem).1 (G.ok x hx.mem).2)
theorem callT_goC {id : String} (X : K.In h₀) (T : Top p loose mean mg mb h₀) (G : GlobOk cs gs) (F : Fr h₀ L s.heap m) (hx : Mem1 x gs) (hv : nsIn K mainGlobals x = some none ∧ bootBuiltins x = some (.type id) ∧ x ≠ "__name__")
    (ha : Evs M A (envX cn cs L a ccd cl) (e :: es) s us s1) (h : wpAny M A (call (.type id) us) Q E s1) : wpAny M A (eval (.Call (.Name x p0) (e :: es) [] pos) (envX cn cs L a ccd cl)) Q E s :=
  Call_ (nameX_B F X (topRead_of T) hv.1 hv.2.1 hv.2.2 (PyProof.Rows.callWith_type (ha.plain pos) (ha.args h)) G.kind (G.ok x hx.mem).1 (G.ok x hx.mem).2)
end
-- stores
inductive SetSlots : List Str → List Value → List Str → List (Option Value) → List (Option Value) → Prop
  | nil {ns : List Str} {vs : List (Option Value)} : SetSlots [] [] ns vs vs
  | cons {ns : List Str} {x : Str} {xs : List Str} {v : Value} {us : List Value} {vs vs1 vs2 : List (Option Value)} : SetSlot x v ns vs vs1 → SetSlots xs us ns vs1 vs2 → SetSlots (x :: xs) (v :: us) ns vs vs2
inductive NamesOf : List Expr → List Str → Prop
  | nil : NamesOf [] []
  | cons {x : Str} {pos : Pos} {es : List Expr} {ns : List Str} : NamesOf es ns → NamesOf (.Name x pos :: es) (x :: ns)
section
variable {M : Model} {A : Around} {cs : Scope} {cn : Str} {L a : Addr} {ccd : Value} {cl : List (Str × Addr)} {h₀ : Heap} {ns : List Str} {gn : Array GenState} {dr : Drawn} {os : OsState} {E : Value → Shared → Prop}
theorem sets_goC (S : SlotsOk cs ns) : ∀ {xs : List Str} {us : List Value} {vs vs' : List (Option Value)} {news : List (Addr × Obj)} {hp : Heap} {to : Nat} {R : Unit → Shared → Prop}, Fr h₀ L hp (slots ns vs) → News h₀ L hp news → SetSlots xs us ns vs vs' →
    (∀ h' tk', Fr h₀ L h' (slots ns vs') → News h₀ L h' news → R () ⟨h', gn, dr, tk', os⟩) → wpAny M A (assignInOrder (xs.map fun n => bindName (envX cn cs L a ccd cl) n) us) R E ⟨hp, gn, dr, to, os⟩ := by
  intro xs us vs vs' news hp to R F N hs h
  induction hs generalizing hp to with
  | nil => exact assignInOrder_nil (h _ _ F N)
  | cons h1 h2 ih => exact assignInOrder_cons (bindName_ (storeX_L F N (fun h' F' N' => ih S (h1.set S.nodup ▸ F') N' h) S.kind (S.ok _ h1.mem).1))
/-- a tuple of values upon a tuple of names -/
def TupSt (M : Model) (A : Around) (env : Env) (xs : List Str) (R : Shared → Prop) (E : Value → Shared → Prop) (us : List Value) (s : Shared) : Prop :=
  wpAny M A (newTuple us) (fun v s₁ => wpAny M A (unpackItems v xs.length none) (fun items s₂ => wpAny M A (assignInOrder (xs.reverse.map fun n => bindName env n) items.reverse) (fun _ => R) E s₂) E s₁) E s
theorem asgT_go {M : Model} {elts vals : List Expr} {k k' : Nat} {tpos vpos pos : Pos} {names : List Str} {Q : Flow → Shared → Prop} {env : Env} {s : Shared} (_hn : NamesOf elts names)
    (hs : swapsWithSole [.Tuple elts k tpos] (.Tuple vals k' vpos) pos.line env = pure false) (hw : swappedStores [.Tuple elts k tpos] (.Tuple vals k' vpos) env = pure (some names))
    (h : wpAny M A (spliced (backTo vpos (starEach vals env))) (fun us s₁ => TupSt M A env names (Q .next) E us s₁) E s) : wpAny M A (exec (.Assign [.Tuple elts k tpos] (.Tuple vals k' vpos) pos) env) Q E s :=
  Assign_Tuple_swapped (Tuple_ h) hs hw
theorem tupSt_goC {prog : Program} {w : World} (S : SlotsOk cs ns) {xs : List Str} {us : List Value} {vs vs' : List (Option Value)} {news : List (Addr × Obj)} {hp : Heap} {to : Nat} {R : Shared → Prop} (hh : A.handled = none) (F : Fr h₀ L hp (slots ns vs)) (N : News h₀ L hp news)
    (hl : xs.length = us.length) (hz : us.length < 10) (hs : SetSlots xs.reverse us.reverse ns vs vs') (h : ∀ h' tk', Fr h₀ L h' (slots ns vs') → News h₀ L h' news → R ⟨h', gn, dr, tk', os⟩) : TupSt (model prog w) A (envX cn cs L a ccd cl) xs R E us ⟨hp, gn, dr, to, os⟩ := by
  refine kup_newTuple F N (fun D h' F' N' l1 => ?_) (Nat.le_trans (Nat.le_of_lt hz) (by decide))
  refine unpackItemsN_ (s := ⟨h', gn, dr, to, os⟩) (n := xs.length) F' N' (items := us.toArray) (by have ht := N' _ (.head _); exact ⟨_, ht.1, rfl, _, rfl⟩) hh (by rw [hl]; simp) fun h2 F2 N2 => ?_
  exact sets_goC (R := fun _ => R) S F2 (fun q hq => N2 q (.tail _ hq)) hs h
theorem asg_goC (S : SlotsOk cs ns) {x : Str} {e : Expr} {p' pos : Pos} {s : Shared} {v : Value} {vs vs' : List (Option Value)} {news : List (Addr × Obj)} {hp : Heap} {to : Nat} {Q : Flow → Shared → Prop} (he : Ev M A (envX cn cs L a ccd cl) e s v ⟨hp, gn, dr, to, os⟩) (F : Fr h₀ L hp (slots ns vs)) (N : News h₀ L hp news)
    (hw : swapsWith e (some (.Name x p')) pos.line (envX cn cs L a ccd cl) = pure false) (hs : SetSlot x v ns vs vs')
    (h : ∀ h' tk', Fr h₀ L h' (slots ns vs') → News h₀ L h' news → Q .next ⟨h', gn, dr, tk', os⟩) : wpAny M A (exec (.Assign [.Name x p'] e pos) (envX cn cs L a ccd cl)) Q E s :=
  wpAny_Assign_Name (he.go E _ (storeX_L F N (fun h' F' N' => h h' _ (hs.set S.nodup ▸ F') N') S.kind (S.ok x hs.mem).1)) hw
theorem ret_go {e : Expr} {pos : Pos} {env : Env} {s s1 : Shared} {v : Value} {Q : Flow → Shared → Prop} (he : Ev M A env e s v s1) (h : Q (.ret v) s1) : wpAny M A (exec (.Return (some e) pos) env) Q E s := wpAny_Return_some (he.go E _ h)
end
section
variable {M : Model} {A : Around} {cs : Scope} {cn : Str} {L a : Addr} {ccd : Value} {h₀ : Heap} {ns : List Str} {gn : Array GenState} {dr : Drawn} {os : OsState} {K : Frag} {p : Program} {loose : List Str} {mean : ExcName → Option Value} {mg mb : Str → Option Value} {gs : List Str}
  {E : Value → Shared → Prop}
theorem callG_go (X : K.In h₀) (T : Top p loose mean mg mb h₀) (G : GlobOk cs gs) {s s1 : Shared} {m : Str → Option Value} (F : Fr h₀ L s.heap m) {x : Str} {p0 pos : Pos} {v : Value} {e : Expr} {es : List Expr} {us : List Value} {Q : Value → Shared → Prop} (hx : Mem1 x gs) (hv : nsIn K mainGlobals x = some (some v)) (hk : keepIn K v = true)
    (ha : Evs M A (envOf cn cs L a ccd) (e :: es) s us s1) (F1 : Fr h₀ L s1.heap m) (h : wpAny M A (call v us) Q E s1) : wpAny M A (eval (.Call (.Name x p0) (e :: es) [] pos) (envOf cn cs L a ccd)) Q E s := callG_goC (cl := []) X T G F hx hv hk ha F1 h
theorem callB_go (X : K.In h₀) (T : Top p loose mean mg mb h₀) (G : GlobOk cs gs) {s s1 : Shared} {m : Str → Option Value} (F : Fr h₀ L s.heap m) {x : Str} {p0 pos : Pos} {id : String} {e : Expr} {es : List Expr} {us : List Value} {Q : Value → Shared → Prop} (hx : Mem1 x gs) (hv : nsIn K mainGlobals x = some none ∧ bootBuiltins x = some (.builtin id) ∧ x ≠ "__name__")
    (ha : Evs M A (envOf cn cs L a ccd) (e :: es) s us s1) (h : wpAny M A (call (.builtin id) us) Q E s1) : wpAny M A (eval (.Call (.Name x p0) (e :: es) [] pos) (envOf cn cs L a ccd)) Q E s := callB_goC (cl := []) X T G F hx hv ha h
theorem callT_go (X : K.In h₀) (T : Top p loose mean mg mb h₀) (G : GlobOk cs gs) {s s1 : Shared} {m : Str → Option Value} (F : Fr h₀ L s.heap m) {x : Str} {p0 pos : Pos} {id : String} {e : Expr} {es : List Expr} {us : List Value} {Q : Value → Shared → Prop} (hx : Mem1 x gs) (hv : nsIn K mainGlobals x = some none ∧ bootBuiltins x = some (.type id) ∧ x ≠ "__name__")
    (ha : Evs M A (envOf cn cs L a ccd) (e :: es) s us s1) (h : wpAny M A (call (.type id) us) Q E s1) : wpAny M A (eval (.Call (.Name x p0) (e :: es) [] pos) (envOf cn cs L a ccd)) Q E s := callT_goC (cl := []) X T G F hx hv ha h
theorem tupSt_go {prog : Program} {w : World} (S : SlotsOk cs ns) (hh : A.handled = none) {xs : List Str} {us : List Value} {vs vs' : List (Option Value)} {news : List (Addr × Obj)} {hp : Heap} {to : Nat} {R : Shared → Prop} (F : Fr h₀ L hp (slots ns vs)) (N : News h₀ L hp news)
    (hl : xs.length = us.length) (hz : us.length < 10) (hs : SetSlots xs.reverse us.reverse ns vs vs') (h : ∀ h' tk', Fr h₀ L h' (slots ns vs') → News h₀ L h' news → R ⟨h', gn, dr, tk', os⟩) : TupSt (model prog w) A (envOf cn cs L a ccd) xs R E us ⟨hp, gn, dr, to, os⟩ :=
  tupSt_goC (cl := []) S hh F N hl hz hs h
theorem asg_go (S : SlotsOk cs ns) {x : Str} {e : Expr} {p' pos : Pos} {s : Shared} {v : Value} {vs vs' : List (Option Value)} {news : List (Addr × Obj)} {hp : Heap} {to : Nat} {Q : Flow → Shared → Prop} (he : Ev M A (envOf cn cs L a ccd) e s v ⟨hp, gn, dr, to, os⟩) (F : Fr h₀ L hp (slots ns vs)) (N : News h₀ L hp news)
    (hw : swapsWith e (some (.Name x p')) pos.line (envOf cn cs L a ccd) = pure false) (hs : SetSlot x v ns vs vs')
    (h : ∀ h' tk', Fr h₀ L h' (slots ns vs') → News h₀ L h' news → Q .next ⟨h', gn, dr, tk', os⟩) : wpAny M A (exec (.Assign [.Name x p'] e pos) (envOf cn cs L a ccd)) Q E s := asg_goC (cl := []) S he F N hw hs h
end
section
variable {prog : Program} {wd : World} {A : Around} {E : Value → Shared → Prop} {hp : Heap} {gn : Array GenState} {dr : Drawn} {to : Nat} {os : OsState} {i j : Int} {t u : Tok} {Q : Value → Shared → Prop}
theorem r_add (h : Q (.int (i + j) to) ⟨hp, gn, dr, to + 1, os⟩) : wpAny (model prog wd) A (binaryOp .Add (.int i t) (.int j u)) Q E ⟨hp, gn, dr, to, os⟩ := add_int h
theorem r_sub (h : Q (.int (i - j) to) ⟨hp, gn, dr, to + 1, os⟩) : wpAny (model prog wd) A (binaryOp .Sub (.int i t) (.int j u)) Q E ⟨hp, gn, dr, to, os⟩ := sub_int h
end
theorem slotsOk_of {cs : Scope} {ns : List Str} (h : (decide ns.Nodup && ns.all (fun x => decide (cs.names.lookup x = some .local) && !(x == ("__debug__" : Str))) && decide (cs.kind = .function)) = true) : SlotsOk cs ns := by
  simp only [Bool.and_eq_true, decide_eq_true_eq, List.all_eq_true, Bool.not_eq_true'] at h
  exact ⟨h.1.1, fun x hx => h.1.2 x hx, h.2⟩
theorem globOk_of {cs : Scope} {gs : List Str} (h : (gs.all (fun x => decide (cs.names.lookup x = some .globalImplicit) && !(x == ("__debug__" : Str))) && decide (cs.kind = .function)) = true) : GlobOk cs gs := by
  simp only [Bool.and_eq_true, decide_eq_true_eq, List.all_eq_true, Bool.not_eq_true'] at h
  exact ⟨fun x hx => h.1 x hx, h.2⟩
theorem slots_none : ∀ (rest : List Str) (y : Str), slots rest (rest.map fun _ => none) y = none
  | [], _ => rfl
  | n :: r, y => by
    rw [List.map_cons, slots]
    split
    · rfl
    · exact slots_none r y
theorem slots_out {y : Str} : ∀ {l : List Str}, y ∉ l → ∀ k, slots l k y = none
  | [], _, k => by cases k <;> rfl
  | m :: r, hn, [] => rfl
  | m :: r, hn, o :: k => by
    rw [slots, if_neg (fun e : y = m => hn (by rw [e]; exact .head _))]
    exact slots_out (fun q => hn (.tail _ q)) k
theorem slots_binds : ∀ (binds : List (Str × Value)) (rest : List Str), (binds.map (·.1) ++ rest).Nodup → ∀ y,
    binds.reverse.lookup y = slots (binds.map (·.1) ++ rest) (binds.map (fun b => some b.2) ++ rest.map (fun _ => none)) y
  | [], rest, _, y => by
    rw [List.map_nil, List.map_nil, List.nil_append, List.nil_append, slots_none]
    rfl
  | (n, v) :: b, rest, nd, y => by
    have nd' := List.nodup_cons.mp nd
    have ih := slots_binds b rest nd'.2 y
    rw [List.reverse_cons, List.lookup_append, ih, List.map_cons, List.map_cons, List.cons_append, List.cons_append, slots]
    by_cases h : y = n
    · subst h
      rw [if_pos rfl]
      have : slots (b.map (·.1) ++ rest) (b.map (fun b => some b.2) ++ rest.map (fun _ => none)) y = none := by
        exact slots_out (l := b.map (·.1) ++ rest) nd'.1 _
      rw [this]
      simp
    · rw [if_neg h]
      have : List.lookup y [(n, v)] = none := by
        have : (y == n) = false := by simpa using h
        simp [List.lookup, this]
      rw [this]
      cases slots (b.map (·.1) ++ rest) (b.map (fun b => some b.2) ++ rest.map (fun _ => none)) y <;> rfl

/-- a def's contract from its body: the frame by slots -/
theorem Spec.by {w : World} {f : Addr} {k : Nat} {vs : List Value} {Pre : Heap → Prop} {Out : List (Addr × Obj) → Value → Prop}
    {name qual : Str} {params : Arguments} {body : List Stmt} {scope : Scope} {dV kV doc pm cdv ct oc : Value} {an od : Option Addr} {osl : Array (Option Value)} (binds : List (Str × Value)) (rest gs : List Str)
    {ns : List Str} {sl : List (Option Value)}
    (ho : (hd.heap_1 w.params).lookup f = some ⟨oc, od, .func (fnOf name qual params body scope dV kV doc pm an cdv ct), osl⟩) (hcd : codeIn (hd.heap_1 w.params) cdv qual = true)
    (hbind : ∀ s, BindsTo s (fnOf name qual params body scope dV kV doc pm an cdv ct) ⟨vs, []⟩ binds) (hloc : ∀ y ∈ binds, scope.names.lookup y.1 = some .local)
    (hco : scope.isCoroutine = false) (hgen : scope.isGenerator = false) (hk : scope.kind = .function) (hcell : ∀ x ∈ scope.names, x.2 ≠ .cell)
    (hns : binds.map (·.1) ++ rest = ns) (hsl : binds.map (fun b => some b.2) ++ rest.map (fun _ => none) = sl) (hS : SlotsOk scope ns) (hG : GlobOk scope gs)
    (h : ∀ (p : Program) (loose : List Str) (mean : ExcName → Option Value) (mg mb : Str → Option Value) (dp un : Nat) (gd : Option (List Code)) (outer : List Env) (A₀ : Around) (base g : Heap) (L : Addr) (s : Shared),
      Below A₀ base outer g → Fr g L s.heap (slots ns sl) → (hd.heap_1 w.params).In g → News g L s.heap [] → Top p loose mean mg mb g → scope.kind = .function → SlotsOk scope ns → GlobOk scope gs →
      Pre g → dp + k < recursionLimit + 1 → un + 8 * k < cLine + 3 → 
      wpAny (model PR w) (ktrTop dp un gd qual scope L f cdv [] outer) (execs body (envOf qual scope L f cdv))
        (fun fl s' => Done g s Out (match fl with | .ret v => v | _ => .none) s') (fun _ _ => False) s) :
    Spec w f k vs Pre Out := by
  refine Spec.of ho hcd hbind hloc hco hgen hk hcell fun p loose mean mg mb dp un gd outer A₀ base g L s B F X N T hc hp hd hu => ?_
  have e : (fun y => binds.reverse.lookup y) = slots ns sl := by
    funext y
    rw [← hns, ← hsl]
    exact slots_binds binds rest (hns ▸ hS.nodup) y
  exact h p loose mean mg mb dp un gd outer A₀ base g L s B (e ▸ F) X N T hc hS hG hp hd hu

/-- the same, the rest of the walk a letter -/
theorem Spec.byQ {w : World} {f : Addr} {k : Nat} {vs : List Value} {Pre : Heap → Prop} {Out : List (Addr × Obj) → Value → Prop}
    {name qual : Str} {params : Arguments} {body : List Stmt} {scope : Scope} {dV kV doc pm cdv ct oc : Value} {an od : Option Addr} {osl : Array (Option Value)} (binds : List (Str × Value)) (rest gs : List Str)
    {ns : List Str} {sl : List (Option Value)}
    (ho : (hd.heap_1 w.params).lookup f = some ⟨oc, od, .func (fnOf name qual params body scope dV kV doc pm an cdv ct), osl⟩) (hcd : codeIn (hd.heap_1 w.params) cdv qual = true)
    (hbind : ∀ s, BindsTo s (fnOf name qual params body scope dV kV doc pm an cdv ct) ⟨vs, []⟩ binds) (hloc : ∀ y ∈ binds, scope.names.lookup y.1 = some .local)
    (hco : scope.isCoroutine = false) (hgen : scope.isGenerator = false) (hk : scope.kind = .function) (hcell : ∀ x ∈ scope.names, x.2 ≠ .cell)
    (hns : binds.map (·.1) ++ rest = ns) (hsl : binds.map (fun b => some b.2) ++ rest.map (fun _ => none) = sl) (hS : SlotsOk scope ns) (hG : GlobOk scope gs)
    (h : ∀ (p : Program) (loose : List Str) (mean : ExcName → Option Value) (mg mb : Str → Option Value) (dp un : Nat) (gd : Option (List Code)) (outer : List Env) (A₀ : Around) (base g : Heap) (L : Addr) (s : Shared),
      Below A₀ base outer g → Fr g L s.heap (slots ns sl) → (hd.heap_1 w.params).In g → News g L s.heap [] → Top p loose mean mg mb g → scope.kind = .function → SlotsOk scope ns → GlobOk scope gs →
      Pre g → dp + k < recursionLimit + 1 → un + 8 * k < cLine + 3 → 
      ∀ Q : Flow → Shared → Prop, (∀ fl s', Done g s Out (match fl with | .ret v => v | _ => .none) s' → Q fl s') →
      wpAny (model PR w) (ktrTop dp un gd qual scope L f cdv [] outer) (execs body (envOf qual scope L f cdv)) Q (fun _ _ => False) s) :
    Spec w f k vs Pre Out :=
  Spec.by binds rest gs ho hcd hbind hloc hco hgen hk hcell hns hsl hS hG fun p loose mean mg mb dp un gd outer A₀ base g L s B F X N T hc hS hG hp hd hu => h p loose mean mg mb dp un gd outer A₀ base g L s B F X N T hc hS hG hp hd hu _ fun _ _ x => x

section
variable {h₀ h : Heap} {L a : Addr} {m : Str → Option Value} {cn : Str} {cs : Scope} {ccd : Value} {news : List (Addr × Obj)}
theorem fr_locals (F : Fr h₀ (envOf cn cs L a ccd).locals h m) : Fr h₀ L h m := F
theorem news_locals (N : News h₀ (envOf cn cs L a ccd).locals h news) : News h₀ L h news := N
theorem fr_goal {P : Prop} {x : Str} {v : Value} {ns : List Str} {vs vs' : List (Option Value)} (F : Fr h₀ (envOf cn cs L a ccd).locals h (fun y => if y = x then some v else slots ns vs y)) (S : SlotsOk cs ns) (hs : SetSlot x v ns vs vs')
    (k : Fr h₀ L h (slots ns vs') → P) : P := k (fr_slot F S hs)
end
section
variable {prog : Program} {w : World} {A : Around} {E : Value → Shared → Prop} {s : Shared} {l : Addr} {n : Nat}
theorem item_F {value slice : Expr} {arr : Array Value} {k : Int} {u : Tok} {v : Value} {Q : Value → Shared → Prop} (hl : s.heap.get? l = some (listOf arr n)) (h0 : 0 ≤ k) (hhi : k < 2 ^ 63) (hx : arr[k.toNat]? = some v) (h : Q v s)
    (hs : subscripted slice false (.ref l) (.int k u) = operate [.ref l, .int k u] (getItem (.ref l) (.int k u)) := by with_unfolding_all rfl) :
    wpAny (model prog w) A (subscriptTail value slice (.ref l) (.int k u)) Q E s :=
  have hL : s.heap.IsList l arr := ⟨_, hl, rfl, _, rfl⟩
  tail_any hL.typeIs slot_list_getitem.lookup (wpAny_getItem_list hL h0 hhi hx h) hs
theorem item_T {value slice : Expr} {arr : Array Value} {k : Int} {u : Tok} {v : Value} {Q : Value → Shared → Prop} (hl : s.heap.get? l = some ({ cls := .type "tuple", data := .seq arr n } : Obj)) (h0 : 0 ≤ k) (hhi : k < 2 ^ 63) (hx : arr[k.toNat]? = some v) (h : Q v s)
    (hs : subscripted slice false (.ref l) (.int k u) = operate [.ref l, .int k u] (getItem (.ref l) (.int k u)) := by with_unfolding_all rfl) :
    wpAny (model prog w) A (subscriptTail value slice (.ref l) (.int k u)) Q E s := by
  have hlen : k.toNat < arr.size := by
    rcases Nat.lt_or_ge k.toNat arr.size with h | h
    · exact h
    · rw [Array.getElem?_eq_none h] at hx; cases hx
  have hj : seqIndex? k arr.toList.length = some k.toNat := by
    have h9 : ¬ k < 0 := by omega
    simp [seqIndex?, h9]
    omega
  have hx' : arr.toList[k.toNat]? = some v := by simpa using hx
  exact item_tupleT (value := value) (slice := slice) (u := u) (k := k) (l := arr.toList) ⟨_, hl, rfl, n, rfl⟩ (by omega) hhi hj hx' h hs
theorem len_F {arr : Array Value} {Q : Value → Shared → Prop} {k : Nat} (hl : s.heap.get? l = some (listOf arr n)) (hz : arr.size = k) (hk : k < 1000) (h : ∀ t tk', Q (.int (k : Int) t) { s with toks := tk' }) : wpAny (model prog w) A (call (.builtin "len") [.ref l]) Q E s := by
  refine call_len_list (items := arr) ⟨_, hl, rfl, _, rfl⟩ (by omega) ?_
  rw [hz]
  exact h _ _
end
theorem sub_const {prog : Program} {w : World} {A : Around} {E : Value → Shared → Prop} {s : Shared} {a b c : Int} {t u : Tok} {Q : Value → Shared → Prop} (e : a - b = c) (h : Q (.int c s.toks) { s with toks := s.toks + 1 }) : wpAny (model prog w) A (binaryOp .Sub (.int a t) (.int b u)) Q E s := sub_int (by rw [e]; exact h)

theorem two_base_le {w : Int} (hw : WOk w) : 2 * (2 : Int) ^ w.toNat ≤ 2 ^ w.toNat * 2 ^ w.toNat := by
  rcases hw.cases with rfl | rfl | rfl | rfl <;> decide
theorem base_le {w : Int} (hw : WOk w) : (2 : Int) ^ w.toNat ≤ 512 ∧ 64 ≤ (2 : Int) ^ w.toNat := by
  rcases hw.cases with rfl | rfl | rfl | rfl <;> decide
theorem bitOr_shift {r a : Int} {k : Nat} (hr : 0 ≤ r) (h0 : 0 ≤ a) (h1 : a < 2 ^ k) : Builtin.bitOr (r * 2 ^ k) a = r * 2 ^ k + a := by
  obtain ⟨r, rfl⟩ := Int.eq_ofNat_of_zero_le hr
  obtain ⟨a, rfl⟩ := Int.eq_ofNat_of_zero_le h0
  have h2 : a < 2 ^ k := by
    have := kbt_cast k
    omega
  have e : ((r : Int) * 2 ^ k) = ((r * 2 ^ k : Nat) : Int) := by rw [Int.natCast_mul, kbt_cast]
  have hp : 0 ≤ ((r * 2 ^ k : Nat) : Int) := Int.natCast_nonneg _
  rw [e]
  have n1 : ¬ 0 ≤ Builtin.bitNot ((r * 2 ^ k : Nat) : Int) := by unfold Builtin.bitNot; omega
  have n2 : ¬ 0 ≤ Builtin.bitNot (a : Int) := by unfold Builtin.bitNot; omega
  have d1 : Builtin.bitNot (Builtin.bitNot ((r * 2 ^ k : Nat) : Int)) = ((r * 2 ^ k : Nat) : Int) := by unfold Builtin.bitNot; omega
  have d2 : Builtin.bitNot (Builtin.bitNot (a : Int)) = (a : Int) := by unfold Builtin.bitNot; omega
  have d3 : ∀ z : Int, Builtin.bitNot (Builtin.bitNot z) = z := fun z => by unfold Builtin.bitNot; omega
  unfold Builtin.bitOr
  rw [bitAnd_nn n1 n2, d1, d2, d3, Int.toNat_natCast, Int.toNat_natCast, Nat.mul_comm r, ← Nat.two_pow_add_eq_or_of_lt h2]
  omega
theorem bitOr_comm (x y : Int) : Builtin.bitOr x y = Builtin.bitOr y x := by unfold Builtin.bitOr; rw [bitAnd_comm]
section
variable {prog : Program} {wd : World} {A : Around} {E : Value → Shared → Prop} {s : Shared} {hp : Heap} {gn : Array GenState} {dr : Drawn} {to : Nat} {os : OsState} {a b r w : Int} {t u : Tok} {Q : Value → Shared → Prop}
theorem r_or (h1 : 0 ≤ r) (h2 : 0 ≤ a) (h3 : a < 2 ^ w.toNat) (h : Q (.int (r * 2 ^ w.toNat + a) to) ⟨hp, gn, dr, to + 1, os⟩) : wpAny (model prog wd) A (binaryOp .BitOr (.int (r * 2 ^ w.toNat) t) (.int a u)) Q E ⟨hp, gn, dr, to, os⟩ :=
  or_int (by rw [bitOr_shift h1 h2 h3]; exact h)
theorem r_or' (h1 : 0 ≤ r) (h2 : 0 ≤ a) (h3 : a < 2 ^ w.toNat) (h : Q (.int (r * 2 ^ w.toNat + a) to) ⟨hp, gn, dr, to + 1, os⟩) : wpAny (model prog wd) A (binaryOp .BitOr (.int a t) (.int (r * 2 ^ w.toNat) u)) Q E ⟨hp, gn, dr, to, os⟩ :=
  or_int (by rw [bitOr_comm, bitOr_shift h1 h2 h3]; exact h)
theorem r_shl (h1 : 0 ≤ w) (h2 : w ≤ 9) (h3 : 0 ≤ a) (h4 : a < 1000000) (h : Q (.int (a * 2 ^ w.toNat) to) ⟨hp, gn, dr, to + 1, os⟩) : wpAny (model prog wd) A (binaryOp .LShift (.int a t) (.int w u)) Q E ⟨hp, gn, dr, to, os⟩ :=
  lshift_int_small h1 (by omega) (by omega) h
theorem r_fdiv (hb : 0 < b) (hs : b < 1000000) (h : Q (.int (a / b) to) ⟨hp, gn, dr, to + 1, os⟩) : wpAny (model prog wd) A (binaryOp .FloorDiv (.int a t) (.int b u)) Q E ⟨hp, gn, dr, to, os⟩ :=
  floordiv_int (by omega) (by rw [Int.fdiv_eq_ediv_of_nonneg _ (Int.le_of_lt hb)]; exact h) (Or.inl (PyProof.noPylong_of_log2 (by
    have : b.natAbs.log2 < 64 := (Nat.log2_lt (by omega)).mpr (by omega)
    omega)))
theorem r_fmod (hb : 0 < b) (h : Q (.int (a % b) to) ⟨hp, gn, dr, to + 1, os⟩) : wpAny (model prog wd) A (binaryOp .Mod (.int a t) (.int b u)) Q E ⟨hp, gn, dr, to, os⟩ :=
  mod_int' (by omega) (by rw [Int.fmod_eq_emod_of_nonneg _ (Int.le_of_lt hb)]; exact h)
theorem r_imod (hb : 0 < b) (h : Q (.int (a % b) to) ⟨hp, gn, dr, to + 1, os⟩) : wpAny (model prog wd) A (inplaceOp .Mod (.int a t) (.int b u)) Q E ⟨hp, gn, dr, to, os⟩ :=
  imod_int (by omega) (by rw [Int.fmod_eq_emod_of_nonneg _ (Int.le_of_lt hb)]; exact h)
theorem r_div0 (h1 : 0 ≤ a) (h2 : a < b) (h3 : b < 1000) (h : Q (.int 0 to) ⟨hp, gn, dr, to + 1, os⟩) : wpAny (model prog wd) A (binaryOp .FloorDiv (.int a t) (.int b u)) Q E ⟨hp, gn, dr, to, os⟩ :=
  r_fdiv (by omega) (by omega) (by rw [Int.ediv_eq_zero_of_lt h1 h2]; exact h)
theorem r_mod0 (h1 : 0 ≤ a) (h2 : a < b) (h : Q (.int a to) ⟨hp, gn, dr, to + 1, os⟩) : wpAny (model prog wd) A (binaryOp .Mod (.int a t) (.int b u)) Q E ⟨hp, gn, dr, to, os⟩ :=
  r_fmod (by omega) (by rw [Int.emod_eq_of_lt h1 h2]; exact h)
theorem r_shrk {k : Int} (hk : 0 ≤ k) (h : Q (.int (a / 2 ^ k.toNat) to) ⟨hp, gn, dr, to + 1, os⟩) : wpAny (model prog wd) A (binaryOp .RShift (.int a t) (.int k u)) Q E ⟨hp, gn, dr, to, os⟩ :=
  rshift_int hk (by rw [Int.fdiv_eq_ediv_of_nonneg _ (Int.le_of_lt (kbt_pos _))]; exact h)
end
section
variable {prog : Program} {w : World} {A : Around} {E : Value → Shared → Prop} {s : Shared} {h₀ : Heap} {L l : Addr} {m : Str → Option Value} {news news' : List (Addr × Obj)} {n : Nat}
theorem mulF {items arr : Array Value} {x : Int} {u : Tok} {Q : Value → Shared → Prop} (F : Fr h₀ L s.heap m) (N : News h₀ L s.heap news) (hl : s.heap.get? l = some (listOf items n)) (hx : 0 ≤ x ∧ x < 10) (hs : items.size = 1)
    (e : List.foldl (fun x1 x2 => x1 ++ x2) #[] (List.replicate x.toNat items) = arr)
    (h : ∀ d h', Fr h₀ L h' m → News h₀ L h' ((d, listOf arr 0) :: news) → (∀ p ∈ news, p.1 < d) → Q (.ref d) { s with heap := h' }) : wpAny (model prog w) A (binaryOp .Mult (.ref l) (.int x u)) Q E s := by
  have he : items.isEmpty = false := by
    rw [Array.isEmpty_eq_false_iff]; intro e; rw [e] at hs; cases hs
  refine mul_list F N hl (by omega) (by omega) (by rw [hs]; omega) fun h' F' N' => h _ h' F' ?_ (fun p hp => Heap.lt_size (N p hp).1)
  rw [he] at N'
  rw [← e]
  exact N'
theorem news1 {h : Heap} {p : Addr × Obj} (N : News h₀ L h ([p] ++ news)) : News h₀ L h (p :: news) := N
theorem news0 {h : Heap} (N : News h₀ L h ([] ++ news)) : News h₀ L h news := N
end

theorem r_shr1 {prog : Program} {wd : World} {A : Around} {E : Value → Shared → Prop} {hp : Heap} {gn : Array GenState} {dr : Drawn} {to : Nat} {os : OsState} {a : Int} {t u : Tok} {Q : Value → Shared → Prop} (h : Q (.int (a / 2) to) ⟨hp, gn, dr, to + 1, os⟩) : wpAny (model prog wd) A (binaryOp .RShift (.int a t) (.int 1 u)) Q E ⟨hp, gn, dr, to, os⟩ :=
  r_shrk (by decide) h
theorem news2 {h₀ h : Heap} {L : Addr} {p q : Addr × Obj} {news : List (Addr × Obj)} (N : News h₀ L h ([p, q] ++ news)) : News h₀ L h (p :: q :: news) := N
theorem news3 {h₀ h : Heap} {L : Addr} {p q r : Addr × Obj} {news : List (Addr × Obj)} (N : News h₀ L h ([p, q, r] ++ news)) : News h₀ L h (p :: q :: r :: news) := N
abbrev tupO (its : Array Value) (n : Nat) : Obj := { cls := .type "tuple", data := .seq its n }
def OutPairInt (w v r : Int) (tl : List (Addr × Obj)) (x : Value) : Prop := ∃ a b t n o, x = .ref a ∧ tl = [(a, tupO #[.ref b, .int r t] n), (b, o)] ∧ Lm w v o
def OutPairLm (w v r : Int) (tl : List (Addr × Obj)) (x : Value) : Prop := ∃ a b c n o q, x = .ref a ∧ tl = [(a, tupO #[.ref b, .ref c] n), (b, o), (c, q)] ∧ Lm w v o ∧ Lm w r q
theorem done_pairint {g h' : Heap} {s₀ s' : Shared} {L' a b : Addr} {m' : Str → Option Value} {tk' n : Nat} {t : Tok} {news : List (Addr × Obj)} {o : Obj} {w v x r : Int}
    (es : s' = { s₀ with heap := h', toks := tk' }) (F : Fr g L' h' m') (N : News g L' h' news) (hm : (a, tupO #[.ref b, .int x t] n) ∈ news) (hb : (b, o) ∈ news) (hi : Lm w v o) (hx : x = r) : Done g s₀ (OutPairInt w v r) (.ref a) s' := by
  subst hx
  exact ⟨_, _, [(a, tupO #[.ref b, .int x t] n), (b, o)], _, _, es, F, fun p hp => N p (by
    rcases List.mem_cons.mp hp with rfl | hp
    · exact hm
    · rw [List.mem_singleton.mp hp]; exact hb), _, _, _, _, _, rfl, rfl, hi⟩
theorem done_pairlm {g h' : Heap} {s₀ s' : Shared} {L' a b c : Addr} {m' : Str → Option Value} {tk' n : Nat} {news : List (Addr × Obj)} {o q : Obj} {w v r : Int}
    (es : s' = { s₀ with heap := h', toks := tk' }) (F : Fr g L' h' m') (N : News g L' h' news) (hm : (a, tupO #[.ref b, .ref c] n) ∈ news) (hb : (b, o) ∈ news) (hc : (c, q) ∈ news) (hi : Lm w v o) (hj : Lm w r q) : Done g s₀ (OutPairLm w v r) (.ref a) s' :=
  ⟨_, _, [(a, tupO #[.ref b, .ref c] n), (b, o), (c, q)], _, _, es, F, fun p hp => N p (by
    rcases List.mem_cons.mp hp with rfl | hp
    · exact hm
    · rcases List.mem_cons.mp hp with rfl | hp
      · exact hb
      · rw [List.mem_singleton.mp hp]; exact hc), _, _, _, _, _, _, rfl, rfl, hi, hj⟩
theorem sgn_neg {x y : Int} (h : y ≤ x) : ¬ sgn x y < 0 := by
  unfold sgn; rw [if_neg (by omega)]; split <;> omega
theorem sgn_pos {x y : Int} (h : x < y) : sgn x y < 0 := by
  unfold sgn; rw [if_pos h]; omega

section
variable {prog : Program} {w : World} {A : Around} {E : Value → Shared → Prop} {s : Shared} {l : Addr} {n : Nat} {h₀ : Heap} {L : Addr} {m : Str → Option Value} {news : List (Addr × Obj)} {Q : Value → Shared → Prop} {arr : Array Value}
theorem len0 (hl : s.heap.get? l = some (listOf arr n)) (hz : arr.size = 0) (h : ∀ t tk', Q (.int 0 t) { s with toks := tk' }) : wpAny (model prog w) A (call (.builtin "len") [.ref l]) Q E s := len_F hl hz (by decide) h
theorem len1 (hl : s.heap.get? l = some (listOf arr n)) (hz : arr.size = 1) (h : ∀ t tk', Q (.int 1 t) { s with toks := tk' }) : wpAny (model prog w) A (call (.builtin "len") [.ref l]) Q E s := len_F hl hz (by decide) h
theorem len2 (hl : s.heap.get? l = some (listOf arr n)) (hz : arr.size = 2) (h : ∀ t tk', Q (.int 2 t) { s with toks := tk' }) : wpAny (model prog w) A (call (.builtin "len") [.ref l]) Q E s := len_F hl hz (by decide) h
theorem len3 (hl : s.heap.get? l = some (listOf arr n)) (hz : arr.size = 3) (h : ∀ t tk', Q (.int 3 t) { s with toks := tk' }) : wpAny (model prog w) A (call (.builtin "len") [.ref l]) Q E s := len_F hl hz (by decide) h
theorem range1F {b : Int} {t : Tok} (F : Fr h₀ L s.heap m) (N : News h₀ L s.heap news) (h : ∀ r h' tk' t u v, Fr h₀ L h' m → News h₀ L h' news → IsRange h' r 0 b 1 t u v → Q (.ref r) { s with heap := h', toks := tk' }) :
    wpAny (model prog w) A (call (.type "range") [.int b t]) Q E s :=
  call_range_1 (h _ _ _ _ _ _ (F.push _) (fun p hp => (N.push F _) p (.tail _ hp)) (IsRange.new _ _ _ _ _ _ _))
theorem range2F {a b : Int} {t u : Tok} (F : Fr h₀ L s.heap m) (N : News h₀ L s.heap news) (h : ∀ r h' tk' t u v, Fr h₀ L h' m → News h₀ L h' news → IsRange h' r a b 1 t u v → Q (.ref r) { s with heap := h', toks := tk' }) :
    wpAny (model prog w) A (call (.type "range") [.int a t, .int b u]) Q E s :=
  call_range_2 (h _ _ _ _ _ _ (F.push _) (fun p hp => (N.push F _) p (.tail _ hp)) (IsRange.new _ _ _ _ _ _ _))
theorem range3F {a b : Int} {t u v : Tok} (F : Fr h₀ L s.heap m) (N : News h₀ L s.heap news) (h : ∀ r h' tk' t u v, Fr h₀ L h' m → News h₀ L h' news → IsRange h' r a b (-1) t u v → Q (.ref r) { s with heap := h', toks := tk' }) :
    wpAny (model prog w) A (call (.type "range") [.int a t, .int b u, .int (-1) v]) Q E s :=
  call_range_3 (by decide) (h _ _ _ _ _ _ (F.push _) (fun p hp => (N.push F _) p (.tail _ hp)) (IsRange.new _ _ _ _ _ _ _))
end

section
variable {prog : Program} {w : World} {A : Around} {E : Value → Shared → Prop} {s : Shared} {l : Addr} {n : Nat} {h₀ : Heap} {L : Addr} {m : Str → Option Value} {news : List (Addr × Obj)} {Q : Value → Shared → Prop} {value slice : Expr} {k : Int} {u : Tok} {v x y : Value} {r : List Value}
theorem itL0 (hl : s.heap.get? l = some (listOf (v :: r).toArray n)) (hk : k = 0) (h : Q v s) (hs : subscripted slice false (.ref l) (.int k u) = operate [.ref l, .int k u] (getItem (.ref l) (.int k u)) := by with_unfolding_all rfl) :
    wpAny (model prog w) A (subscriptTail value slice (.ref l) (.int k u)) Q E s := by subst hk; exact item_F hl (by decide) (by decide) (by simp) h hs
theorem itL1 (hl : s.heap.get? l = some (listOf (x :: v :: r).toArray n)) (hk : k = 1) (h : Q v s) (hs : subscripted slice false (.ref l) (.int k u) = operate [.ref l, .int k u] (getItem (.ref l) (.int k u)) := by with_unfolding_all rfl) :
    wpAny (model prog w) A (subscriptTail value slice (.ref l) (.int k u)) Q E s := by subst hk; exact item_F hl (by decide) (by decide) (by simp) h hs
theorem itL2 (hl : s.heap.get? l = some (listOf (x :: y :: v :: r).toArray n)) (hk : k = 2) (h : Q v s) (hs : subscripted slice false (.ref l) (.int k u) = operate [.ref l, .int k u] (getItem (.ref l) (.int k u)) := by with_unfolding_all rfl) :
    wpAny (model prog w) A (subscriptTail value slice (.ref l) (.int k u)) Q E s := by subst hk; exact item_F hl (by decide) (by decide) (by simp) h hs
theorem itT0 (hl : s.heap.get? l = some (tupO (v :: r).toArray n)) (hk : k = 0) (h : Q v s) (hs : subscripted slice false (.ref l) (.int k u) = operate [.ref l, .int k u] (getItem (.ref l) (.int k u)) := by with_unfolding_all rfl) :
    wpAny (model prog w) A (subscriptTail value slice (.ref l) (.int k u)) Q E s := by subst hk; exact item_T hl (by decide) (by decide) (by simp) h hs
theorem itT1 (hl : s.heap.get? l = some (tupO (x :: v :: r).toArray n)) (hk : k = 1) (h : Q v s) (hs : subscripted slice false (.ref l) (.int k u) = operate [.ref l, .int k u] (getItem (.ref l) (.int k u)) := by with_unfolding_all rfl) :
    wpAny (model prog w) A (subscriptTail value slice (.ref l) (.int k u)) Q E s := by subst hk; exact item_T hl (by decide) (by decide) (by simp) h hs
theorem itT2 (hl : s.heap.get? l = some (tupO (x :: y :: v :: r).toArray n)) (hk : k = 2) (h : Q v s) (hs : subscripted slice false (.ref l) (.int k u) = operate [.ref l, .int k u] (getItem (.ref l) (.int k u)) := by with_unfolding_all rfl) :
    wpAny (model prog w) A (subscriptTail value slice (.ref l) (.int k u)) Q E s := by subst hk; exact item_T hl (by decide) (by decide) (by simp) h hs
theorem mul0 (F : Fr h₀ L s.heap m) (N : News h₀ L s.heap news) (hl : s.heap.get? l = some (listOf #[v] n)) (hk : k = 0) (h : ∀ d h', Fr h₀ L h' m → News h₀ L h' ((d, listOf #[] 0) :: news) → (∀ p ∈ news, p.1 < d) → Q (.ref d) { s with heap := h' }) :
    wpAny (model prog w) A (binaryOp .Mult (.ref l) (.int k u)) Q E s := by subst hk; exact mulF F N hl (by decide) rfl rfl h
theorem mul1 (F : Fr h₀ L s.heap m) (N : News h₀ L s.heap news) (hl : s.heap.get? l = some (listOf #[v] n)) (hk : k = 1) (h : ∀ d h', Fr h₀ L h' m → News h₀ L h' ((d, listOf #[v] 0) :: news) → (∀ p ∈ news, p.1 < d) → Q (.ref d) { s with heap := h' }) :
    wpAny (model prog w) A (binaryOp .Mult (.ref l) (.int k u)) Q E s := by subst hk; exact mulF F N hl (by decide) rfl rfl h
theorem mul2 (F : Fr h₀ L s.heap m) (N : News h₀ L s.heap news) (hl : s.heap.get? l = some (listOf #[v] n)) (hk : k = 2) (h : ∀ d h', Fr h₀ L h' m → News h₀ L h' ((d, listOf #[v, v] 0) :: news) → (∀ p ∈ news, p.1 < d) → Q (.ref d) { s with heap := h' }) :
    wpAny (model prog w) A (binaryOp .Mult (.ref l) (.int k u)) Q E s := by subst hk; exact mulF F N hl (by decide) rfl rfl h
end

section
variable {prog : Program} {wd : World} {A : Around} {E : Value → Shared → Prop} {s : Shared} {hp : Heap} {gn : Array GenState} {dr : Drawn} {to : Nat} {os : OsState} {a b w : Int} {t u : Tok} {Q : Value → Shared → Prop}
theorem r_shl0 (hw : WOk w) (h : Q (.int 0 to) ⟨hp, gn, dr, to + 1, os⟩) : wpAny (model prog wd) A (binaryOp .LShift (.int 0 t) (.int w u)) Q E ⟨hp, gn, dr, to, os⟩ :=
  r_shl (by obtain ⟨h1, h2⟩ := hw; omega) (by obtain ⟨h1, h2⟩ := hw; omega) (by decide) (by decide) (by rw [Int.zero_mul]; exact h)
theorem r_or0 (ha : 0 ≤ a) (h : Q (.int a to) ⟨hp, gn, dr, to + 1, os⟩) : wpAny (model prog wd) A (binaryOp .BitOr (.int 0 t) (.int a u)) Q E ⟨hp, gn, dr, to, os⟩ :=
  or_int (by
    have e : Builtin.bitOr 0 a = a := by
      have := bitOr_shift (r := 0) (k := a.toNat) (Int.le_refl 0) ha (by
        have h1 : a.toNat < 2 ^ a.toNat := Nat.lt_two_pow_self
        have h2 := kbt_cast a.toNat
        omega)
      rw [Int.zero_mul, Int.zero_add] at this
      exact this
    rw [e]; exact h)
end

-- enumerate over a list of the base heap, turn by turn
section
variable {prog : Program} {w : World} {A : Around} {E : Value → Shared → Prop} {s : Shared} {env : Env} {h₀ : Heap} {target : Expr} {body : List Stmt} {Q : Flow → Shared → Prop}
theorem core_base {I : Addr} {fp wr : List Addr} {n : Nat} {P Md : Nat → Value → Heap → Prop} {St : Nat → Heap → Prop} {ws : List (Addr × String)} {xs : List Itm} {m₀ : Str → Option Value} {news : List (Addr × Obj)} {hp : Heap} {tk0 : Nat}
    (W : KTurns prog w A target I fp wr n P Md St) (hn : n = xs.length) (hP : ∀ i v h, P i v h → ∃ a, xs[i]? = some a ∧ a.Is v h)
    (hobj : ∀ i h, St i h → ∃ its, Objs ws its ∧ ∀ p ∈ its, h.get? p.1 = some p.2)
    (hws : ∀ b ∈ ws.map (·.1), b ∈ fp ∧ h₀.get? b = none) (hwr : ∀ b ∈ wr, b ∈ ws.map (·.1))
    (hfp : ∀ b ∈ fp, b ∈ ws.map (·.1) ∨ h₀.get? b ≠ none) (hL : env.locals ∉ fp) (hnw : ∀ p ∈ news, p.1 ∉ wr) (hst : St 0 hp)
    (F : Fr h₀ env.locals hp m₀) (N : News h₀ env.locals hp news)
    (rest : ItemsRest prog w A E h₀ env target body Q s ws [] xs m₀ news) : TurnsAt prog w A h₀ env target body Q E (.ref I) { s with heap := hp, toks := tk0 } := by
  refine ⟨I, fp, wr, n, P, Md, St, m₀, news, fun i m₁ news₁ => ItemsRest prog w A E h₀ env target body Q s ws [] (xs.drop i) m₁ news₁, rfl, W, hL, fun b hb => (hws b (hwr b hb)).2, hnw, hst, F, N, rest, ?_, ?_⟩
  · intro i v m₁ news₁ h₁ tk₁ own hin hPi hJ _ hown hget hall hst₁ F₁ N₁
    obtain ⟨a, ha, hav⟩ := hP i v h₁ hPi
    obtain ⟨its, hits, hval⟩ := hobj (i + 1) h₁ hst₁
    have hmap := hits.map
    have hlen : i < xs.length := hn ▸ hin
    have hdrop : xs.drop i = a :: xs.drop (i + 1) := by
      rw [List.drop_eq_getElem_cons hlen]
      rw [List.getElem?_eq_getElem hlen] at ha
      rw [Option.some.inj ha]
    rw [hdrop] at hJ
    have N₂ : News h₀ env.locals h₁ (its ++ news₁) := by
      intro p hp
      rcases List.mem_append.mp hp with hp | hp
      · have h1 : p.1 ∈ ws.map (·.1) := hmap ▸ List.mem_map_of_mem hp
        exact N₁ p (List.mem_append_left _ (hall p.1 (hws _ h1).1 (hws _ h1).2 p.2 (hval p hp)))
      · exact N₁ p (List.mem_append_right _ hp)
    have fin : ∀ s₃, UnrEndW h₀ env.locals { s with heap := h₁, toks := tk₁ } its (fun m' n' => SubL [] n' ∧ ItemsRest prog w A E h₀ env target body Q s ws [] (xs.drop (i + 1)) m' n') s₃ →
        LoopStepU h₀ env.locals wr own (fun m' n' => ItemsRest prog w A E h₀ env target body Q s ws [] (xs.drop (i + 1)) m' n') { s with heap := h₁, toks := tk₁ } .next s₃ := by
      rintro s₃ ⟨h', tk, m', news', e, F', N', ho, _, r⟩
      refine ⟨rfl, h', tk, m', news', e, F', fun p hp => ?_, fun p hp hI => ?_, r⟩
      · rcases List.mem_append.mp hp with hp | hp
        · rcases hfp p.1 (hown p hp) with h3 | h3
          · rw [← hmap] at h3
            obtain ⟨q, hq, hqe⟩ := List.mem_map.mp h3
            have h5 := hval q hq
            have h2 := hget p hp
            rw [hqe, h2] at h5
            have e9 : p = q := Prod.ext hqe.symm (Option.some.inj h5)
            rw [e9]
            exact N' q (List.mem_append_left _ hq)
          · exact absurd (N₁ p (List.mem_append_left _ hp)).2.2 h3
        · exact N' p (List.mem_append_right _ hp)
      · have h4 := hwr _ hI
        rw [← hmap] at h4
        obtain ⟨q, hq, hqe⟩ := List.mem_map.mp h4
        exact ho p hp q hq hqe.symm
    refine wpAny_mono ((hJ v h₁ tk₁ hav F₁).at hits N₂) (fun _ s₂ h₂ => wpAny_mono h₂ (fun f s₃ p => ?_) fun _ _ e => e) fun _ _ e => e
    cases f with
    | ret v => exact .ret p
    | brk => exact .brk p
    | next => exact .next (fin _ p)
    | cont => exact .cont (fin _ p)
  · intro h' tk m' news' F' N' _ hJ
    rw [hn, List.drop_length] at hJ
    exact hJ h' tk F' N'

theorem enum_base {elts : List Expr} {k : Nat} {pos : Pos} {l : Addr} {vs : List Value} {xs : List Itm} {n : Nat} {m₀ : Str → Option Value} {news : List (Addr × Obj)}
    (hh : A.handled = none) (F : Fr h₀ env.locals s.heap m₀) (N : News h₀ env.locals s.heap news) (hm : h₀.get? l = some (listOf vs.toArray n)) (hx : enumItems 0 vs = xs)
    (rest₀ : ∀ I : Addr, (∀ p ∈ news, p.1 < I) → ItemsRest prog w A E h₀ env (.Tuple elts k pos) body Q s [(I + 1, "enumerate"), (I, "list_iterator")] [] xs m₀ news) :
    wpAny (model prog w) A (call (.type "enumerate") [.ref l]) (fun xv s₁ => wpAny (model prog w) A (pyIter xv) (fun it s₂ => TurnsAt prog w A h₀ env (.Tuple elts k pos) body Q E it s₂) E s₁) E s := by
  subst hx
  have hax := F.keep _ _ hm
  have hl : s.heap.IsList l vs.toArray := ⟨_, hax, rfl, n, rfl⟩
  have hlt : l < s.heap.objs.size := Heap.lt_size hax
  have hLs : env.locals < s.heap.objs.size := F.ns.lt
  have hLl : env.locals ≠ l := fun e => by
    have h1 := Heap.lt_size hm
    have h2 := F.above
    rw [e] at h2
    exact Nat.lt_irrefl _ (Nat.lt_of_lt_of_le h1 h2)
  refine call_enumerate_list hl fun h' hE hI hsz hk => wpAny_pyIter_enum hE ?_
  refine core_base (tk0 := s.toks) (KTurns.ofWalksU (WalksT.enumerate hh (s.heap.objs.size + 1) s.heap.objs.size l (Nat.succ_ne_self _) (ktu_ne 1 hlt) (Nat.ne_of_lt hlt) vs.toArray).toU) (by simp [enumItems_length]) ?_ ?_ ?_ ?_ ?_ ?_ ?_ ⟨⟨.none, hE⟩, hI, hl.at fun o e => hk l o e⟩ (F.keeps hk) (N.grown hk) (rest₀ _ fun p hp => Heap.lt_size (N p hp).1)
  · rintro i v h ⟨T, vals, rfl, ⟨t, x, hx, rfl⟩, hT⟩
    refine ⟨_, enumItems_get vs 0 i (v := x) (by simpa using hx), T, t, rfl, ?_⟩
    show IsTup h T #[.int ((0 + i : Nat) : Int) t, x]
    rw [Nat.zero_add]
    exact hT
  · rintro i h ⟨⟨old, he⟩, ⟨oi, hoi, hic, _⟩, _⟩
    obtain ⟨oe, h1, h2⟩ : ∃ oe : Obj, h.get? (s.heap.objs.size + 1) = some oe ∧ oe.cls = .type "enumerate" := ⟨_, he, rfl⟩
    refine ⟨[(s.heap.objs.size + 1, oe), (s.heap.objs.size, oi)], ⟨⟨rfl, h2⟩, ⟨rfl, hic⟩, trivial⟩, ?_⟩
    simp only [List.mem_cons, List.not_mem_nil, or_false]
    rintro p (rfl | rfl)
    · exact h1
    · exact hoi
  · simp only [List.map_cons, List.map_nil, List.mem_cons, List.not_mem_nil, or_false]
    rintro b (rfl | rfl)
    · exact ⟨by simp, ktu_new F (Nat.le_add_right _ _)⟩
    · exact ⟨by simp, ktu_new F (Nat.le_refl _)⟩
  · intro b hb
    simpa using hb
  · intro b hb
    simp only [List.mem_cons, List.not_mem_nil, or_false] at hb
    rcases hb with rfl | rfl | rfl
    · exact .inl (by simp)
    · exact .inl (by simp)
    · exact .inr (by rw [hm]; exact fun e => by cases e)
  · simp only [List.mem_cons, List.not_mem_nil, or_false]
    rintro (e | e | e)
    · exact ktu_ne 1 hLs e
    · exact Nat.ne_of_lt hLs e
    · exact hLl e
  · intro p hp hb
    have hlp := Heap.lt_size (N p hp).1
    simp only [List.mem_cons, List.not_mem_nil, or_false] at hb
    rcases hb with e | e
    · exact ktu_ne 1 hlp e
    · exact Nat.ne_of_lt hlp e
theorem enum0 {elts : List Expr} {k : Nat} {pos : Pos} {l : Addr} {n : Nat} {m₀ : Str → Option Value} {news : List (Addr × Obj)}
    (hh : A.handled = none) (F : Fr h₀ env.locals s.heap m₀) (N : News h₀ env.locals s.heap news) (hm : h₀.get? l = some (listOf #[] n))
    (rest₀ : ∀ I : Addr, (∀ p ∈ news, p.1 < I) → ItemsRest prog w A E h₀ env (.Tuple elts k pos) body Q s [(I + 1, "enumerate"), (I, "list_iterator")] [] [] m₀ news) :
    wpAny (model prog w) A (call (.type "enumerate") [.ref l]) (fun xv s₁ => wpAny (model prog w) A (pyIter xv) (fun it s₂ => TurnsAt prog w A h₀ env (.Tuple elts k pos) body Q E it s₂) E s₁) E s := enum_base hh F N hm rfl rest₀
theorem enum1 {elts : List Expr} {k : Nat} {pos : Pos} {l : Addr} {n : Nat} {v : Value} {m₀ : Str → Option Value} {news : List (Addr × Obj)}
    (hh : A.handled = none) (F : Fr h₀ env.locals s.heap m₀) (N : News h₀ env.locals s.heap news) (hm : h₀.get? l = some (listOf #[v] n))
    (rest₀ : ∀ I : Addr, (∀ p ∈ news, p.1 < I) → ItemsRest prog w A E h₀ env (.Tuple elts k pos) body Q s [(I + 1, "enumerate"), (I, "list_iterator")] [] [.pair (fun t => .int 0 t) v] m₀ news) :
    wpAny (model prog w) A (call (.type "enumerate") [.ref l]) (fun xv s₁ => wpAny (model prog w) A (pyIter xv) (fun it s₂ => TurnsAt prog w A h₀ env (.Tuple elts k pos) body Q E it s₂) E s₁) E s := enum_base hh F N hm rfl rest₀
end

-- numbers as lists compared
def lims (w v : Int) : List Int := if v = 0 then [] else if v < 2 ^ w.toNat then [v] else [v % 2 ^ w.toNat, v / 2 ^ w.toNat]
theorem Lm.nonneg {w v : Int} {o : Obj} (h : Lm w v o) : 0 ≤ v := by
  rcases h with h | h | ⟨lo, hi, t, t', n, _, h1, h2, h3, h4, h5⟩
  · omega
  · omega
  · have := Int.mul_pos h3 (base_pos w); omega
theorem Lm.ints {w v : Int} {o : Obj} (h : Lm w v o) : ∃ vs n, o = listOf (List.toArray vs) n ∧ IntsAre vs (lims w v) := by
  rcases h with ⟨rfl, n, rfl⟩ | ⟨h0, h1, t, n, rfl⟩ | ⟨lo, hi, t, t', n, rfl, h1, h2, h3, h4, rfl⟩
  · exact ⟨_, n, rfl, by simp only [lims, if_true]; exact .nil⟩
  · exact ⟨_, n, rfl, by unfold lims; rw [if_neg (by omega), if_pos h1]; exact .cons _ _ .nil⟩
  · have hB := base_pos w
    have h5 := Int.mul_pos h3 hB
    have h6 : 1 * 2 ^ w.toNat ≤ hi * 2 ^ w.toNat := Int.mul_le_mul_of_nonneg_right (by omega) (by omega)
    refine ⟨_, n, rfl, ?_⟩
    unfold lims
    rw [if_neg (by omega), if_neg (by omega)]
    have e1 : (hi * 2 ^ w.toNat + lo) % 2 ^ w.toNat = lo := by rw [Int.add_comm, Int.mul_comm, Int.add_mul_emod_self_left, Int.emod_eq_of_lt h1 h2]
    have e2 : (hi * 2 ^ w.toNat + lo) / 2 ^ w.toNat = hi := by
      rw [Int.add_comm, Int.mul_comm, Int.add_mul_ediv_left _ _ (by omega), Int.ediv_eq_zero_of_lt h1 h2]; omega
    rw [e1, e2]
    exact .cons _ _ (.cons _ _ .nil)
theorem lims_inj {w x y : Int} (h : lims w x = lims w y) : x = y := by
  unfold lims at h
  have hx := @div_mod_base w x
  have hy := @div_mod_base w y
  split at h <;> split at h <;> (try split at h) <;> (try split at h) <;> simp at h <;> (try omega)
  obtain ⟨h1, h2⟩ := h
  rw [hx, hy, h1, h2]
section
variable {prog : Program} {wd : World} {A : Around} {E : Value → Shared → Prop} {s : Shared} {a b : Addr} {o q : Obj} {w x y : Int} {Q : Value → Shared → Prop}
theorem eqLm (ha : s.heap.get? a = some o) (hb : s.heap.get? b = some q) (ho : Lm w x o) (hq : Lm w y q) (hu : A.units + 64 < cLine) (h : Q (.bool (decide (x = y))) s) : wpAny (model prog wd) A (compareOp .Eq (.ref a) (.ref b)) Q E s := by
  obtain ⟨vs, n, rfl, hi⟩ := ho.ints
  obtain ⟨us, m, rfl, hj⟩ := hq.ints
  refine eq_intsK ⟨_, ha, rfl, _, rfl⟩ hi ⟨_, hb, rfl, _, rfl⟩ hj hu ?_
  have e : (lims w x = lims w y) = (x = y) := propext ⟨lims_inj, fun h => by rw [h]⟩
  simp only [e]
  exact h
theorem neLm (ha : s.heap.get? a = some o) (hb : s.heap.get? b = some q) (ho : Lm w x o) (hq : Lm w y q) (hu : A.units + 64 < cLine) (h : Q (.bool (decide (x ≠ y))) s) : wpAny (model prog wd) A (compareOp .NotEq (.ref a) (.ref b)) Q E s := by
  obtain ⟨vs, n, rfl, hi⟩ := ho.ints
  obtain ⟨us, m, rfl, hj⟩ := hq.ints
  refine ne_intsK ⟨_, ha, rfl, _, rfl⟩ hi ⟨_, hb, rfl, _, rfl⟩ hj hu ?_
  have e : (lims w x = lims w y) = (x = y) := propext ⟨lims_inj, fun h => by rw [h]⟩
  have e2 : (!decide (lims w x = lims w y)) = decide (x ≠ y) := by simp only [e]; by_cases h : x = y <;> simp [h]
  rw [e2]
  exact h
end
-- the ring as an object
abbrev ringD (h1 h2 h3 h4 : Int) (t1 t2 t3 t4 tw : Tok) (ro : Addr) (w : Int) (ep : Nat) : Obj :=
  dictOf [⟨h1, .str (Str.ofString "n") t1, .ref ro⟩, ⟨h2, .str (Str.ofString "w") t2, .int w tw⟩, ⟨h3, .str (Str.ofString "mul") t3, .ref 226⟩, ⟨h4, .str (Str.ofString "divrem") t4, .ref 268⟩] ep
def RingH (w : Int) (rg ro : Addr) (h : Heap) : Prop := ∃ dx h1 h2 h3 h4 t1 t2 t3 t4 tw ep, InstAt h rg (instObj 187 dx) 187 (some (ringD h1 h2 h3 h4 t1 t2 t3 t4 tw ro w ep))
theorem instAt_keep {h₀ h : Heap} {L x C : Addr} {m : Str → Option Value} {ox : Obj} {od : Option Obj} (I : InstAt h₀ x ox C od) (F : Fr h₀ L h m) : InstAt h x ox C od := by
  obtain ⟨h1, h2, h3, h4⟩ := I
  refine ⟨F.keep _ _ h1, h2, h3, ?_⟩
  cases e : ox.dict with
  | none => rw [e] at h4; cases od with
    | none => trivial
    | some o => exact h4.elim
  | some d => rw [e] at h4; cases od with
    | none => exact h4.elim
    | some o => exact F.keep _ _ h4
theorem RingH.keep {w : Int} {rg ro L : Addr} {h₀ h : Heap} {m : Str → Option Value} (R : RingH w rg ro h₀) (F : Fr h₀ L h m) : RingH w rg ro h := by
  obtain ⟨dx, h1, h2, h3, h4, t1, t2, t3, t4, tw, ep, I⟩ := R
  exact ⟨dx, h1, h2, h3, h4, t1, t2, t3, t4, tw, ep, instAt_keep I F⟩
def OutNone (tl : List (Addr × Obj)) (r : Value) : Prop := tl = [] ∧ r = .none
theorem done_none {g h' : Heap} {s₀ s' : Shared} {L' : Addr} {m' : Str → Option Value} {tk' : Nat}
    (es : s' = { s₀ with heap := h', toks := tk' }) (F : Fr g L' h' m') : Done g s₀ OutNone .none s' := ⟨_, _, [], _, _, es, F, News.nil, rfl, rfl⟩
theorem srest_neg {v n : Int} (h : 0 < n) : ((-v) % n = 0 → v % n = 0) ∧ ((-v) % n ≠ 0 → n - (-v) % n = v % n) := by
  have h1 := Int.emod_nonneg (-v) (show n ≠ 0 by omega)
  have h2 := Int.emod_lt_of_pos (-v) h
  have h3 := Int.mul_ediv_add_emod (-v) n
  constructor
  · intro e
    have : v = n * (-((-v) / n)) := by rw [Int.mul_neg]; omega
    rw [this]; exact Int.mul_emod_right _ _
  · intro e
    have : v = (n - (-v) % n) + n * (-((-v) / n) - 1) := by rw [Int.mul_sub, Int.mul_neg, Int.mul_one]; omega
    have e2 : v % n = (n - (-v) % n + n * (-((-v) / n) - 1)) % n := congrArg (· % n) this
    rw [e2, Int.add_mul_emod_self_left]
    exact (Int.emod_eq_of_lt (by omega) (by omega)).symm

section
variable {prog : Program} {wd : World} {A : Around} {E : Value → Shared → Prop} {s : Shared} {a : Int} {t : Tok} {Q : Value → Shared → Prop}
theorem r_absn (h0 : a < 0) (h : ∀ u tk, Q (.int (-a) u) { s with toks := tk }) : wpAny (model prog wd) A (call (.builtin "abs") [.int a t]) Q E s := call_abs_int (by rw [if_pos h0]; exact h)
theorem r_absp (h0 : 0 ≤ a) (h : ∀ u tk, Q (.int a u) { s with toks := tk }) : wpAny (model prog wd) A (call (.builtin "abs") [.int a t]) Q E s := call_abs_int (by rw [if_neg (by omega)]; exact h)
end

theorem res_lt {w e n : Int} {o : Obj} (_ : Lm w (e % n) o) (h0 : 0 < n) : e % n < n := Int.emod_lt_of_pos _ h0
theorem news_tl {h₀ h : Heap} {L : Addr} {tl news : List (Addr × Obj)} (N : News h₀ L h (tl ++ news)) : News h₀ L h (tl ++ news) := N
-- pairs: a + b x, x x = p x - q
def pm (n p q : Int) (x y : Int × Int) : Int × Int := ((x.1 * y.1 - q * (x.2 * y.2)) % n, (x.1 * y.2 + x.2 * y.1 + p * (x.2 * y.2)) % n)
def pw (n p q : Int) (x : Int × Int) : Nat → Int × Int
  | 0 => (1, 0)
  | k + 1 => pm n p q (pw n p q x k) x

-- a contract used: what comes back stands as letters and facts, no shell about it
section
variable {w : World} {p : Program} {loose : List Str} {mean : ExcName → Option Value} {mg mb : Str → Option Value} {dp un : Nat} {gd : Option (List Code)} {cn : Str} {cs : Scope} {a : Addr} {ccd : Value} {cl : List (Str × Addr)} {outer : List Env}
    {A₀ : Around} {base h₀ : Heap} {L : Addr} {gn : Array GenState} {dr : Drawn} {os : OsState} {E : Value → Shared → Prop} {f : Addr} {k : Nat} {vs : List Value} {Pre : Heap → Prop} {hp : Heap} {m : Str → Option Value} {news : List (Addr × Obj)} {to : Nat} {Q : Value → Shared → Prop}
    (B : Below A₀ base outer h₀) (F : Fr h₀ L hp m) (X : (hd.heap_1 w.params).In h₀) (N : News h₀ L hp news) (T : Top p loose mean mg mb h₀) (hk : cs.kind = .function) (hpre : Pre hp) (hdp : dp + k < recursionLimit) (hun : un + 8 * k < cLine)
include B F X N T hk hpre hdp hun
theorem use_nums {ks : List Int} (S : Spec w f k vs Pre (OutNums ks)) (h : ∀ x its n h' tk', Fr h₀ L h' m → News h₀ L h' ((x, listOf its n) :: news) → IntsAre its.toList ks → Q (.ref x) ⟨h', gn, dr, tk', os⟩) : wpAny (model PR w) (ktrTop dp un gd cn cs L a ccd cl outer) (call (.ref f) vs) Q E ⟨hp, gn, dr, to, os⟩ :=
  Spec.use S B F X N T hk hpre hdp hun fun r tl h' tk' F' N' ne out => by
    obtain ⟨x, o, rfl, rfl, its, n, rfl, hi⟩ := out
    exact h _ _ _ _ _ F' N' hi
theorem use_lm {b v : Int} (S : Spec w f k vs Pre (OutLm b v)) (h : ∀ x o h' tk', Fr h₀ L h' m → News h₀ L h' ((x, o) :: news) → Lm b v o → Q (.ref x) ⟨h', gn, dr, tk', os⟩) : wpAny (model PR w) (ktrTop dp un gd cn cs L a ccd cl outer) (call (.ref f) vs) Q E ⟨hp, gn, dr, to, os⟩ :=
  Spec.use S B F X N T hk hpre hdp hun fun r tl h' tk' F' N' ne out => by
    obtain ⟨x, o, rfl, rfl, hi⟩ := out
    exact h _ _ _ _ F' N' hi
theorem use_res {b e n : Int} (hz : 0 < n) (S : Spec w f k vs Pre (OutLm b (e % n))) (h : ∀ x o h' tk', Fr h₀ L h' m → News h₀ L h' ((x, o) :: news) → Lm b (e % n) o → e % n < n → Q (.ref x) ⟨h', gn, dr, tk', os⟩) : wpAny (model PR w) (ktrTop dp un gd cn cs L a ccd cl outer) (call (.ref f) vs) Q E ⟨hp, gn, dr, to, os⟩ :=
  Spec.use S B F X N T hk hpre hdp hun fun r tl h' tk' F' N' ne out => by
    obtain ⟨x, o, rfl, rfl, hi⟩ := out
    exact h _ _ _ _ F' N' hi (Int.emod_lt_of_pos _ hz)
theorem use_int {v : Int} (S : Spec w f k vs Pre (OutInt v)) (h : ∀ t h' tk', Fr h₀ L h' m → News h₀ L h' news → Q (.int v t) ⟨h', gn, dr, tk', os⟩) : wpAny (model PR w) (ktrTop dp un gd cn cs L a ccd cl outer) (call (.ref f) vs) Q E ⟨hp, gn, dr, to, os⟩ :=
  Spec.use S B F X N T hk hpre hdp hun fun r tl h' tk' F' N' ne out => by
    obtain ⟨rfl, t, rfl⟩ := out
    exact h _ _ _ F' N'
theorem use_bool {v : Bool} (S : Spec w f k vs Pre (OutBool v)) (h : ∀ h' tk', Fr h₀ L h' m → News h₀ L h' news → Q (.bool v) ⟨h', gn, dr, tk', os⟩) : wpAny (model PR w) (ktrTop dp un gd cn cs L a ccd cl outer) (call (.ref f) vs) Q E ⟨hp, gn, dr, to, os⟩ :=
  Spec.use S B F X N T hk hpre hdp hun fun r tl h' tk' F' N' ne out => by
    obtain ⟨rfl, rfl⟩ := out
    exact h _ _ F' N'
theorem use_pairlm {b v y : Int} (S : Spec w f k vs Pre (OutPairLm b v y)) (h : ∀ x y1 y2 n o q h' tk', Fr h₀ L h' m → News h₀ L h' ((x, tupO #[.ref y1, .ref y2] n) :: (y1, o) :: (y2, q) :: news) → Lm b v o → Lm b y q → Q (.ref x) ⟨h', gn, dr, tk', os⟩) : wpAny (model PR w) (ktrTop dp un gd cn cs L a ccd cl outer) (call (.ref f) vs) Q E ⟨hp, gn, dr, to, os⟩ :=
  Spec.use S B F X N T hk hpre hdp hun fun r tl h' tk' F' N' ne out => by
    obtain ⟨x, y1, y2, n, o, q, rfl, rfl, h1, h2⟩ := out
    exact h _ _ _ _ _ _ _ _ F' N' h1 h2
theorem use_pairlmK {b v y : Int} (S : Spec w f k vs Pre (OutPairLm b v y)) (h : ∀ x y1 y2 n o q h' tk', Fr h₀ L h' m → News h₀ L h' ((x, tupO #[.ref y1, .ref y2] n) :: (y1, o) :: (y2, q) :: news) → (∀ p ∈ news, ∀ z ∈ [(x, tupO #[.ref y1, .ref y2] n), (y1, o), (y2, q)], p.1 ≠ z.1) → Lm b v o → Lm b y q → Q (.ref x) ⟨h', gn, dr, tk', os⟩) : wpAny (model PR w) (ktrTop dp un gd cn cs L a ccd cl outer) (call (.ref f) vs) Q E ⟨hp, gn, dr, to, os⟩ :=
  Spec.use S B F X N T hk hpre hdp hun fun r tl h' tk' F' N' ne out => by
    obtain ⟨x, y1, y2, n, o, q, rfl, rfl, h1, h2⟩ := out
    exact h _ _ _ _ _ _ _ _ F' N' ne h1 h2
theorem use_pairint {b v y : Int} (S : Spec w f k vs Pre (OutPairInt b v y)) (h : ∀ x y1 t n o h' tk', Fr h₀ L h' m → News h₀ L h' ((x, tupO #[.ref y1, .int y t] n) :: (y1, o) :: news) → Lm b v o → Q (.ref x) ⟨h', gn, dr, tk', os⟩) : wpAny (model PR w) (ktrTop dp un gd cn cs L a ccd cl outer) (call (.ref f) vs) Q E ⟨hp, gn, dr, to, os⟩ :=
  Spec.use S B F X N T hk hpre hdp hun fun r tl h' tk' F' N' ne out => by
    obtain ⟨x, y1, t, n, o, rfl, rfl, h1⟩ := out
    exact h _ _ _ _ _ _ _ F' N' h1
theorem use_none  (S : Spec w f k vs Pre (OutNone)) (h : ∀ h' tk', Fr h₀ L h' m → News h₀ L h' news → Q (.none) ⟨h', gn, dr, tk', os⟩) : wpAny (model PR w) (ktrTop dp un gd cn cs L a ccd cl outer) (call (.ref f) vs) Q E ⟨hp, gn, dr, to, os⟩ :=
  Spec.use S B F X N T hk hpre hdp hun fun r tl h' tk' F' N' ne out => by
    obtain ⟨rfl, rfl⟩ := out
    exact h _ _ F' N'
theorem use_pairres {b n P R : Int} {X1 X2 : Int × Int} (hz : 0 < n) (S : Spec w f k vs Pre (OutPairLm b (pm n P R X1 X2).1 (pm n P R X1 X2).2)) (h : ∀ x y1 y2 nn o q h' tk', Fr h₀ L h' m → News h₀ L h' ((x, tupO #[.ref y1, .ref y2] nn) :: (y1, o) :: (y2, q) :: news) → Lm b (pm n P R X1 X2).1 o → Lm b (pm n P R X1 X2).2 q → (pm n P R X1 X2).1 < n → (pm n P R X1 X2).2 < n → Q (.ref x) ⟨h', gn, dr, tk', os⟩) : wpAny (model PR w) (ktrTop dp un gd cn cs L a ccd cl outer) (call (.ref f) vs) Q E ⟨hp, gn, dr, to, os⟩ :=
  Spec.use S B F X N T hk hpre hdp hun fun r tl h' tk' F' N' ne out => by
    obtain ⟨x, y1, y2, nn, o, q, rfl, rfl, h1, h2⟩ := out
    exact h _ _ _ _ _ _ _ _ F' N' h1 h2 (Int.emod_lt_of_pos _ hz) (Int.emod_lt_of_pos _ hz)
end

-- the words in which the lines of the walk are said: a rule's name and, for each of its premises, the letter of what closes it
open Lean in
def closer (c : Char) : MacroM (TSyntax `tactic) := match c with
  | 'a' => `(tactic| with_reducible assumption)
  | 'A' => `(tactic| assumption)
  | 'n' => `(tactic| walk_at "mine num")
  | 'l' => `(tactic| k_dflt (walk_at "mine lm"))
  | 't' => `(tactic| k_dflt (walk_at "mine at"))
  | 'r' => `(tactic| walk_at "mine ring")
  | 'i' => `(tactic| k_dflt (repeat (first | exact IntsAre.nil | apply IntsAre.cons)))
  | 'k' => `(tactic| first | with_reducible assumption | exact rfl)
  | 'd' => `(tactic| first | exact room_d (by with_reducible assumption) (by exact Nat.le_of_ble_eq_true rfl) | omega)
  | 'u' => `(tactic| first | exact room_u (by with_reducible assumption) (by exact Nat.le_of_ble_eq_true rfl) | omega)
  | 'U' => `(tactic| k_dflt (walk_at "mine units"))
  | 's' => `(tactic| walk_at "mine slot")
  | 'S' => `(tactic| with_reducible walk_at "mine set")
  | 'Z' => `(tactic| walk_at "mine sets")
  | 'm' => `(tactic| walk_at "mine in")
  | 'N' => `(tactic| walk_at "mine names")
  | 'g' => `(tactic| walk_at "mine glob")
  | 'b' => `(tactic| walk_at "mine built")
  | 'e' => `(tactic| walk_at "mine ev")
  | 'E' => `(tactic| walk_at "mine evs")
  | 'o' => `(tactic| k_dflt (walk_at "mine op"))
  | 'q' => `(tactic| k_dflt (walk_at "mine eq"))
  | 'M' => `(tactic| k_dflt k_mem)
  | 'R' => `(tactic| k_dflt (walk_at "mine rest"))
  | 'f' => `(tactic| exact rfl)
  | 'F' => `(tactic| with_unfolding_all rfl)
  | 'D' => `(tactic| k_dflt rfl)
  | 'c' => `(tactic| decide)
  | 'K' => `(tactic| decide +kernel)
  | 'w' => `(tactic| omega)
  | 'x' => `(tactic| first | with_reducible assumption | omega)
  | 'I' => `(tactic| k_is)
  | 'J' => `(tactic| k_dflt k_is)
  | 'y' => `(tactic| k_asm)
  | 'V' => `(tactic| k_inst)
  | 'X' => `(tactic| k_get)
  | 'B' => `(tactic| (intro _; exact BindsTo.of_eq rfl))
  | 'L' => `(tactic| exact locs rfl)
  | 'P' => `(tactic| exact slotsOk_of (by decide +kernel))
  | 'G' => `(tactic| exact globOk_of (by decide +kernel))
  | 'C' => `(tactic| (intro _; rfl))
  | 'v' => `(tactic| walk_at "mine dec")
  | '8' => `(tactic| (refine' decide_eq_true ?g0; (case g0 => walk_at "mine dec")))
  | '9' => `(tactic| (refine' decide_eq_false ?g0; (case g0 => walk_at "mine dec")))
  | 'Q' => `(tactic| k_cls)
  | '4' => `(tactic| walk_at "mine length")
  | '5' => `(tactic| first | decide | omega)
  | '1' => `(tactic| walk_at "mine one")
  | '2' => `(tactic| walk_at "mine two")
  | '3' => `(tactic| walk_at "mine three")
  | _ => `(tactic| exact Nat.le_of_ble_eq_true rfl)
open Lean in
/-- the goals of these names, each by its closer -/
def closeAll (z : TSyntax `tactic) (l : List (Name × Char)) : MacroM (TSyntax `tactic) :=
  l.foldlM (init := z) fun z (n, c) => do `(tactic| ($z:tactic; (case $(mkIdent n):ident => $(← closer c):tactic)))
open Lean in
/-- the rule upon the goal: 'r' with reducible words alone, 'd' with the usual ones, 'p' as it stands; `goals` = 1: one premise is left to go on with; `tail`: the line that follows -/
def rule (mode : Char) (thm : Name) (holes : String) (goals : Nat := 1) (tail : String := "") : MacroM (TSyntax `tactic) := do
  let hs ← (List.range holes.length).mapM fun i => MonadQuotation.addMacroScope (Name.mkSimple s!"h{i}")
  let ts ← hs.mapM fun n => `(?$(mkIdent n))
  let ts ← if goals == 1 then do pure (ts ++ [← `(?_)]) else pure ts
  let z ← closeAll (← `(tactic| refine' $(Syntax.mkApp (mkIdent thm) ts.toArray))) (hs.zip holes.toList)
  let z ← if mode == 'r' then `(tactic| (with_reducible $z:tactic)) else if mode == 'd' then `(tactic| (k_dflt $z:tactic)) else if mode == 'u' then `(tactic| (with_unfolding_all $z:tactic)) else pure z
  if tail == "" then pure z else `(tactic| ($z:tactic; walk_at $(Syntax.mkStrLit tail)))
open Lean in
/-- the first of these that goes through -/
def alts (l : List (MacroM (TSyntax `tactic))) : MacroM (TSyntax `tactic) := do
  l.foldrM (init := ← `(tactic| fail)) fun a z => do `(tactic| first | $(← a):tactic | $z:tactic)
open Lean in
def withR (a : MacroM (TSyntax `tactic)) : MacroM (TSyntax `tactic) := do `(tactic| (with_reducible $(← a):tactic))
open Lean in
def lineOf (k : String) : MacroM (TSyntax `tactic) := `(tactic| walk_at $(Syntax.mkStrLit k))
open Lean in
def thenLine (a : MacroM (TSyntax `tactic)) (k : String) : MacroM (TSyntax `tactic) := do `(tactic| ($(← a):tactic; walk_at $(Syntax.mkStrLit k)))
open Lean in
/-- the goals of these names, in order: `sides "ho:I hcd:I"` -/
def sides (s : String) (z : MacroM (TSyntax `tactic) := `(tactic| skip)) : MacroM (TSyntax `tactic) := do
  let l := (s.splitOn " ").map fun w => match w.splitOn ":" with
    | [n, c] => (Name.mkSimple n, c.front)
    | _ => (`none, ' ')
  closeAll (← z) l
open Lean in
/-- a method of one of these names is looked up -/
def isMethod (l : List String) : MacroM (TSyntax `tactic) :=
  alts (l.map fun n => `(tactic| with_reducible show wpAny _ _ (getMethod _ (Str.ofString $(Syntax.mkStrLit n)) _) _ _ _))
open Lean in
def isCall (a : Nat) : MacroM (TSyntax `tactic) := `(tactic| (with_reducible show wpAny _ _ (call (Value.ref $(quote a)) _) _ _ _))
open Lean in
def both (a b : MacroM (TSyntax `tactic)) : MacroM (TSyntax `tactic) := do `(tactic| ($(← a):tactic; $(← b):tactic))
open Lean in
def exacts (s : String) : MacroM (TSyntax `tactic) :=
  alts ((s.splitOn " ").map fun w => do `(tactic| exact $(mkIdent w.toName) _))
open Lean in
/-- `use thm`: the rule and the contract; a letter of `holes` for each of its premises, of `pre` for each part of what the call asks of the heap -/
def callLine (addr : Nat) (use thm : Name) (holes pre : String) (res := false) (many := false) : MacroM (TSyntax `tactic) := do
  let hs ← (List.range holes.length).mapM fun i => MonadQuotation.addMacroScope (Name.mkSimple s!"h{i}")
  let ps ← (List.range pre.length).mapM fun i => MonadQuotation.addMacroScope (Name.mkSimple s!"p{i}")
  let t := Syntax.mkApp (mkIdent thm) (← hs.mapM fun n => `(?$(mkIdent n))).toArray
  let pt : TSyntax `term ← match ps.reverse with
    | [] => `(True.intro)
    | n :: r => do r.foldlM (init := ← `(?$(mkIdent n))) fun z n => `(And.intro ?$(mkIdent n) $z)
  let z ← isCall addr
  let z ← if res then `(tactic| ($z:tactic; (k_dflt (refine' $(mkIdent use) ?cB ?cF ?cX ?cN ?cT ?ck ?cp ?cd ?cu ?cz $t ?_))))
    else if many then `(tactic| ($z:tactic; (k_dflt (refine' $(mkIdent use) ?cB ?cF ?cX ?cN ?cT ?ck ?cp ?cd ?cu $t ?_ ?_))))
    else `(tactic| ($z:tactic; (k_dflt (refine' $(mkIdent use) ?cB ?cF ?cX ?cN ?cT ?ck ?cp ?cd ?cu $t ?_))))
  let z ← closeAll z [(`cB, 'a'), (`cF, 'a'), (`cX, 'a'), (`cN, 'a'), (`cT, 'a'), (`ck, 'k')]
  let z ← `(tactic| ($z:tactic; (case cp => ($(← closeAll (← `(tactic| refine' $pt)) (ps.zip pre.toList)):tactic))))
  let z ← closeAll z (hs.zip holes.toList)
  let z ← closeAll z ([(`cd, 'd'), (`cu, 'u')] ++ if res then [(`cz, 'a')] else [])
  if many then `(tactic| ($z:tactic; all_goals (walk_at "mine tail"))) else `(tactic| ($z:tactic; walk_at "mine tail"))
theorem fr_at {g h : Heap} {L a : Addr} {m : Str → Option Value} {o : Obj} (F : Fr g L h m) (e : g.get? a = some o) : h.get? a = some o := F.keep _ _ e
theorem ring_of {w : Int} {rg ro : Addr} {h : Heap} {dx : Addr} {h1 h2 h3 h4 : Int} {t1 t2 t3 t4 tw : Tok} {ep : Nat} (I : InstAt h rg (instObj 187 dx) 187 (some (ringD h1 h2 h3 h4 t1 t2 t3 t4 tw ro w ep))) : RingH w rg ro h := ⟨_, _, _, _, _, _, _, _, _, _, _, I⟩
theorem off_cls {P : Prop} {o q : Obj} (h : o.cls ≠ q.cls) : P ∨ o ≠ q := .inr fun e => h (congrArg Obj.cls e)
theorem ite_eq_yes {x y : Int} {a b : Prop} (h : x = y) (k : a) : if (x == y) = true then a else b := ite_pos (by simpa using h) k
theorem ite_eq_no {x y : Int} {a b : Prop} (h : x ≠ y) (k : b) : if (x == y) = true then a else b := ite_neg (by simpa using h) k
theorem ite_ne_yes {x y : Int} {a b : Prop} (h : x ≠ y) (k : a) : if (x != y) = true then a else b := ite_pos (by simpa using h) k
theorem ite_ne_no {x y : Int} {a b : Prop} (h : x = y) (k : b) : if (x != y) = true then a else b := ite_neg (by simpa using h) k
theorem ite_no {P a b : Prop} [Decidable P] (hn : ¬ P) (k : b) : if decide P = true then a else b := ite_neg (fun h => absurd (of_decide_eq_true h) hn) k
-- many letters at once: one step in the term
theorem ex4 {α0 α1 α2 α3 : Type} {P : α0 → α1 → α2 → α3 → Prop} {G : Prop} (h : ∃ a0 a1 a2 a3, P a0 a1 a2 a3) (k : ∀ a0 a1 a2 a3, P a0 a1 a2 a3 → G) : G := by
  obtain ⟨a0, a1, a2, a3, h⟩ := h
  exact k _ _ _ _ h
theorem ex7 {α0 α1 α2 α3 α4 α5 α6 : Type} {P : α0 → α1 → α2 → α3 → α4 → α5 → α6 → Prop} {G : Prop} (h : ∃ a0 a1 a2 a3 a4 a5 a6, P a0 a1 a2 a3 a4 a5 a6) (k : ∀ a0 a1 a2 a3 a4 a5 a6, P a0 a1 a2 a3 a4 a5 a6 → G) : G := by
  obtain ⟨a0, a1, a2, a3, a4, a5, a6, h⟩ := h
  exact k _ _ _ _ _ _ _ h
theorem ex8 {α0 α1 α2 α3 α4 α5 α6 α7 : Type} {P : α0 → α1 → α2 → α3 → α4 → α5 → α6 → α7 → Prop} {G : Prop} (h : ∃ a0 a1 a2 a3 a4 a5 a6 a7, P a0 a1 a2 a3 a4 a5 a6 a7) (k : ∀ a0 a1 a2 a3 a4 a5 a6 a7, P a0 a1 a2 a3 a4 a5 a6 a7 → G) : G := by
  obtain ⟨a0, a1, a2, a3, a4, a5, a6, a7, h⟩ := h
  exact k _ _ _ _ _ _ _ _ h
theorem ex9 {α0 α1 α2 α3 α4 α5 α6 α7 α8 : Type} {P : α0 → α1 → α2 → α3 → α4 → α5 → α6 → α7 → α8 → Prop} {G : Prop} (h : ∃ a0 a1 a2 a3 a4 a5 a6 a7 a8, P a0 a1 a2 a3 a4 a5 a6 a7 a8) (k : ∀ a0 a1 a2 a3 a4 a5 a6 a7 a8, P a0 a1 a2 a3 a4 a5 a6 a7 a8 → G) : G := by
  obtain ⟨a0, a1, a2, a3, a4, a5, a6, a7, a8, h⟩ := h
  exact k _ _ _ _ _ _ _ _ _ h
theorem ex11 {α0 α1 α2 α3 α4 α5 α6 α7 α8 α9 α10 : Type} {P : α0 → α1 → α2 → α3 → α4 → α5 → α6 → α7 → α8 → α9 → α10 → Prop} {G : Prop} (h : ∃ a0 a1 a2 a3 a4 a5 a6 a7 a8 a9 a10, P a0 a1 a2 a3 a4 a5 a6 a7 a8 a9 a10) (k : ∀ a0 a1 a2 a3 a4 a5 a6 a7 a8 a9 a10, P a0 a1 a2 a3 a4 a5 a6 a7 a8 a9 a10 → G) : G := by
  obtain ⟨a0, a1, a2, a3, a4, a5, a6, a7, a8, a9, a10, h⟩ := h
  exact k _ _ _ _ _ _ _ _ _ _ _ h
theorem ex13 {α0 α1 α2 α3 α4 α5 α6 α7 α8 α9 α10 α11 α12 : Type} {P : α0 → α1 → α2 → α3 → α4 → α5 → α6 → α7 → α8 → α9 → α10 → α11 → α12 → Prop} {G : Prop} (h : ∃ a0 a1 a2 a3 a4 a5 a6 a7 a8 a9 a10 a11 a12, P a0 a1 a2 a3 a4 a5 a6 a7 a8 a9 a10 a11 a12) (k : ∀ a0 a1 a2 a3 a4 a5 a6 a7 a8 a9 a10 a11 a12, P a0 a1 a2 a3 a4 a5 a6 a7 a8 a9 a10 a11 a12 → G) : G := by
  obtain ⟨a0, a1, a2, a3, a4, a5, a6, a7, a8, a9, a10, a11, a12, h⟩ := h
  exact k _ _ _ _ _ _ _ _ _ _ _ _ _ h
theorem ex15 {α0 α1 α2 α3 α4 α5 α6 α7 α8 α9 α10 α11 α12 α13 α14 : Type} {P : α0 → α1 → α2 → α3 → α4 → α5 → α6 → α7 → α8 → α9 → α10 → α11 → α12 → α13 → α14 → Prop} {G : Prop} (h : ∃ a0 a1 a2 a3 a4 a5 a6 a7 a8 a9 a10 a11 a12 a13 a14, P a0 a1 a2 a3 a4 a5 a6 a7 a8 a9 a10 a11 a12 a13 a14) (k : ∀ a0 a1 a2 a3 a4 a5 a6 a7 a8 a9 a10 a11 a12 a13 a14, P a0 a1 a2 a3 a4 a5 a6 a7 a8 a9 a10 a11 a12 a13 a14 → G) : G := by
  obtain ⟨a0, a1, a2, a3, a4, a5, a6, a7, a8, a9, a10, a11, a12, a13, a14, h⟩ := h
  exact k _ _ _ _ _ _ _ _ _ _ _ _ _ _ _ h
theorem ex18 {α0 α1 α2 α3 α4 α5 α6 α7 α8 α9 α10 α11 α12 α13 α14 α15 α16 α17 : Type} {P : α0 → α1 → α2 → α3 → α4 → α5 → α6 → α7 → α8 → α9 → α10 → α11 → α12 → α13 → α14 → α15 → α16 → α17 → Prop} {G : Prop} (h : ∃ a0 a1 a2 a3 a4 a5 a6 a7 a8 a9 a10 a11 a12 a13 a14 a15 a16 a17, P a0 a1 a2 a3 a4 a5 a6 a7 a8 a9 a10 a11 a12 a13 a14 a15 a16 a17) (k : ∀ a0 a1 a2 a3 a4 a5 a6 a7 a8 a9 a10 a11 a12 a13 a14 a15 a16 a17, P a0 a1 a2 a3 a4 a5 a6 a7 a8 a9 a10 a11 a12 a13 a14 a15 a16 a17 → G) : G := by
  obtain ⟨a0, a1, a2, a3, a4, a5, a6, a7, a8, a9, a10, a11, a12, a13, a14, a15, a16, a17, h⟩ := h
  exact k _ _ _ _ _ _ _ _ _ _ _ _ _ _ _ _ _ _ h
theorem ex22 {α0 α1 α2 α3 α4 α5 α6 α7 α8 α9 α10 α11 α12 α13 α14 α15 α16 α17 α18 α19 α20 α21 : Type} {P : α0 → α1 → α2 → α3 → α4 → α5 → α6 → α7 → α8 → α9 → α10 → α11 → α12 → α13 → α14 → α15 → α16 → α17 → α18 → α19 → α20 → α21 → Prop} {G : Prop} (h : ∃ a0 a1 a2 a3 a4 a5 a6 a7 a8 a9 a10 a11 a12 a13 a14 a15 a16 a17 a18 a19 a20 a21, P a0 a1 a2 a3 a4 a5 a6 a7 a8 a9 a10 a11 a12 a13 a14 a15 a16 a17 a18 a19 a20 a21) (k : ∀ a0 a1 a2 a3 a4 a5 a6 a7 a8 a9 a10 a11 a12 a13 a14 a15 a16 a17 a18 a19 a20 a21, P a0 a1 a2 a3 a4 a5 a6 a7 a8 a9 a10 a11 a12 a13 a14 a15 a16 a17 a18 a19 a20 a21 → G) : G := by
  obtain ⟨a0, a1, a2, a3, a4, a5, a6, a7, a8, a9, a10, a11, a12, a13, a14, a15, a16, a17, a18, a19, a20, a21, h⟩ := h
  exact k _ _ _ _ _ _ _ _ _ _ _ _ _ _ _ _ _ _ _ _ _ _ h
theorem and2 {P0 P1 G : Prop} (h : P0 ∧ P1) (k : P0 → P1 → G) : G := by
  obtain ⟨p0, p1⟩ := h
  exact k p0 p1
theorem and3 {P0 P1 P2 G : Prop} (h : P0 ∧ P1 ∧ P2) (k : P0 → P1 → P2 → G) : G := by
  obtain ⟨p0, p1, p2⟩ := h
  exact k p0 p1 p2
theorem and5 {P0 P1 P2 P3 P4 G : Prop} (h : P0 ∧ P1 ∧ P2 ∧ P3 ∧ P4) (k : P0 → P1 → P2 → P3 → P4 → G) : G := by
  obtain ⟨p0, p1, p2, p3, p4⟩ := h
  exact k p0 p1 p2 p3 p4
theorem and6 {P0 P1 P2 P3 P4 P5 G : Prop} (h : P0 ∧ P1 ∧ P2 ∧ P3 ∧ P4 ∧ P5) (k : P0 → P1 → P2 → P3 → P4 → P5 → G) : G := by
  obtain ⟨p0, p1, p2, p3, p4, p5⟩ := h
  exact k p0 p1 p2 p3 p4 p5
theorem and7 {P0 P1 P2 P3 P4 P5 P6 G : Prop} (h : P0 ∧ P1 ∧ P2 ∧ P3 ∧ P4 ∧ P5 ∧ P6) (k : P0 → P1 → P2 → P3 → P4 → P5 → P6 → G) : G := by
  obtain ⟨p0, p1, p2, p3, p4, p5, p6⟩ := h
  exact k p0 p1 p2 p3 p4 p5 p6
theorem and11 {P0 P1 P2 P3 P4 P5 P6 P7 P8 P9 P10 G : Prop} (h : P0 ∧ P1 ∧ P2 ∧ P3 ∧ P4 ∧ P5 ∧ P6 ∧ P7 ∧ P8 ∧ P9 ∧ P10) (k : P0 → P1 → P2 → P3 → P4 → P5 → P6 → P7 → P8 → P9 → P10 → G) : G := by
  obtain ⟨p0, p1, p2, p3, p4, p5, p6, p7, p8, p9, p10⟩ := h
  exact k p0 p1 p2 p3 p4 p5 p6 p7 p8 p9 p10
theorem and12 {P0 P1 P2 P3 P4 P5 P6 P7 P8 P9 P10 P11 G : Prop} (h : P0 ∧ P1 ∧ P2 ∧ P3 ∧ P4 ∧ P5 ∧ P6 ∧ P7 ∧ P8 ∧ P9 ∧ P10 ∧ P11) (k : P0 → P1 → P2 → P3 → P4 → P5 → P6 → P7 → P8 → P9 → P10 → P11 → G) : G := by
  obtain ⟨p0, p1, p2, p3, p4, p5, p6, p7, p8, p9, p10, p11⟩ := h
  exact k p0 p1 p2 p3 p4 p5 p6 p7 p8 p9 p10 p11
theorem and16 {P0 P1 P2 P3 P4 P5 P6 P7 P8 P9 P10 P11 P12 P13 P14 P15 G : Prop} (h : P0 ∧ P1 ∧ P2 ∧ P3 ∧ P4 ∧ P5 ∧ P6 ∧ P7 ∧ P8 ∧ P9 ∧ P10 ∧ P11 ∧ P12 ∧ P13 ∧ P14 ∧ P15) (k : P0 → P1 → P2 → P3 → P4 → P5 → P6 → P7 → P8 → P9 → P10 → P11 → P12 → P13 → P14 → P15 → G) : G := by
  obtain ⟨p0, p1, p2, p3, p4, p5, p6, p7, p8, p9, p10, p11, p12, p13, p14, p15⟩ := h
  exact k p0 p1 p2 p3 p4 p5 p6 p7 p8 p9 p10 p11 p12 p13 p14 p15
theorem pm_low {n a b c d q : Int} : (a * c % n - q * (b * d % n) % n) % n = (a * c - q * (b * d)) % n := by
  rw [Int.mul_emod q (b * d % n), Int.emod_emod, ← Int.mul_emod, ← Int.sub_emod]
theorem pm_high {n a b c d p : Int} : ((a * d % n + b * c % n) % n + p * (b * d % n) % n) % n = (a * d + b * c + p * (b * d)) % n := by
  rw [Int.mul_emod p (b * d % n), Int.emod_emod, ← Int.mul_emod, ← Int.add_emod (a * d), ← Int.add_emod]

theorem lm_cls_ne {w v : Int} {o it : Obj} (h : Lm w v o) (hi : it.cls = .type "range_iterator") : o.cls ≠ it.cls := by
  obtain ⟨vs, n, rfl, _⟩ := h.ints
  rw [hi]
  intro e
  exact absurd (Value.type.inj e) (by decide)

theorem lm_lit' {w k : Int} {t : Tok} {n : Nat} (h : 0 < k) (h1 : k < 64) (hB : 64 ≤ (2 : Int) ^ w.toNat) : Lm w k (listOf #[.int k t] n) := lm_one rfl h (by omega)

theorem g_normal (P : Params) : nsIn (hd.heap_1 P) mainGlobals (Str.ofString "normal") = some (some (.ref 58)) := by k_is
theorem g_nat_of (P : Params) : nsIn (hd.heap_1 P) mainGlobals (Str.ofString "nat_of") = some (some (.ref 65)) := by k_is
theorem g_is_even (P : Params) : nsIn (hd.heap_1 P) mainGlobals (Str.ofString "is_even") = some (some (.ref 72)) := by k_is
theorem g_compare (P : Params) : nsIn (hd.heap_1 P) mainGlobals (Str.ofString "compare") = some (some (.ref 79)) := by k_is
theorem g_add (P : Params) : nsIn (hd.heap_1 P) mainGlobals (Str.ofString "add") = some (some (.ref 86)) := by k_is
theorem g_sub (P : Params) : nsIn (hd.heap_1 P) mainGlobals (Str.ofString "sub") = some (some (.ref 93)) := by k_is
theorem g_divrem_limb (P : Params) : nsIn (hd.heap_1 P) mainGlobals (Str.ofString "divrem_limb") = some (some (.ref 100)) := by k_is
theorem g_shift_left (P : Params) : nsIn (hd.heap_1 P) mainGlobals (Str.ofString "shift_left") = some (some (.ref 107)) := by k_is
theorem g_shift_right (P : Params) : nsIn (hd.heap_1 P) mainGlobals (Str.ofString "shift_right") = some (some (.ref 114)) := by k_is
theorem g_bits (P : Params) : nsIn (hd.heap_1 P) mainGlobals (Str.ofString "bits") = some (some (.ref 121)) := by k_is
theorem g_bit (P : Params) : nsIn (hd.heap_1 P) mainGlobals (Str.ofString "bit") = some (some (.ref 128)) := by k_is
theorem g_check_odd (P : Params) : nsIn (hd.heap_1 P) mainGlobals (Str.ofString "check_odd") = some (some (.ref 135)) := by k_is
theorem g_signed_rest (P : Params) : nsIn (hd.heap_1 P) mainGlobals (Str.ofString "signed_rest") = some (some (.ref 142)) := by k_is
theorem g_Ring (P : Params) : nsIn (hd.heap_1 P) mainGlobals (Str.ofString "Ring") = some (some (.ref 187)) := by k_is
theorem g_lucas_rows (P : Params) : nsIn (hd.heap_1 P) mainGlobals (Str.ofString "lucas_rows") = some (some (.ref 198)) := by k_is
theorem g_lucas_rests (P : Params) : nsIn (hd.heap_1 P) mainGlobals (Str.ofString "lucas_rests") = some (some (.ref 205)) := by k_is
theorem g_pair_product (P : Params) : nsIn (hd.heap_1 P) mainGlobals (Str.ofString "pair_product") = some (some (.ref 212)) := by k_is
theorem g_pair_power (P : Params) : nsIn (hd.heap_1 P) mainGlobals (Str.ofString "pair_power") = some (some (.ref 219)) := by k_is
theorem g_mul_school (P : Params) : nsIn (hd.heap_1 P) mainGlobals (Str.ofString "mul_school") = some (some (.ref 226)) := by k_is
theorem g_divrem_small (P : Params) : nsIn (hd.heap_1 P) mainGlobals (Str.ofString "divrem_small") = some (some (.ref 233)) := by k_is
theorem g_divrem_school (P : Params) : nsIn (hd.heap_1 P) mainGlobals (Str.ofString "divrem_school") = some (some (.ref 268)) := by k_is
theorem g_law_spun (P : Params) : nsIn (hd.heap_1 P) mainGlobals (Str.ofString "_law_spun") = some (some (.ref 275)) := by k_is
theorem g_law_limbs (P : Params) : nsIn (hd.heap_1 P) mainGlobals (Str.ofString "_law_limbs") = some (some (.ref 282)) := by k_is
theorem g_law_rows (P : Params) : nsIn (hd.heap_1 P) mainGlobals (Str.ofString "_law_rows") = some (some (.ref 289)) := by k_is
theorem g_law_column (P : Params) : nsIn (hd.heap_1 P) mainGlobals (Str.ofString "_law_column") = some (some (.ref 296)) := by k_is
theorem g_law_due (P : Params) : nsIn (hd.heap_1 P) mainGlobals (Str.ofString "_law_due") = some (some (.ref 303)) := by k_is
theorem g_law_done (P : Params) : nsIn (hd.heap_1 P) mainGlobals (Str.ofString "_law_done") = some (some (.ref 310)) := by k_is
theorem g_law_norm (P : Params) : nsIn (hd.heap_1 P) mainGlobals (Str.ofString "_law_norm") = some (some (.ref 317)) := by k_is
theorem g_law_ends_right (P : Params) : nsIn (hd.heap_1 P) mainGlobals (Str.ofString "_law_ends_right") = some (some (.ref 322)) := by k_is
theorem g_len (P : Params) : nsIn (hd.heap_1 P) mainGlobals (Str.ofString "len") = some none ∧ bootBuiltins (Str.ofString "len") = some (.builtin "len") ∧ (Str.ofString "len") ≠ "__name__" := ⟨by k_is, by boot_fast, by decide⟩
theorem g_range (P : Params) : nsIn (hd.heap_1 P) mainGlobals (Str.ofString "range") = some none ∧ bootBuiltins (Str.ofString "range") = some (.type "range") ∧ (Str.ofString "range") ≠ "__name__" := ⟨by k_is, by boot_fast, by decide⟩
theorem g_abs (P : Params) : nsIn (hd.heap_1 P) mainGlobals (Str.ofString "abs") = some none ∧ bootBuiltins (Str.ofString "abs") = some (.builtin "abs") ∧ (Str.ofString "abs") ≠ "__name__" := ⟨by k_is, by boot_fast, by decide⟩
theorem g_enumerate (P : Params) : nsIn (hd.heap_1 P) mainGlobals (Str.ofString "enumerate") = some none ∧ bootBuiltins (Str.ofString "enumerate") = some (.type "enumerate") ∧ (Str.ofString "enumerate") ≠ "__name__" := ⟨by k_is, by boot_fast, by decide⟩
theorem g_list (P : Params) : nsIn (hd.heap_1 P) mainGlobals (Str.ofString "list") = some none ∧ bootBuiltins (Str.ofString "list") = some (.type "list") ∧ (Str.ofString "list") ≠ "__name__" := ⟨by k_is, by boot_fast, by decide⟩
theorem g_sum (P : Params) : nsIn (hd.heap_1 P) mainGlobals (Str.ofString "sum") = some none ∧ bootBuiltins (Str.ofString "sum") = some (.builtin "sum") ∧ (Str.ofString "sum") ≠ "__name__" := ⟨by k_is, by boot_fast, by decide⟩
theorem g_int (P : Params) : nsIn (hd.heap_1 P) mainGlobals (Str.ofString "int") = some none ∧ bootBuiltins (Str.ofString "int") = some (.type "int") ∧ (Str.ofString "int") ≠ "__name__" := ⟨by k_is, by boot_fast, by decide⟩

local macro_rules | `(tactic| walk_at "mine glob") => exacts "g_normal g_nat_of g_is_even g_compare g_add g_sub g_divrem_limb g_shift_left g_shift_right g_bits g_bit g_check_odd g_signed_rest g_Ring g_lucas_rows g_lucas_rests g_pair_product g_pair_power g_mul_school g_divrem_small g_divrem_school g_law_spun g_law_limbs g_law_rows g_law_column g_law_due g_law_done g_law_norm g_law_ends_right"
local macro_rules | `(tactic| walk_at "mine built") => exacts "g_len g_range g_abs g_enumerate g_list g_sum g_int"

local macro_rules | `(tactic| walk_at "mine sides") => sides "ho:I hcd:I hbind:B hloc:L hco:f hgen:f hk:f hcell:c hns:f hsl:f hS:P hG:G"
local macro_rules | `(tactic| walk_at "mine slot") => alts ((List.range 9).map (fun i => rule 'p' (.str `Slot s!"at{i}") "" 0) ++ [rule 'p' `Slot.skip "s" 0])
local macro_rules | `(tactic| walk_at "mine set") => alts ((List.range 9).map (fun i => rule 'p' (.str `SetSlot s!"at{i}") "" 0) ++ [rule 'p' `SetSlot.skip "S" 0])
local macro_rules | `(tactic| walk_at "mine num") => alts [closer 'a', rule 'p' `bd_lo "a" 0, rule 'p' `bd_hi "aa" 0, closer 'w']
local macro_rules | `(tactic| walk_at "mine ring") => alts [rule 'p' `RingH.keep "aa" 0, rule 'd' `ring_of "V" 0]
local macro_rules | `(tactic| walk_at "eval Constant int") => rule 'r' `c_int ""
local macro_rules | `(tactic| walk_at "binaryOp Add int int") => rule 'r' `r_add ""
local macro_rules | `(tactic| walk_at "binaryOp Sub int int") => rule 'r' `r_sub ""
local macro_rules | `(tactic| walk_at "mine in") => alts [rule 'p' `Mem1.here "" 0, rule 'p' `Mem1.there "m" 0]
local macro_rules | `(tactic| walk_at "exec While Compare") => `(tactic| (k_dflt (refine whl_start 100 ?_)))
local macro_rules | `(tactic| walk_at "mine dec") => `(tactic| (first | assumption | decide | omega | (simp only [Int.toNat_zero, List.getD_cons_zero, Int.zero_add, Int.add_zero]; first | assumption | omega)))
local macro_rules | `(tactic| walk_at "WhlIf") => alts [rule 'p' `WhlIf.yes "8", rule 'p' `WhlIf.no "9", rule 'p' `WhlIf.yes "F", rule 'p' `WhlIf.no "F"]
local macro_rules | `(tactic| walk_at "ite") => alts [rule 'p' `ite_pos "8", rule 'p' `ite_eq_yes "v", rule 'p' `ite_ne_yes "v", rule 'p' `ite_no "v", rule 'p' `ite_eq_no "v", rule 'p' `ite_ne_no "v"]
local macro_rules | `(tactic| walk_at "binaryOp LShift int int") => alts [rule 'r' `r_shl1 "a", rule 'r' `r_shl0 "a", rule 'r' `r_shl "xxxx"]
local macro_rules | `(tactic| walk_at "binaryOp RShift int int") => alts [rule 'r' `r_shr "a", rule 'r' `r_shr1 "", rule 'r' `r_shrk "x"]
local macro_rules | `(tactic| walk_at "inplaceOp RShift int int") => rule 'r' `r_ishr "a"
local macro_rules | `(tactic| walk_at "inplaceOp Add int int") => rule 'r' `r_iadd0 ""
local macro_rules | `(tactic| walk_at "binaryOp BitAnd int int") => alts [rule 'r' `r_mask "", rule 'r' `r_and1 ""]
local macro_rules | `(tactic| walk_at "binaryOp BitOr int int") => alts [rule 'r' `r_or0 "x", rule 'r' `r_or "xxx", rule 'r' `r_or' "xxx"]
local macro_rules | `(tactic| walk_at "binaryOp FloorDiv int int") => alts [rule 'r' `r_div0 "xxx", rule 'r' `r_fdiv "xx"]
local macro_rules | `(tactic| walk_at "binaryOp Mod int int") => alts [rule 'r' `r_mod0 "xx", rule 'r' `r_fmod "x"]
local macro_rules | `(tactic| walk_at "inplaceOp Mod int int") => rule 'r' `r_imod "x"
local macro_rules | `(tactic| walk_at "binaryOp Mult ref int") => thenLine (alts [rule 'd' `mul1 "aatc", rule 'd' `mul2 "aatc", rule 'd' `mul0 "aatc"]) "mine lt"
local macro_rules | `(tactic| walk_at "mine lt") => `(tactic| (intro d' h' F' N' l1; (try k_lt l1); (try k_sweep)))
local macro_rules | `(tactic| walk_at "eval Name") => rule 'r' `name_built "AAAAmb"
local macro_rules | `(tactic| walk_at "eval Name") => rule 'r' `name_glob "AAAAmg"
local macro_rules | `(tactic| walk_at "eval Name") => rule 'r' `name_slot "AAs"
local macro_rules | `(tactic| walk_at "loadName") => rule 'r' `load_slot "AAs"
local macro_rules | `(tactic| walk_at "mine tok") => `(tactic| (try (refine st_tok ?_; intro t')))
local macro_rules | `(tactic| walk_at "storeName") => do `(tactic| (with_reducible (walk_at "mine tok"; $(← rule 'p' `st_slot "AAAS"):tactic; walk_at "mine tail")))
local macro_rules | `(tactic| walk_at "mine at") => alts [closer 'a', rule 'p' `fr_at "aa" 0, rule 'p' `News.get "aM" 0]
local macro_rules | `(tactic| walk_at "mine iter") => alts ((List.range 4).map fun k => do `(tactic| (with_unfolding_all refine krs_iter (n := $(Lean.quote k)) (by rfl) (by assumption) (by decide) (by decide) (by assumption) (by assumption) ?_)))
local macro_rules | `(tactic| walk_at "pyIter ref") => `(tactic| ((with_reducible show wpAny _ _ (pyIter (Value.ref _)) (fun it s₂ => LoopAtV _ _ _ _ _ _ _ _ _ it s₂) _ _); (walk_at "mine iter"); (intro i' l1); (try k_lt l1)))
local macro_rules | `(tactic| walk_at "KrsRest") => `(tactic| (with_unfolding_all first
  | ((refine' KrsRest.succ ?hv (fun t' h' tk' F' N' => ?_)); (case hv => krs_num); (replace N' := news_locals N'); (with_reducible refine' fr_goal F' (by assumption) ?hs ?_); (case hs => (with_reducible walk_at "mine set")); (clear F'); (intro F'))
  | ((refine KrsRest.zero (fun h' tk' F' N' => ?_)); (replace N' := news_locals N'); (replace F' := fr_locals F'))))
local macro_rules | `(tactic| walk_at "mine item") => alts [rule 'd' `itL0 "tc", rule 'd' `itL1 "tc", rule 'd' `itT0 "tc", rule 'd' `itT1 "tc", rule 'd' `itL2 "tc", rule 'd' `itT2 "tc"]
local macro_rules | `(tactic| walk_at "subscriptTail Name Name ref int") => lineOf "mine item"
local macro_rules | `(tactic| walk_at "subscriptTail Name Constant ref int") => lineOf "mine item"
local macro_rules | `(tactic| walk_at "subscriptTail Name BinOp ref int") => lineOf "mine item"
local macro_rules | `(tactic| walk_at "subscriptTail Call Constant ref int") => lineOf "mine item"
local macro_rules | `(tactic| walk_at "subscriptTail Attribute Constant ref int") => lineOf "mine item"
local macro_rules | `(tactic| walk_at "subscriptTail") => lineOf "mine item"
local macro_rules | `(tactic| walk_at "call builtin:len") => thenLine (alts [rule 'd' `len1 "tf", rule 'd' `len0 "tf", rule 'd' `len2 "tf", rule 'd' `len3 "tf"]) "mine tail"
local macro_rules | `(tactic| walk_at "call type:range") => thenLine (alts [rule 'r' `range1F "AA", rule 'r' `range2F "AA", rule 'r' `range3F "AA"]) "mine tail"
local macro_rules | `(tactic| walk_at "mine lm") => alts [closer 'a', rule 'p' `lm_nil "f" 0, rule 'p' `lm_one "fcA" 0, rule 'p' `lm_lit' "ccA" 0]
local macro_rules | `(tactic| walk_at "mine units") => alts [rule 'p' `room_64 "a_" 0, lineOf "mine units2", closer 'w']
local macro_rules | `(tactic| walk_at "mine units2") => `(tactic| ((try simp only [units_in1, units_deeper, Around.mark_units, units_caller]); (try dsimp only [ktrTop]); omega))
local macro_rules | `(tactic| walk_at "compareOp Eq ref ref") => rule 'd' `eqLm "ttllU"
local macro_rules | `(tactic| walk_at "compareOp NotEq ref ref") => rule 'd' `neLm "ttllU"
local macro_rules | `(tactic| k_inst) => rule 'p' `instAt_keep "aa" 0
local macro_rules | `(tactic| walk_at "call builtin:abs") => thenLine (alts [rule 'r' `r_absn "x", rule 'r' `r_absp "x"]) "mine tail"
local macro_rules | `(tactic| walk_at "mine whole") => `(tactic| k_dflt k_whole)
local macro_rules | `(tactic| walk_at "getMethod ref") => both (isMethod ["product", "plus", "minus", "half"]) (rule 'd' `method_inst "yyVIIIX" 1 "mine whole")
local macro_rules | `(tactic| walk_at "getMethod ref") => both (isMethod ["mul", "divrem"]) (rule 'd' `kmu_own "yyVII" 1 "mine whole")
local macro_rules | `(tactic| k_cls) => `(tactic| exact lm_cls_ne (by assumption) rfl)
local macro_rules | `(tactic| walk_at "mine op") => `(tactic| (intro E' Q' hQ'; walk1; exact hQ'))
local macro_rules | `(tactic| walk_at "mine ev") => withR (alts [rule 'p' `Ev.const "" 0, rule 'p' `Ev.slot "AAs" 0, rule 'p' `Ev.bin "eeo" 0, rule 'p' `Ev.sub "eeo" 0, rule 'p' `Ev.un "eo" 0, rule 'p' `Ev.attr "eo" 0])
local macro_rules | `(tactic| walk_at "mine evs") => withR (alts [rule 'p' `Evs.nil "" 0, rule 'p' `Evs.cons "eE" 0])
local macro_rules | `(tactic| walk_at "eval BinOp") => rule 'r' `bin_go "ee"
local macro_rules | `(tactic| walk_at "eval Subscript") => rule 'r' `sub_go "ee"
local macro_rules | `(tactic| walk_at "spliced") => rule 'r' `args_go "E" 1 "mine appended"
local macro_rules | `(tactic| walk_at "mine appended") => `(tactic| (try dsimp only [List.cons_append, List.nil_append]))
local macro_rules | `(tactic| walk_at "isTrue Compare") => rule 'r' `cmp_go "eeF"
local macro_rules | `(tactic| walk_at "mine names") => withR (alts [rule 'p' `NamesOf.nil "" 0, rule 'p' `NamesOf.cons "N" 0])
local macro_rules | `(tactic| walk_at "mine sets") => alts [rule 'p' `SetSlots.nil "" 0, rule 'p' `SetSlots.cons "SZ" 0]
local macro_rules | `(tactic| walk_at "exec Assign") => rule 'r' `asgT_go "NDD"
local macro_rules | `(tactic| walk_at "TupSt") => rule 'd' `tupSt_go "afaaf_Z" 1 "mine sweep"
local macro_rules | `(tactic| walk_at "exec Assign") => rule 'r' `asg_go "AeAADS" 1 "mine sweep"
local macro_rules | `(tactic| walk_at "exec Return some") => rule 'r' `ret_go "e"
local macro_rules | `(tactic| walk_at "eval Call") => rule 'r' `callG_go "AAAAmgJEA"
local macro_rules | `(tactic| walk_at "eval Call") => rule 'r' `callB_go "AAAAmbE"
local macro_rules | `(tactic| walk_at "eval Call") => rule 'r' `callT_go "AAAAmbE"
local macro_rules | `(tactic| walk_at "mine tail") => `(tactic| (intros; (try dsimp only); (try k_sweep)))
local macro_rules | `(tactic| walk_at "mine sweep") => `(tactic| (intros; (try k_sweep)))


theorem strip_take : ∀ (ns : List Int) (k : Int), k ≤ ns.length → min (ns.length : Int) 0 ≤ k →
    (∀ j : Int, k < j → j ≤ ns.length → (if 0 < j then if (ns.getD (j - 1).toNat 0 == 0) = true then true else false else false) = true) →
    (if 0 < k then if (ns.getD (k - 1).toNat 0 == 0) = true then true else false else false) = false → ns.take k.toNat = strip ns
  | [], k, _, _, _, _ => by simp [strip]
  | x :: r, k, h1, h2, h3, h4 => by
    have hk : 0 ≤ k := by simp at h2; omega
    by_cases hk0 : k = 0
    · subst hk0
      have hr : r.take (0 : Int).toNat = strip r := strip_take r 0 (by omega) (by omega) (fun j hj hl => by
        have := h3 (j + 1) (by omega) (by simp; omega)
        rw [if_pos (by omega)] at this ⊢
        rw [show (j + 1 - 1).toNat = (j - 1).toNat + 1 by omega, List.getD_cons_succ] at this
        exact this) (by simp)
      have hx := h3 1 (by omega) (by simp only [List.length_cons]; omega)
      simp at hx
      have hr' : strip r = [] := by rw [← hr]; rfl
      rw [strip_cons_nil hr', if_pos hx]
      rfl
    · have hr : r.take (k - 1).toNat = strip r := strip_take r (k - 1) (by simp at h1; omega) (by omega) (fun j hj hl => by
        have := h3 (j + 1) (by omega) (by simp; omega)
        rw [if_pos (by omega)] at this ⊢
        rw [show (j + 1 - 1).toNat = (j - 1).toNat + 1 by omega, List.getD_cons_succ] at this
        exact this) (by
        by_cases hk1 : k = 1
        · subst hk1; simp
        · rw [if_pos (by omega)] at h4 ⊢
          rw [show (k - 1).toNat = (k - 1 - 1).toNat + 1 by omega, List.getD_cons_succ] at h4
          exact h4)
      rw [show k.toNat = (k - 1).toNat + 1 by omega, List.take_succ_cons, hr]
      cases hs : strip r with
      | nil =>
        rw [strip_cons_nil hs]
        by_cases hk1 : k = 1
        · subst hk1
          simp at h4
          rw [if_neg h4]
        · have hlen : (r.take (k - 1).toNat).length = 0 := by rw [hr, hs]; rfl
          rw [List.length_take] at hlen
          simp at h1
          omega
      | cons y t => rw [strip_cons_cons hs]

set_option maxHeartbeats 8000000 in
theorem normal_ok {w : World} {l : Addr} {n : Nat} {its : Array Value} {ns : List Int} (hi : IntsAre its.toList ns) (hn : ns.length ≤ 2) : Spec w 58 1 [.ref l] (fun h => h.get? l = some (listOf its n)) (OutNums (strip ns)) := by
  refine' Spec.byQ (ns := [Str.ofString "a", Str.ofString "end"]) (sl := [some (.ref l), none]) [(Str.ofString "a", .ref l)] [Str.ofString "end"] [Str.ofString "len"] ?ho ?hcd ?hbind ?hloc ?hco ?hgen ?hk ?hcell ?hns ?hsl ?hS ?hG ?_
  walk_at "mine sides"
  intro p loose mean mg mb dp un gd outer A₀ base g L s B F X N T hcs hS hG hpre hd hu Q hQ
  obtain ⟨its⟩ := its
  have hl : g.IsList l its.toArray := ⟨_, hpre, rfl, _, rfl⟩
  replace hi : IntsAre its ns := hi
  try dsimp only
  k_steps
  try dsimp only
  refine hQ _ _ ?_; refine done_nums rfl (by assumption) (by assumption) (.head _) ?_
  rw [← strip_take ns _ (by assumption) (by assumption) (by assumption) (by assumption)]
  assumption


set_option maxHeartbeats 8000000 in
theorem compare_ok {wd : World} {l k : Addr} {o q : Obj} {x y w : Int} (ho : Lm w x o) (hq : Lm w y q) (hy : y < 2 ^ w.toNat) : Spec wd 79 1 [.ref l, .ref k] (fun h => h.get? l = some o ∧ h.get? k = some q) (OutInt (sgn x y)) := by
  refine' Spec.byQ (ns := [Str.ofString "a", Str.ofString "b", Str.ofString "at"]) (sl := [some (.ref l), some (.ref k), none]) [(Str.ofString "a", .ref l), (Str.ofString "b", .ref k)] [Str.ofString "at"] [Str.ofString "len", Str.ofString "range"] ?ho ?hcd ?hbind ?hloc ?hco ?hgen ?hk ?hcell ?hns ?hsl ?hS ?hG ?_
  walk_at "mine sides"
  intro p loose mean mg mb dp un gd outer A₀ base g L s B F X N T hcs hS hG ⟨hpl, hpk⟩ hd hu Q hQ
  rcases hq.small hy with ⟨rfl, n, rfl⟩ | ⟨h0, h1, t, n, rfl⟩
  · have hk : g.IsList k #[] := ⟨_, hpk, rfl, _, rfl⟩
    rcases ho with ⟨rfl, n', rfl⟩ | ⟨h2, h3, t', n', rfl⟩ | ⟨lo, hi, t', t'', n', rfl, h2, h3, h4, h5, rfl⟩
    · have hl : g.IsList l #[] := ⟨_, hpl, rfl, _, rfl⟩
      k_steps
      try dsimp only
      refine hQ _ _ ?_; exact done_int rfl (by assumption) (by decide)
    · have hl : g.IsList l #[.int x t'] := ⟨_, hpl, rfl, _, rfl⟩
      k_steps
      try dsimp only
      refine hQ _ _ ?_; exact done_int rfl (by assumption) (by unfold sgn; rw [if_neg (by omega), if_neg (by omega)])
    · have hl : g.IsList l #[.int lo t', .int hi t''] := ⟨_, hpl, rfl, _, rfl⟩
      k_steps
      try dsimp only
      refine hQ _ _ ?_; exact done_int rfl (by assumption) (by
        have hB := base_pos w
        have := Int.mul_pos h4 hB
        unfold sgn; rw [if_neg (by omega), if_neg (by omega)])
  · have hk : g.IsList k #[.int y t] := ⟨_, hpk, rfl, _, rfl⟩
    rcases ho with ⟨rfl, n', rfl⟩ | ⟨h2, h3, t', n', rfl⟩ | ⟨lo, hi, t', t'', n', rfl, h2, h3, h4, h5, rfl⟩
    · have hl : g.IsList l #[] := ⟨_, hpl, rfl, _, rfl⟩
      k_steps
      try dsimp only
      refine hQ _ _ ?_; exact done_int rfl (by assumption) (by unfold sgn; rw [if_pos (by omega)])
    · have hl : g.IsList l #[.int x t'] := ⟨_, hpl, rfl, _, rfl⟩
      k_steps
      all_goals (
        try dsimp only
        refine hQ _ _ ?_; refine done_int rfl (by assumption) ?_
        simp only [Int.toNat_zero, List.getD_cons_zero] at *
        unfold sgn
        first | rw [if_pos (by omega)] | rw [if_neg (by omega), if_pos (by omega)] | rw [if_neg (by omega), if_neg (by omega)])
    · have hl : g.IsList l #[.int lo t', .int hi t''] := ⟨_, hpl, rfl, _, rfl⟩
      k_steps
      try dsimp only
      refine hQ _ _ ?_; exact done_int rfl (by assumption) (by
        have hB := base_pos w
        have : 1 * 2 ^ w.toNat ≤ hi * 2 ^ w.toNat := Int.mul_le_mul_of_nonneg_right (by omega) (by omega)
        unfold sgn; rw [if_neg (by omega), if_neg (by omega)])

set_option maxHeartbeats 8000000 in
theorem nat_of_ok {wd : World} {v w : Int} {t u : Tok} (hw : WOk w) (h0 : 0 ≤ v) (h1 : v < 2 ^ w.toNat * 2 ^ w.toNat) : Spec wd 65 1 [.int v t, .int w u] (fun _ => True) (OutLm w v) := by
  refine' Spec.byQ (ns := [Str.ofString "number", Str.ofString "w", Str.ofString "found", Str.ofString "mask"]) (sl := [some (.int v t), some (.int w u), none, none]) [(Str.ofString "number", .int v t), (Str.ofString "w", .int w u)] [Str.ofString "found", Str.ofString "mask"] [Str.ofString "OutOfRange"] ?ho ?hcd ?hbind ?hloc ?hco ?hgen ?hk ?hcell ?hns ?hsl ?hS ?hG ?_
  walk_at "mine sides"
  intro p loose mean mg mb dp un gd outer A₀ base g L s B F X N T hcs hS hG hpre hd hu Q hQ
  have hB := base_pos w
  have hneg : ¬ v < 0 := by omega
  rcases (show v = 0 ∨ (0 < v ∧ v < 2 ^ w.toNat) ∨ 2 ^ w.toNat ≤ v by omega) with hv | ⟨hv, hv2⟩ | hv
  · k_steps
    try dsimp only
    refine hQ _ _ ?_; exact done_lm rfl (by assumption) (by assumption) (by k_mem) (lm_nil hv)
  · have hq := div_base_zero h0 hv2
    k_steps
    try dsimp only
    refine hQ _ _ ?_; exact done_lm rfl (by assumption) (by assumption) (by k_mem) (lm_one (mod_base h0 hv2) hv hv2)
  · have hq := div_base_pos hv
    have hl := div_lt_base h1
    have hq2 := div_base_zero (Int.le_of_lt hq) hl
    k_steps
    try dsimp only
    refine hQ _ _ ?_; refine done_lm rfl (by assumption) (by assumption) (by k_mem) (lm_two mod_base_nonneg mod_base_lt ?_ ?_ ?_)
    · rw [mod_base (Int.le_of_lt hq) hl]; exact hq
    · rw [mod_base (Int.le_of_lt hq) hl]; exact hl
    · rw [mod_base (Int.le_of_lt hq) hl]; exact div_mod_base


set_option maxHeartbeats 8000000 in
theorem is_even_ok {wd : World} {l : Addr} {o : Obj} {v w : Int} (ho : Lm w v o) (hv : v < 2 ^ w.toNat) : Spec wd 72 1 [.ref l] (fun h => h.get? l = some o) (OutBool (decide (v % 2 = 0))) := by
  refine' Spec.byQ (ns := [Str.ofString "a"]) (sl := [some (.ref l)]) [(Str.ofString "a", .ref l)] [] [Str.ofString "len"] ?ho ?hcd ?hbind ?hloc ?hco ?hgen ?hk ?hcell ?hns ?hsl ?hS ?hG ?_
  walk_at "mine sides"
  intro p loose mean mg mb dp un gd outer A₀ base g L s B F X N T hcs hS hG hpre hd hu Q hQ
  rcases ho.small hv with ⟨rfl, n, rfl⟩ | ⟨h0, h1, t, n, rfl⟩
  · have hl : g.IsList l #[] := ⟨_, hpre, rfl, _, rfl⟩
    k_steps
    try dsimp only
    refine hQ _ _ ?_; exact done_bool rfl (by assumption) (by decide)
  · have hl : g.IsList l #[.int v t] := ⟨_, hpre, rfl, _, rfl⟩
    k_steps
    try dsimp only
    refine hQ _ _ ?_; exact done_bool rfl (by assumption) (by rfl)


set_option maxHeartbeats 8000000 in
theorem add_ok {wd : World} {l k : Addr} {o q : Obj} {x y w : Int} {u : Tok} (hw : WOk w) (ho : Lm w x o) (hx : x < 2 ^ w.toNat) (hq : Lm w y q) (hy : y < 2 ^ w.toNat) : Spec wd 86 1 [.ref l, .ref k, .int w u] (fun h => h.get? l = some o ∧ h.get? k = some q) (OutLm w (x + y)) := by
  refine' Spec.byQ (ns := [Str.ofString "a", Str.ofString "b", Str.ofString "w", Str.ofString "found", Str.ofString "carry", Str.ofString "mask", Str.ofString "at"]) (sl := [some (.ref l), some (.ref k), some (.int w u), none, none, none, none]) [(Str.ofString "a", .ref l), (Str.ofString "b", .ref k), (Str.ofString "w", .int w u)] [Str.ofString "found", Str.ofString "carry", Str.ofString "mask", Str.ofString "at"] [Str.ofString "len", Str.ofString "range"] ?ho ?hcd ?hbind ?hloc ?hco ?hgen ?hk ?hcell ?hns ?hsl ?hS ?hG ?_
  walk_at "mine sides"
  intro p loose mean mg mb dp un gd outer A₀ base g L s B F X N T hcs hS hG ⟨hpl, hpk⟩ hd hu Q hQ
  have hB := base_pos w
  rcases ho.small hx with ⟨rfl, n', rfl⟩ | ⟨h2, h3, t', n', rfl⟩
  · have hl : g.IsList l #[] := ⟨_, hpl, rfl, _, rfl⟩
    rcases hq.small hy with ⟨rfl, n, rfl⟩ | ⟨h0, h1, t, n, rfl⟩
    · have hk : g.IsList k #[] := ⟨_, hpk, rfl, _, rfl⟩
      k_steps
      try dsimp only
      refine hQ _ _ ?_; exact done_lm rfl (by assumption) (by assumption) (by k_mem) (lm_nil rfl)
    · have hk : g.IsList k #[.int y t] := ⟨_, hpk, rfl, _, rfl⟩
      have hz := div_base_zero (Int.le_of_lt h0) h1
      k_steps
      try dsimp only
      refine hQ _ _ ?_; refine done_lm rfl (by assumption) (by assumption) (by k_mem) (lm_one ((mod_base (Int.le_of_lt h0) h1).trans ?_) (by omega) (by omega))
      omega
  · have hl : g.IsList l #[.int x t'] := ⟨_, hpl, rfl, _, rfl⟩
    rcases hq.small hy with ⟨rfl, n, rfl⟩ | ⟨h0, h1, t, n, rfl⟩
    · have hk : g.IsList k #[] := ⟨_, hpk, rfl, _, rfl⟩
      have hz := div_base_zero (Int.le_of_lt h2) h3
      k_steps
      try dsimp only
      refine hQ _ _ ?_; refine done_lm rfl (by assumption) (by assumption) (by k_mem) (lm_one ((mod_base (Int.le_of_lt h2) h3).trans ?_) (by omega) (by omega))
      omega
    · have hk : g.IsList k #[.int y t] := ⟨_, hpk, rfl, _, rfl⟩
      have h5 : 0 ≤ x + y := by omega
      have h7 := two_base_le hw
      have h8 : ∀ z : Int, z < 2 ^ w.toNat ∨ 2 ^ w.toNat ≤ z := fun z => by omega
      k_steps
      · have hz := ‹0 < (x + y) / 2 ^ w.toNat›
        have h6 : 2 ^ w.toNat ≤ x + y := by
          rcases h8 (x + y) with h | h
          · rw [div_base_zero h5 h] at hz; exact absurd hz (by decide)
          · exact h
        try dsimp only
        refine hQ _ _ ?_; exact done_lm rfl (by assumption) (by assumption) (by k_mem) (lm_two mod_base_nonneg mod_base_lt hz (div_lt_base (by omega)) div_mod_base)
      · have hz := ‹¬ 0 < (x + y) / 2 ^ w.toNat›
        have h6 : x + y < 2 ^ w.toNat := by
          rcases h8 (x + y) with h | h
          · exact h
          · exact absurd (div_base_pos h) hz
        try dsimp only
        refine hQ _ _ ?_; exact done_lm rfl (by assumption) (by assumption) (by k_mem) (lm_one (mod_base h5 h6) (by omega) h6)

local macro_rules | `(tactic| walk_at "call ref") => callLine 58 `use_nums `normal_ok "i_" "t"
local macro_rules | `(tactic| walk_at "call ref") => callLine 79 `use_int `compare_ok "aan" "tt"


set_option maxHeartbeats 8000000 in
theorem bits_ok {wd : World} {l : Addr} {o : Obj} {x w : Int} {u : Tok} (ho : Lm w x o) (hx : x < 2 ^ w.toNat) : Spec wd 121 1 [.ref l, .int w u] (fun h => h.get? l = some o) (OutInt (Builtin.Int.intBits x)) := by
  refine' Spec.byQ (ns := [Str.ofString "a", Str.ofString "w"]) (sl := [some (.ref l), some (.int w u)]) [(Str.ofString "a", .ref l), (Str.ofString "w", .int w u)] [] [Str.ofString "len"] ?ho ?hcd ?hbind ?hloc ?hco ?hgen ?hk ?hcell ?hns ?hsl ?hS ?hG ?_
  walk_at "mine sides"
  intro p loose mean mg mb dp un gd outer A₀ base g L s B F X N T hcs hS hG hpl hd hu Q hQ
  rcases ho.small hx with ⟨rfl, n', rfl⟩ | ⟨h2, h3, t', n', rfl⟩
  · have hl : g.IsList l #[] := ⟨_, hpl, rfl, _, rfl⟩
    k_steps
    try dsimp only
    refine hQ _ _ ?_; exact done_int rfl (by assumption) rfl
  · have hl : g.IsList l #[.int x t'] := ⟨_, hpl, rfl, _, rfl⟩
    k_steps
    try dsimp only
    refine hQ _ _ ?_; exact done_int rfl (by assumption) (by omega)
set_option maxHeartbeats 8000000 in
theorem bit_ok {wd : World} {l : Addr} {o : Obj} {x k w : Int} {u v : Tok} (hw : WOk w) (ho : Lm w x o) (hx : x < 2 ^ w.toNat) (hx0 : 0 < x) (hk : 0 ≤ k) (hk2 : k < 6) : Spec wd 128 1 [.ref l, .int k v, .int w u] (fun h => h.get? l = some o) (OutInt (x / 2 ^ k.toNat % 2)) := by
  refine' Spec.byQ (ns := [Str.ofString "a", Str.ofString "n", Str.ofString "w"]) (sl := [some (.ref l), some (.int k v), some (.int w u)]) [(Str.ofString "a", .ref l), (Str.ofString "n", .int k v), (Str.ofString "w", .int w u)] [] [Str.ofString "len"] ?ho ?hcd ?hbind ?hloc ?hco ?hgen ?hk ?hcell ?hns ?hsl ?hS ?hG ?_
  walk_at "mine sides"
  intro p loose mean mg mb dp un gd outer A₀ base g L s B F X N T hcs hS hG hpl hd hu Q hQ
  have hw1 := hw.1
  have hw2 := hw.2
  rcases ho.small hx with ⟨rfl, n', rfl⟩ | ⟨h2, h3, t', n', rfl⟩
  · exfalso; omega
  · have hl : g.IsList l #[.int x t'] := ⟨_, hpl, rfl, _, rfl⟩
    k_steps
    try dsimp only
    refine hQ _ _ ?_; exact done_int rfl (by assumption) rfl


theorem borrow_eq {w hi lo y : Int} : hi * 2 ^ w.toNat + lo - y = (hi - 1 - 0) * 2 ^ w.toNat + (lo - 0 - y + 2 ^ w.toNat) := by
  rw [Int.sub_zero, Int.sub_mul]; omega
set_option maxHeartbeats 8000000 in
theorem sub_ok {wd : World} {l k : Addr} {o q : Obj} {x y w : Int} {u : Tok} (hw : WOk w) (ho : Lm w x o) (hq : Lm w y q) (hy : y < 2 ^ w.toNat) (hxy : y ≤ x) : Spec wd 93 2 [.ref l, .ref k, .int w u] (fun h => h.get? l = some o ∧ h.get? k = some q) (OutLm w (x - y)) := by
  refine' Spec.byQ (ns := [Str.ofString "a", Str.ofString "b", Str.ofString "w", Str.ofString "found", Str.ofString "borrow", Str.ofString "base", Str.ofString "at", Str.ofString "limb"]) (sl := [some (.ref l), some (.ref k), some (.int w u), none, none, none, none, none]) [(Str.ofString "a", .ref l), (Str.ofString "b", .ref k), (Str.ofString "w", .int w u)] [Str.ofString "found", Str.ofString "borrow", Str.ofString "base", Str.ofString "at", Str.ofString "limb"] [Str.ofString "compare", Str.ofString "OutOfRange", Str.ofString "range", Str.ofString "len", Str.ofString "normal"] ?ho ?hcd ?hbind ?hloc ?hco ?hgen ?hk ?hcell ?hns ?hsl ?hS ?hG ?_
  walk_at "mine sides"
  intro p loose mean mg mb dp un gd outer A₀ base g L s B F X N T hcs hS hG ⟨hpl, hpk⟩ hd hu Q hQ
  have hB := base_pos w
  have hsg := sgn_neg hxy
  k_steps
  rcases hq.small hy with ⟨rfl, n, rfl⟩ | ⟨h0, h1, t, n, rfl⟩
  · have hk : g.IsList k #[] := ⟨_, hpk, rfl, _, rfl⟩
    rcases id ho with ⟨rfl, n', rfl⟩ | ⟨h2, h3, t', n', rfl⟩ | ⟨lo, hi, t', t'', n', rfl, h2, h3, h4, h5, rfl⟩
    · have hl : g.IsList l #[] := ⟨_, hpl, rfl, _, rfl⟩
      k_steps
      try dsimp only
      refine hQ _ _ ?_; exact done_lm rfl (by assumption) (by assumption) (by k_mem) (lm_of_strip0 ⟨_, _, rfl, by assumption⟩)
    · have hl : g.IsList l #[.int x t'] := ⟨_, hpl, rfl, _, rfl⟩
      k_steps
      try dsimp only
      refine hQ _ _ ?_; refine done_lm rfl (by assumption) (by assumption) (by k_mem) (lm_of_strip1 (by omega) (by omega) ⟨_, _, rfl, ?_⟩)
      rw [show x - 0 = x - 0 - 0 by omega]; assumption
    · have hl : g.IsList l #[.int lo t', .int hi t''] := ⟨_, hpl, rfl, _, rfl⟩
      k_steps
      try dsimp only
      refine hQ _ _ ?_; exact done_lm rfl (by assumption) (by assumption) (by k_mem) (lm_of_strip2 (lo := lo - 0 - 0) (hi := hi - 0 - 0) (by omega) (by omega) (by omega) (by omega) (by simp only [Int.sub_zero]) ⟨_, _, rfl, by assumption⟩)
  · have hk : g.IsList k #[.int y t] := ⟨_, hpk, rfl, _, rfl⟩
    rcases id ho with ⟨rfl, n', rfl⟩ | ⟨h2, h3, t', n', rfl⟩ | ⟨lo, hi, t', t'', n', rfl, h2, h3, h4, h5, rfl⟩
    · exfalso; omega
    · have hl : g.IsList l #[.int x t'] := ⟨_, hpl, rfl, _, rfl⟩
      k_steps
      try dsimp only
      refine hQ _ _ ?_; refine done_lm rfl (by assumption) (by assumption) (by k_mem) (lm_of_strip1 (by omega) (by omega) ⟨_, _, rfl, ?_⟩)
      rw [show x - y = x - 0 - y by omega]; assumption
    · have hl : g.IsList l #[.int lo t', .int hi t''] := ⟨_, hpl, rfl, _, rfl⟩
      rcases (show lo < y ∨ y ≤ lo by omega) with h6 | h6
      · k_steps
        try dsimp only
        refine hQ _ _ ?_; exact done_lm rfl (by assumption) (by assumption) (by k_mem) (lm_of_strip2 (lo := lo - 0 - y + 2 ^ w.toNat) (hi := hi - 1 - 0) (by omega) (by omega) (by omega) (by omega) borrow_eq ⟨_, _, rfl, by assumption⟩)
      · k_steps
        try dsimp only
        refine hQ _ _ ?_; exact done_lm rfl (by assumption) (by assumption) (by k_mem) (lm_of_strip2 (lo := lo - 0 - y) (hi := hi - 0 - 0) (by omega) (by omega) (by omega) (by omega) (by simp only [Int.sub_zero]; omega) ⟨_, _, rfl, by assumption⟩)


theorem dm_two {B hi lo d : Int} (hd : 0 < d) : (hi * B + lo) / d = hi / d * B + (hi % d * B + lo) / d ∧ (hi * B + lo) % d = (hi % d * B + lo) % d := by
  have e : hi * B + lo = (hi % d * B + lo) + d * (hi / d * B) := by
    have h := Int.mul_ediv_add_emod hi d
    have h2 : (d * (hi / d) + hi % d) * B = hi * B := by rw [h]
    rw [Int.add_mul, Int.mul_assoc] at h2
    omega
  constructor
  · rw [e, Int.add_mul_ediv_left _ _ (by omega)]; omega
  · rw [e, Int.add_mul_emod_self_left]
theorem q_lt {B r lo d : Int} (hd : 0 < d) (h0 : 0 ≤ r) (h1 : r < d) (h2 : 0 ≤ lo) (h3 : lo < B) : 0 ≤ (r * B + lo) / d ∧ (r * B + lo) / d < B ∧ 0 ≤ r * B + lo := by
  have h4 : 0 ≤ r * B := Int.mul_nonneg h0 (by omega)
  have h5 : (r + 1) * B ≤ d * B := Int.mul_le_mul_of_nonneg_right (by omega) (by omega)
  rw [Int.add_mul, Int.one_mul] at h5
  refine ⟨Int.ediv_nonneg (by omega) (by omega), Int.ediv_lt_of_lt_mul hd ?_, by omega⟩
  have h6 := Int.mul_comm d B
  omega
set_option maxHeartbeats 8000000 in
theorem divrem_limb_ok {wd : World} {l : Addr} {o : Obj} {x d w : Int} {u v : Tok} (hw : WOk w) (ho : Lm w x o) (hd0 : 0 < d) (hd1 : d < 2 ^ w.toNat) : Spec wd 100 2 [.ref l, .int d v, .int w u] (fun h => h.get? l = some o) (OutPairInt w (x / d) (x % d)) := by
  refine' Spec.byQ (ns := [Str.ofString "a", Str.ofString "limb", Str.ofString "w", Str.ofString "found", Str.ofString "rest", Str.ofString "at"]) (sl := [some (.ref l), some (.int d v), some (.int w u), none, none, none]) [(Str.ofString "a", .ref l), (Str.ofString "limb", .int d v), (Str.ofString "w", .int w u)] [Str.ofString "found", Str.ofString "rest", Str.ofString "at"] [Str.ofString "DivisionByZero", Str.ofString "len", Str.ofString "range", Str.ofString "normal"] ?ho ?hcd ?hbind ?hloc ?hco ?hgen ?hk ?hcell ?hns ?hsl ?hS ?hG ?_
  walk_at "mine sides"
  intro p loose mean mg mb dp un gd outer A₀ base g L s B F X N T hcs hS hG hpl hd hu Q hQ
  have hB := base_le hw
  have hw1 := hw.1
  have hw2 := hw.2
  have hdz : ¬ d = 0 := by omega
  have hp := base_pos w
  rcases id ho with ⟨rfl, n', rfl⟩ | ⟨h2, h3, t', n', rfl⟩ | ⟨lo, hi, t', t'', n', rfl, h2, h3, h4, h5, rfl⟩
  · have hl : g.IsList l #[] := ⟨_, hpl, rfl, _, rfl⟩
    k_steps
    try dsimp only
    refine hQ _ _ ?_; refine done_pairint rfl (by assumption) (by assumption) (.head _) (.tail _ (.head _)) ?_ (by simp)
    rw [Int.zero_ediv]; exact lm_of_strip0 ⟨_, _, rfl, by assumption⟩
  · have hl : g.IsList l #[.int x t'] := ⟨_, hpl, rfl, _, rfl⟩
    k_steps
    try dsimp only
    refine hQ _ _ ?_; refine done_pairint rfl (by assumption) (by assumption) (.head _) (.tail _ (.head _)) (lm_of_strip1 ?_ ?_ ⟨_, _, rfl, by assumption⟩) rfl
    · exact Int.ediv_nonneg (by omega) (by omega)
    · exact Int.lt_of_le_of_lt (Int.ediv_le_self _ (by omega)) h3
  · have hl : g.IsList l #[.int lo t', .int hi t''] := ⟨_, hpl, rfl, _, rfl⟩
    have r0 := Int.emod_nonneg hi hdz
    have r1 := Int.emod_lt_of_pos hi hd0
    have hq := q_lt hd0 r0 r1 h2 h3
    have hm := dm_two (B := 2 ^ w.toNat) (hi := hi) (lo := lo) hd0
    k_steps
    try dsimp only
    refine hQ _ _ ?_; refine done_pairint rfl (by assumption) (by assumption) (.head _) (.tail _ (.head _)) (lm_of_strip2 (lo := (hi % d * 2 ^ w.toNat + lo) / d) (hi := hi / d) hq.1 hq.2.1 ?_ ?_ hm.1 ⟨_, _, rfl, by assumption⟩) hm.2.symm
    · exact Int.ediv_nonneg (by omega) (by omega)
    · exact Int.lt_of_le_of_lt (Int.ediv_le_self _ (by omega)) h5


theorem half_base {w : Int} (hw : WOk w) : (2 : Int) ^ w.toNat = 2 * 2 ^ (w - 1).toNat := by
  rcases hw.cases with rfl | rfl | rfl | rfl <;> decide
theorem shr_two {B H lo hi : Int} (hB : B = 2 * H) (h0 : 0 ≤ lo) (h1 : lo < B) (h2 : 0 ≤ hi) : (hi * B + lo) / 2 = hi / 2 * B + (hi * H + lo / 2) % B := by
  have e1 : hi * B = 2 * (hi * H) := by rw [hB, ← Int.mul_assoc, Int.mul_comm hi 2, Int.mul_assoc]
  have e2 : (hi * B + lo) / 2 = hi * H + lo / 2 := by omega
  rw [e2]
  have e3 : hi * H = hi / 2 * B + hi % 2 * H := by
    have h := Int.mul_ediv_add_emod hi 2
    have h3 : (2 * (hi / 2) + hi % 2) * H = hi * H := by rw [h]
    rw [Int.add_mul] at h3
    have h4 : hi / 2 * B = 2 * (hi / 2) * H := by rw [hB, ← Int.mul_assoc, Int.mul_comm (hi / 2) 2]
    omega
  have hm : hi % 2 = 0 ∨ hi % 2 = 1 := by omega
  have h5 : 0 ≤ hi % 2 * H + lo / 2 ∧ hi % 2 * H + lo / 2 < B := by
    rcases hm with hm | hm
    · rw [hm]; omega
    · rw [hm]; omega
  have h6 : (hi * H + lo / 2) % B = hi % 2 * H + lo / 2 := by
    rw [e3, show hi / 2 * B + hi % 2 * H + lo / 2 = (hi % 2 * H + lo / 2) + B * (hi / 2) by rw [Int.mul_comm B]; omega, Int.add_mul_emod_self_left, Int.emod_eq_of_lt h5.1 h5.2]
  rw [h6]; omega
set_option maxHeartbeats 8000000 in
theorem shift_right_ok {wd : World} {l : Addr} {o : Obj} {x w : Int} {u v : Tok} (hw : WOk w) (ho : Lm w x o) : Spec wd 114 2 [.ref l, .int 1 v, .int w u] (fun h => h.get? l = some o) (OutLm w (x / 2)) := by
  refine' Spec.byQ (ns := [Str.ofString "a", Str.ofString "n", Str.ofString "w", Str.ofString "spots", Str.ofString "few", Str.ofString "found", Str.ofString "mask", Str.ofString "at", Str.ofString "above"]) (sl := [some (.ref l), some (.int 1 v), some (.int w u), none, none, none, none, none, none]) [(Str.ofString "a", .ref l), (Str.ofString "n", .int 1 v), (Str.ofString "w", .int w u)] [Str.ofString "spots", Str.ofString "few", Str.ofString "found", Str.ofString "mask", Str.ofString "at", Str.ofString "above"] [Str.ofString "range", Str.ofString "len", Str.ofString "normal"] ?ho ?hcd ?hbind ?hloc ?hco ?hgen ?hk ?hcell ?hns ?hsl ?hS ?hG ?_
  walk_at "mine sides"
  intro p loose mean mg mb dp un gd outer A₀ base g L s B F X N T hcs hS hG hpl hd hu Q hQ
  have hB := base_le hw
  have hw1 := hw.1
  have hw2 := hw.2
  have hH := half_base hw
  have hp := base_pos w
  k_steps
  rcases id ho with ⟨rfl, n', rfl⟩ | ⟨h2, h3, t', n', rfl⟩ | ⟨lo, hi, t', t'', n', rfl, h2, h3, h4, h5, rfl⟩
  · have hl : g.IsList l #[] := ⟨_, hpl, rfl, _, rfl⟩
    k_steps
    try dsimp only
    refine hQ _ _ ?_; refine done_lm rfl (by assumption) (by assumption) (.head _) ?_
    exact lm_of_strip0 ⟨_, _, rfl, by assumption⟩
  · have hl : g.IsList l #[.int x t'] := ⟨_, hpl, rfl, _, rfl⟩
    have e : (0 * 2 ^ (w - 1).toNat + x / 2) % 2 ^ w.toNat = x / 2 := by rw [Int.zero_mul, Int.zero_add]; exact mod_base (by omega) (by omega)
    k_steps
    try dsimp only
    refine hQ _ _ ?_; refine done_lm rfl (by assumption) (by assumption) (.head _) (lm_of_strip1 ?_ ?_ ⟨_, _, rfl, ?_⟩)
    · omega
    · omega
    · rw [← e]; assumption
  · have hl : g.IsList l #[.int lo t', .int hi t''] := ⟨_, hpl, rfl, _, rfl⟩
    have e : (0 * 2 ^ (w - 1).toNat + hi / 2) % 2 ^ w.toNat = hi / 2 := by rw [Int.zero_mul, Int.zero_add]; exact mod_base (by omega) (by omega)
    k_steps
    try dsimp only
    refine hQ _ _ ?_; refine done_lm rfl (by assumption) (by assumption) (.head _) (lm_of_strip2 (lo := (hi * 2 ^ (w - 1).toNat + lo / 2) % 2 ^ w.toNat) (hi := hi / 2) mod_base_nonneg mod_base_lt ?_ ?_ (shr_two hH h2 h3 (by omega)) ⟨_, _, rfl, ?_⟩)
    · omega
    · omega
    · rw [← e]; assumption

section

local macro_rules | `(tactic| walk_at "exec For Tuple Call cons nil") => `(tactic| ((rename Fr _ _ _ _ => lF'); (with_unfolding_all refine' For_turns lF' ?_); k_whole))
local macro_rules | `(tactic| walk_at "call type:enumerate") => alts [rule 'u' `enum1 "fAAA" 1 "mine il", rule 'u' `enum0 "fAAA" 1 "mine il"]
local macro_rules | `(tactic| walk_at "mine il") => `(tactic| (intro i' l1; (try k_lt l1)))
local macro_rules | `(tactic| walk_at "ItemsRest") => `(tactic| first
  | ((with_unfolding_all refine ItemsRest.pair (fun T' t' h' tk' hT' F' => ?_)); (try dsimp only at hT'); ktu_objs; (rename News _ _ _ _ => N9); (replace N9 := news_locals N9); (replace F' := fr_locals F'))
  | ((with_unfolding_all refine ItemsRest.zero (fun h' tk' F' N' => ?_)); (replace N' := news_locals N'); (replace F' := fr_locals F')))


set_option maxHeartbeats 8000000 in
theorem mul_school_ok {wd : World} {l k : Addr} {o q : Obj} {x y w : Int} {u : Tok} (hw : WOk w) (ho : Lm w x o) (hx : x < 2 ^ w.toNat) (hq : Lm w y q) (hy : y < 2 ^ w.toNat) : Spec wd 226 2 [.ref l, .ref k, .int w u] (fun h => h.get? l = some o ∧ h.get? k = some q) (OutLm w (x * y)) := by
  refine' Spec.byQ (ns := [Str.ofString "a", Str.ofString "b", Str.ofString "w", Str.ofString "found", Str.ofString "mask", Str.ofString "at", Str.ofString "limb", Str.ofString "carry", Str.ofString "spot", Str.ofString "other"]) (sl := [some (.ref l), some (.ref k), some (.int w u), none, none, none, none, none, none, none]) [(Str.ofString "a", .ref l), (Str.ofString "b", .ref k), (Str.ofString "w", .int w u)] [Str.ofString "found", Str.ofString "mask", Str.ofString "at", Str.ofString "limb", Str.ofString "carry", Str.ofString "spot", Str.ofString "other"] [Str.ofString "len", Str.ofString "enumerate", Str.ofString "normal"] ?ho ?hcd ?hbind ?hloc ?hco ?hgen ?hk ?hcell ?hns ?hsl ?hS ?hG ?_
  walk_at "mine sides"
  intro p loose mean mg mb dp un gd outer A₀ base g L s B F X N T hcs hS hG ⟨hpl, hpk⟩ hd hu Q hQ
  have hB := base_le hw
  have hw1 := hw.1
  have hw2 := hw.2
  have hp := base_pos w
  rcases ho.small hx with ⟨rfl, n', rfl⟩ | ⟨h2, h3, t', n', rfl⟩
  · have hl : g.IsList l #[] := ⟨_, hpl, rfl, _, rfl⟩
    rcases hq.small hy with ⟨rfl, n, rfl⟩ | ⟨h0, h1, t, n, rfl⟩
    · have hk : g.IsList k #[] := ⟨_, hpk, rfl, _, rfl⟩
      k_steps
      try dsimp only
      refine hQ _ _ ?_; refine done_lm rfl (by assumption) (by assumption) (.head _) ?_
      rw [Int.zero_mul]; exact lm_of_strip0 ⟨_, _, rfl, by assumption⟩
    · have hk : g.IsList k #[.int y t] := ⟨_, hpk, rfl, _, rfl⟩
      k_steps
      try dsimp only
      refine hQ _ _ ?_; refine done_lm rfl (by assumption) (by assumption) (.head _) ?_
      rw [Int.zero_mul]; exact lm_of_strip1 (by omega) (by omega) ⟨_, _, rfl, by assumption⟩
  · have hl : g.IsList l #[.int x t'] := ⟨_, hpl, rfl, _, rfl⟩
    rcases hq.small hy with ⟨rfl, n, rfl⟩ | ⟨h0, h1, t, n, rfl⟩
    · have hk : g.IsList k #[] := ⟨_, hpk, rfl, _, rfl⟩
      k_steps
      try dsimp only
      refine hQ _ _ ?_; refine done_lm rfl (by assumption) (by assumption) (.head _) ?_
      rw [Int.mul_zero]; exact lm_of_strip1 (by omega) (by omega) ⟨_, _, rfl, by assumption⟩
    · have hk : g.IsList k #[.int y t] := ⟨_, hpk, rfl, _, rfl⟩
      k_steps
      have h6 : 0 ≤ x * y := Int.mul_nonneg (by omega) (by omega)
      have h7 : x * y < 2 ^ w.toNat * 2 ^ w.toNat := Int.mul_lt_mul h3 (by omega) (by omega) (by omega)
      try dsimp only
      refine hQ _ _ ?_; exact done_lm rfl (by assumption) (by assumption) (.head _) (lm_of_strip2 (lo := x * y % 2 ^ w.toNat) (hi := x * y / 2 ^ w.toNat) mod_base_nonneg mod_base_lt (div_base_nonneg h6) (div_lt_base h7) div_mod_base ⟨_, _, rfl, by rw [show x * y = 0 + x * y by omega]; assumption⟩)

end

local macro_rules | `(tactic| walk_at "call ref") => callLine 93 `use_lm `sub_ok "aaann" "tt"
local macro_rules | `(tactic| walk_at "call ref") => callLine 100 `use_pairint `divrem_limb_ok "aann" "t"
local macro_rules | `(tactic| walk_at "call ref") => callLine 114 `use_lm `shift_right_ok "aa" "t"
local macro_rules | `(tactic| walk_at "call ref") => callLine 226 `use_lm `mul_school_ok "aanan" "tt"
local macro_rules | `(tactic| walk_at "call ref") => callLine 86 `use_lm `add_ok "aanan" "tt"
local macro_rules | `(tactic| walk_at "call ref") => callLine 65 `use_lm `nat_of_ok "ann" ""
local macro_rules | `(tactic| walk_at "call ref") => callLine 72 `use_bool `is_even_ok "an" "t"
local macro_rules | `(tactic| walk_at "call ref") => callLine 121 `use_int `bits_ok "an" "t"
local macro_rules | `(tactic| walk_at "call ref") => callLine 128 `use_int `bit_ok "aannnn" "t"


set_option maxHeartbeats 8000000 in
theorem divrem_small_ok {wd : World} {l k : Addr} {o q : Obj} {x y w : Int} {u : Tok} (hw : WOk w) (ho : Lm w x o) (hq : Lm w y q) (h0 : 0 < y) (h1 : y < 2 ^ w.toNat) : Spec wd 233 3 [.ref l, .ref k, .int w u] (fun h => h.get? l = some o ∧ h.get? k = some q) (OutPairLm w (x / y) (x % y)) := by
  refine' Spec.byQ (ns := [Str.ofString "a", Str.ofString "b", Str.ofString "w", Str.ofString "quotient", Str.ofString "rest"]) (sl := [some (.ref l), some (.ref k), some (.int w u), none, none]) [(Str.ofString "a", .ref l), (Str.ofString "b", .ref k), (Str.ofString "w", .int w u)] [Str.ofString "quotient", Str.ofString "rest"] [Str.ofString "divrem_limb"] ?ho ?hcd ?hbind ?hloc ?hco ?hgen ?hk ?hcell ?hns ?hsl ?hS ?hG ?_
  walk_at "mine sides"
  intro p loose mean mg mb dp un gd outer A₀ base g L s B F X N T hcs hS hG ⟨hpl, hpk⟩ hd hu Q hQ
  rcases hq.small h1 with ⟨rfl, n, rfl⟩ | ⟨_, _, t, n, rfl⟩
  · exfalso; omega
  · have hk : g.IsList k #[.int y t] := ⟨_, hpk, rfl, _, rfl⟩
    have r0 := Int.emod_nonneg x (show y ≠ 0 by omega)
    have r1 := Int.emod_lt_of_pos x h0
    rcases (show x % y = 0 ∨ 0 < x % y by omega) with hr | hr
    · k_steps
      try dsimp only
      refine hQ _ _ ?_; refine done_pairlm rfl (by assumption) (by assumption) (.head _) (by k_mem) (by k_mem) (by assumption) ?_
      exact .inl ⟨hr, _, rfl⟩
    · k_steps
      try dsimp only
      refine hQ _ _ ?_; refine done_pairlm rfl (by assumption) (by assumption) (.head _) (by k_mem) (by k_mem) (by assumption) ?_
      exact .inr (.inl ⟨hr, by omega, _, _, rfl⟩)

local macro_rules | `(tactic| walk_at "call ref") => callLine 233 `use_pairlm `divrem_small_ok "aaann" "tt"


set_option maxHeartbeats 8000000 in
theorem divrem_school_ok {wd : World} {l k : Addr} {o q : Obj} {x y w : Int} {u : Tok} (hw : WOk w) (ho : Lm w x o) (hq : Lm w y q) (h0 : 0 < y) (h1 : y < 2 ^ w.toNat) : Spec wd 268 4 [.ref l, .ref k, .int w u] (fun h => h.get? l = some o ∧ h.get? k = some q) (OutPairLm w (x / y) (x % y)) := by
  refine' Spec.byQ (ns := [Str.ofString "a", Str.ofString "b", Str.ofString "w", Str.ofString "shift", Str.ofString "divisor", Str.ofString "rest", Str.ofString "quotient"]) (sl := [some (.ref l), some (.ref k), some (.int w u), none, none, none, none]) [(Str.ofString "a", .ref l), (Str.ofString "b", .ref k), (Str.ofString "w", .int w u)] [Str.ofString "shift", Str.ofString "divisor", Str.ofString "rest", Str.ofString "quotient"] [Str.ofString "len", Str.ofString "DivisionByZero", Str.ofString "compare", Str.ofString "divrem_small", Str.ofString "bits", Str.ofString "shift_left", Str.ofString "divide_rows", Str.ofString "normal", Str.ofString "shift_right"] ?ho ?hcd ?hbind ?hloc ?hco ?hgen ?hk ?hcell ?hns ?hsl ?hS ?hG ?_
  walk_at "mine sides"
  intro p loose mean mg mb dp un gd outer A₀ base g L s B F X N T hcs hS hG ⟨hpl, hpk⟩ hd hu Q hQ
  rcases hq.small h1 with ⟨rfl, n, rfl⟩ | ⟨_, _, t, n, rfl⟩
  · exfalso; omega
  · have hk : g.IsList k #[.int y t] := ⟨_, hpk, rfl, _, rfl⟩
    rcases (show x < y ∨ y ≤ x by omega) with hr | hr
    · have hsg := sgn_pos hr
      rcases ho.small (by omega) with ⟨rfl, n', rfl⟩ | ⟨h2, h3, t', n', rfl⟩
      · have hl : g.IsList l #[] := ⟨_, hpl, rfl, _, rfl⟩
        k_steps
        try dsimp only
        refine hQ _ _ ?_; refine done_pairlm rfl (by assumption) (by assumption) (.head _) (by k_mem) (by k_mem) (.inl ⟨by simp, _, rfl⟩) (.inl ⟨by simp, _, rfl⟩)
      · have hl : g.IsList l #[.int x t'] := ⟨_, hpl, rfl, _, rfl⟩
        k_steps
        try dsimp only
        refine hQ _ _ ?_
        rw [Int.ediv_eq_zero_of_lt (by omega) hr, Int.emod_eq_of_lt (by omega) hr]
        refine done_pairlm rfl (by assumption) (by assumption) (.head _) (by k_mem) (by k_mem) (.inl ⟨rfl, _, rfl⟩) (.inr (.inl ⟨by omega, by omega, _, _, rfl⟩))
    · have hsg := sgn_neg hr
      k_steps
      try dsimp only
      refine hQ _ _ ?_; refine done_pairlm rfl (by assumption) (by assumption) (.head _) (by k_mem) (by k_mem) (by assumption) (by assumption)

local macro_rules | `(tactic| walk_at "call ref") => callLine 268 `use_pairlm `divrem_school_ok "aaann" "tt"


set_option maxHeartbeats 8000000 in
theorem check_odd_ok {wd : World} {l : Addr} {o : Obj} {n w : Int} (ho : Lm w n o) (h0 : 1 < n) (h1 : n < 2 ^ w.toNat) (h2 : n % 2 = 1) : Spec wd 135 12 [.ref l] (fun h => h.get? l = some o) OutNone := by
  refine' Spec.byQ (ns := [Str.ofString "n"]) (sl := [some (.ref l)]) [(Str.ofString "n", .ref l)] [] [Str.ofString "is_even", Str.ofString "OutOfRange"] ?ho ?hcd ?hbind ?hloc ?hco ?hgen ?hk ?hcell ?hns ?hsl ?hS ?hG ?_
  walk_at "mine sides"
  intro p loose mean mg mb dp un gd outer A₀ base g L s B F X N T hcs hS hG hpl hd hu Q hQ
  have h3 : ¬ n % 2 = 0 := by omega
  have h4 : ¬ n = 1 := by omega
  have h5 : (1 : Int) < 2 ^ w.toNat := by omega
  k_steps
  try dsimp only
  refine hQ _ _ ?_; exact done_none rfl (by assumption)
set_option maxHeartbeats 8000000 in
theorem signed_rest_ok {wd : World} {l : Addr} {o : Obj} {v n w : Int} {t u : Tok} (hw : WOk w) (ho : Lm w n o) (h0 : 0 < n) (h1 : n < 2 ^ w.toNat) (hv : -1000 < v) (hv2 : v < 1000) : Spec wd 142 13 [.int v t, .ref l, .int w u, .ref 268] (fun h => h.get? l = some o) (OutLm w (v % n)) := by
  refine' Spec.byQ (ns := [Str.ofString "number", Str.ofString "n", Str.ofString "w", Str.ofString "divrem", Str.ofString "rest"]) (sl := [some (.int v t), some (.ref l), some (.int w u), some (.ref 268), none]) [(Str.ofString "number", .int v t), (Str.ofString "n", .ref l), (Str.ofString "w", .int w u), (Str.ofString "divrem", .ref 268)] [Str.ofString "rest"] [Str.ofString "nat_of", Str.ofString "abs", Str.ofString "sub"] ?ho ?hcd ?hbind ?hloc ?hco ?hgen ?hk ?hcell ?hns ?hsl ?hS ?hG ?_
  walk_at "mine sides"
  intro p loose mean mg mb dp un gd outer A₀ base g L s B F X N T hcs hS hG hpl hd hu Q hQ
  have hB := base_le hw
  have hBB := two_base_le hw
  have hB4 : 4096 ≤ (2 : Int) ^ w.toNat * 2 ^ w.toNat := by rcases hw.cases with rfl | rfl | rfl | rfl <;> decide
  have hr := @srest_neg v n h0
  have r0 := Int.emod_nonneg (-v) (show n ≠ 0 by omega)
  have r1 := Int.emod_lt_of_pos (-v) h0
  have r2 := Int.emod_nonneg v (show n ≠ 0 by omega)
  have r3 := Int.emod_lt_of_pos v h0
  rcases (show v < 0 ∨ 0 ≤ v by omega) with hs | hs
  · rcases (show (-v) % n = 0 ∨ (-v) % n ≠ 0 by omega) with hz | hz
    · k_steps
      try dsimp only
      refine hQ _ _ ?_; refine done_lm rfl (by assumption) (by assumption) (by k_mem) ?_
      rw [hr.1 hz, ← hz]; assumption
    · k_steps
      try dsimp only
      refine hQ _ _ ?_; refine done_lm rfl (by assumption) (by assumption) (by k_mem) ?_
      rw [← hr.2 hz]; assumption
  · k_steps
    try dsimp only
    refine hQ _ _ ?_; exact done_lm rfl (by assumption) (by assumption) (by k_mem) (by assumption)

local macro_rules | `(tactic| walk_at "call ref") => callLine 142 `use_lm `signed_rest_ok "aannnn" "t"
local macro_rules | `(tactic| walk_at "call ref") => callLine 135 `use_none `check_odd_ok "annn" "t"


set_option maxHeartbeats 8000000 in
theorem product_ok {wd : World} {rg ro a b : Addr} {on oa ob : Obj} {x y n w : Int} (hw : WOk w) (hn : Lm w n on) (h0 : 0 < n) (h1 : n < 2 ^ w.toNat) (hx : Lm w x oa) (hx1 : x < n) (hy : Lm w y ob) (hy1 : y < n) :
    Spec wd 177 14 [.ref rg, .ref a, .ref b] (fun h => RingH w rg ro h ∧ h.get? ro = some on ∧ h.get? a = some oa ∧ h.get? b = some ob) (OutLm w (x * y % n)) := by
  refine' Spec.byQ (ns := [Str.ofString "self", Str.ofString "x", Str.ofString "y"]) (sl := [some (.ref rg), some (.ref a), some (.ref b)]) [(Str.ofString "self", .ref rg), (Str.ofString "x", .ref a), (Str.ofString "y", .ref b)] [] [] ?ho ?hcd ?hbind ?hloc ?hco ?hgen ?hk ?hcell ?hns ?hsl ?hS ?hG ?_
  walk_at "mine sides"
  intro p loose mean mg mb dp un gd outer A₀ base g L s B F X N T hcs hS hG ⟨⟨dx, h1', h2', h3', h4', t1, t2, t3, t4, tw, ep, I⟩, hpn, hpa, hpb⟩ hd hu Q hQ
  k_steps
  try dsimp only
  refine hQ _ _ ?_; exact done_lm rfl (by assumption) (by assumption) (by k_mem) (by assumption)

theorem sgn_nonneg {x y : Int} (h : y ≤ x) : 0 ≤ sgn x y := by
  unfold sgn; rw [if_neg (by omega)]; split <;> omega
theorem sgn_not {x y : Int} (h : x < y) : ¬ 0 ≤ sgn x y := by
  unfold sgn; rw [if_pos h]; omega
set_option maxHeartbeats 8000000 in
theorem plus_ok {wd : World} {rg ro a b : Addr} {on oa ob : Obj} {x y n w : Int} (hw : WOk w) (hn : Lm w n on) (h0 : 0 < n) (h1 : n < 2 ^ w.toNat) (hx : Lm w x oa) (hx1 : x < n) (hy : Lm w y ob) (hy1 : y < n) :
    Spec wd 163 14 [.ref rg, .ref a, .ref b] (fun h => RingH w rg ro h ∧ h.get? ro = some on ∧ h.get? a = some oa ∧ h.get? b = some ob) (OutLm w ((x + y) % n)) := by
  refine' Spec.byQ (ns := [Str.ofString "self", Str.ofString "x", Str.ofString "y", Str.ofString "found"]) (sl := [some (.ref rg), some (.ref a), some (.ref b), none]) [(Str.ofString "self", .ref rg), (Str.ofString "x", .ref a), (Str.ofString "y", .ref b)] [Str.ofString "found"] [Str.ofString "add", Str.ofString "compare", Str.ofString "sub"] ?ho ?hcd ?hbind ?hloc ?hco ?hgen ?hk ?hcell ?hns ?hsl ?hS ?hG ?_
  walk_at "mine sides"
  intro p loose mean mg mb dp un gd outer A₀ base g L s B F X N T hcs hS hG ⟨⟨dx, h1', h2', h3', h4', t1, t2, t3, t4, tw, ep, I⟩, hpn, hpa, hpb⟩ hd hu Q hQ
  have x0 := hx.nonneg
  have y0 := hy.nonneg
  rcases (show x + y < n ∨ n ≤ x + y by omega) with hc | hc
  · have hsg := sgn_not hc
    k_steps
    try dsimp only
    refine hQ _ _ ?_; refine done_lm rfl (by assumption) (by assumption) (by k_mem) ?_
    rw [Int.emod_eq_of_lt (by omega) hc]; assumption
  · have hsg := sgn_nonneg hc
    k_steps
    try dsimp only
    refine hQ _ _ ?_; refine done_lm rfl (by assumption) (by assumption) (by k_mem) ?_
    rw [← Int.sub_emod_right, Int.emod_eq_of_lt (by omega) (by omega)]; assumption
set_option maxHeartbeats 8000000 in
theorem minus_ok {wd : World} {rg ro a b : Addr} {on oa ob : Obj} {x y n w : Int} (hw : WOk w) (hn : Lm w n on) (h0 : 0 < n) (h1 : n < 2 ^ w.toNat) (hx : Lm w x oa) (hx1 : x < n) (hy : Lm w y ob) (hy1 : y < n) :
    Spec wd 170 14 [.ref rg, .ref a, .ref b] (fun h => RingH w rg ro h ∧ h.get? ro = some on ∧ h.get? a = some oa ∧ h.get? b = some ob) (OutLm w ((x - y) % n)) := by
  refine' Spec.byQ (ns := [Str.ofString "self", Str.ofString "x", Str.ofString "y"]) (sl := [some (.ref rg), some (.ref a), some (.ref b)]) [(Str.ofString "self", .ref rg), (Str.ofString "x", .ref a), (Str.ofString "y", .ref b)] [] [Str.ofString "compare", Str.ofString "sub", Str.ofString "add"] ?ho ?hcd ?hbind ?hloc ?hco ?hgen ?hk ?hcell ?hns ?hsl ?hS ?hG ?_
  walk_at "mine sides"
  intro p loose mean mg mb dp un gd outer A₀ base g L s B F X N T hcs hS hG ⟨⟨dx, h1', h2', h3', h4', t1, t2, t3, t4, tw, ep, I⟩, hpn, hpa, hpb⟩ hd hu Q hQ
  have x0 := hx.nonneg
  have y0 := hy.nonneg
  rcases (show x < y ∨ y ≤ x by omega) with hc | hc
  · have hsg := sgn_not hc
    k_steps
    try dsimp only
    refine hQ _ _ ?_; refine done_lm rfl (by assumption) (by assumption) (by k_mem) ?_
    rw [← Int.add_emod_right, show x - y + n = x + n - y by omega, Int.emod_eq_of_lt (by omega) (by omega)]; assumption
  · have hsg := sgn_nonneg hc
    k_steps
    try dsimp only
    refine hQ _ _ ?_; refine done_lm rfl (by assumption) (by assumption) (by k_mem) ?_
    rw [Int.emod_eq_of_lt (by omega) (by omega)]; assumption
set_option maxHeartbeats 8000000 in
theorem half_ok {wd : World} {rg ro a : Addr} {on oa : Obj} {x n w : Int} (hw : WOk w) (hn : Lm w n on) (h0 : 0 < n) (h1 : n < 2 ^ w.toNat) (hx : Lm w x oa) (hx1 : x < n) :
    Spec wd 184 14 [.ref rg, .ref a] (fun h => RingH w rg ro h ∧ h.get? ro = some on ∧ h.get? a = some oa) (OutLm w (if x % 2 = 0 then x / 2 else (x + n) / 2)) := by
  refine' Spec.byQ (ns := [Str.ofString "self", Str.ofString "x"]) (sl := [some (.ref rg), some (.ref a)]) [(Str.ofString "self", .ref rg), (Str.ofString "x", .ref a)] [] [Str.ofString "shift_right", Str.ofString "is_even", Str.ofString "add"] ?ho ?hcd ?hbind ?hloc ?hco ?hgen ?hk ?hcell ?hns ?hsl ?hS ?hG ?_
  walk_at "mine sides"
  intro p loose mean mg mb dp un gd outer A₀ base g L s B F X N T hcs hS hG ⟨⟨dx, h1', h2', h3', h4', t1, t2, t3, t4, tw, ep, I⟩, hpn, hpa⟩ hd hu Q hQ
  have x0 := hx.nonneg
  rcases (show x % 2 = 0 ∨ ¬ x % 2 = 0 by omega) with hc | hc
  · k_steps
    try dsimp only
    refine hQ _ _ ?_; refine done_lm rfl (by assumption) (by assumption) (by k_mem) ?_
    rw [if_pos hc]; assumption
  · k_steps
    try dsimp only
    refine hQ _ _ ?_; refine done_lm rfl (by assumption) (by assumption) (by k_mem) ?_
    rw [if_neg hc]; assumption

local macro_rules | `(tactic| walk_at "call ref") => callLine 177 `use_res `product_ok "aannanan" "rttt" (res := true)
local macro_rules | `(tactic| walk_at "call ref") => callLine 163 `use_res `plus_ok "aannanan" "rttt" (res := true)
local macro_rules | `(tactic| walk_at "call ref") => callLine 170 `use_res `minus_ok "aannanan" "rttt" (res := true)
local macro_rules | `(tactic| walk_at "call ref") => callLine 184 `use_lm `half_ok "aannan" "rtt"


set_option maxHeartbeats 8000000 in
theorem pair_product_ok {wd : World} {rg ro t1 t2 xa xb xc xd xp xq : Addr} {k1 k2 : Nat} {on oa ob oc od op oq : Obj} {a b c d p' q' n w : Int} (hw : WOk w) (hn : Lm w n on) (h0 : 0 < n) (h1 : n < 2 ^ w.toNat)
    (ha : Lm w a oa) (ha1 : a < n) (hb : Lm w b ob) (hb1 : b < n) (hc : Lm w c oc) (hc1 : c < n) (hd : Lm w d od) (hd1 : d < n) (hp : Lm w p' op) (hp1 : p' < n) (hq : Lm w q' oq) (hq1 : q' < n) :
    Spec wd 212 16 [.ref t1, .ref t2, .ref xp, .ref xq, .ref rg]
      (fun h => RingH w rg ro h ∧ h.get? ro = some on ∧ h.get? t1 = some (tupO #[.ref xa, .ref xb] k1) ∧ h.get? t2 = some (tupO #[.ref xc, .ref xd] k2) ∧ h.get? xa = some oa ∧ h.get? xb = some ob ∧ h.get? xc = some oc ∧ h.get? xd = some od ∧ h.get? xp = some op ∧ h.get? xq = some oq)
      (OutPairLm w (pm n p' q' (a, b) (c, d)).1 (pm n p' q' (a, b) (c, d)).2) := by
  refine' Spec.byQ (ns := [Str.ofString "one", Str.ofString "other", Str.ofString "p", Str.ofString "q", Str.ofString "ring", Str.ofString "high", Str.ofString "middle", Str.ofString "low"]) (sl := [some (.ref t1), some (.ref t2), some (.ref xp), some (.ref xq), some (.ref rg), none, none, none]) [(Str.ofString "one", .ref t1), (Str.ofString "other", .ref t2), (Str.ofString "p", .ref xp), (Str.ofString "q", .ref xq), (Str.ofString "ring", .ref rg)] [Str.ofString "high", Str.ofString "middle", Str.ofString "low"] [] ?ho ?hcd ?hbind ?hloc ?hco ?hgen ?hk ?hcell ?hns ?hsl ?hS ?hG ?_
  walk_at "mine sides"
  intro p loose mean mg mb dp un gd outer A₀ base g L s B F X N T hcs hS hG ⟨hR, hpn, hg1, hg2, hga, hgb, hgc, hgd, hgp, hgq⟩ hd hu Q hQ
  obtain ⟨dx, h1', h2', h3', h4', t1, t2, t3, t4, tw, ep, I⟩ := id hR
  k_steps
  try dsimp only
  refine hQ _ _ ?_; refine done_pairlm rfl (by assumption) (by assumption) (.head _) (by k_mem) (by k_mem) ?_ ?_
  · show Lm w ((a * c - q' * (b * d)) % n) _
    rw [← pm_low]; assumption
  · show Lm w ((a * d + b * c + p' * (b * d)) % n) _
    rw [← pm_high]; assumption

def mm (p q : Int) (x y : Int × Int) : Int × Int := (x.1 * y.1 - q * (x.2 * y.2), x.1 * y.2 + x.2 * y.1 + p * (x.2 * y.2))
def red (n : Int) (x : Int × Int) : Int × Int := (x.1 % n, x.2 % n)
theorem pm_red {n p q : Int} {x y : Int × Int} : pm n p q x y = red n (mm p q x y) := rfl
theorem emod_dvd {n a b : Int} (h : a % n = b % n) : ∃ k, a = b + n * k := ⟨a / n - b / n, by
  have h1 := Int.mul_ediv_add_emod a n
  have h2 := Int.mul_ediv_add_emod b n
  rw [Int.mul_sub]; omega⟩
theorem emod_of {n a b k : Int} (h : a = b + n * k) : a % n = b % n := by rw [h, Int.add_mul_emod_self_left]
theorem red_mm {n p q : Int} {x y : Int × Int} : red n (mm p q (red n x) (red n y)) = red n (mm p q x y) := by
  obtain ⟨a, b⟩ := x
  obtain ⟨c, d⟩ := y
  obtain ⟨i, hi⟩ := emod_dvd (n := n) (a := a % n) (b := a) (Int.emod_emod a n)
  obtain ⟨j, hj⟩ := emod_dvd (n := n) (a := b % n) (b := b) (Int.emod_emod b n)
  obtain ⟨k, hk⟩ := emod_dvd (n := n) (a := c % n) (b := c) (Int.emod_emod c n)
  obtain ⟨l, hl⟩ := emod_dvd (n := n) (a := d % n) (b := d) (Int.emod_emod d n)
  simp only [red, mm, hi, hj, hk, hl]
  refine Prod.ext (emod_of (k := a * k + i * c + n * i * k - q * (b * l + j * d + n * j * l)) ?_) (emod_of (k := a * l + i * d + n * i * l + (b * k + j * c + n * j * k) + p * (b * l + j * d + n * j * l)) ?_)
  · grind
  · grind
theorem mm_assoc {p q : Int} {x y z : Int × Int} : mm p q (mm p q x y) z = mm p q x (mm p q y z) := by
  obtain ⟨a, b⟩ := x
  obtain ⟨c, d⟩ := y
  obtain ⟨e, f⟩ := z
  simp only [mm]
  refine Prod.ext ?_ ?_
  · grind
  · grind
theorem red_red {n : Int} {x : Int × Int} : red n (red n x) = red n x := by simp [red, Int.emod_emod]
theorem pm_l {n p q : Int} {x y : Int × Int} : pm n p q (red n x) y = pm n p q x y := by
  rw [pm_red, pm_red, ← red_mm, red_red, red_mm]
theorem pm_r {n p q : Int} {x y : Int × Int} : pm n p q x (red n y) = pm n p q x y := by
  rw [pm_red, pm_red, ← red_mm, red_red, red_mm]
theorem pm_assoc {n p q : Int} {x y z : Int × Int} : pm n p q (pm n p q x y) z = pm n p q x (pm n p q y z) := by
  rw [pm_red (x := x) (y := y), pm_red (x := y) (y := z), pm_l, pm_r, pm_red, pm_red, mm_assoc]
theorem red_eq {n a b : Int} (h1 : 0 ≤ a) (h2 : a < n) (h3 : 0 ≤ b) (h4 : b < n) : red n (a, b) = (a, b) := by
  simp only [red, Int.emod_eq_of_lt h1 h2, Int.emod_eq_of_lt h3 h4]
theorem pm_one {n p q : Int} {x : Int × Int} : pm n p q (1, 0) x = red n x := by
  simp [pm, red]

theorem pm_lt {w n p q : Int} {x y : Int × Int} {o o' : Obj} (_ : Lm w (pm n p q x y).1 o) (_ : Lm w (pm n p q x y).2 o') (h0 : 0 < n) : (pm n p q x y).1 < n ∧ (pm n p q x y).2 < n :=
  ⟨Int.emod_lt_of_pos _ h0, Int.emod_lt_of_pos _ h0⟩
theorem bits_k {wd : World} {l : Addr} {o : Obj} {x w k : Int} {u : Tok} (ho : Lm w x o) (hx : x < 2 ^ w.toNat) (hk : (Builtin.Int.intBits x : Int) = k) : Spec wd 121 1 [.ref l, .int w u] (fun h => h.get? l = some o) (OutInt k) := by
  rw [← hk]; exact bits_ok ho hx

section
variable {n p q a b : Int}
theorem nestI (h : 1 < n) : pm n p q (1, 0) (1, 0) = (1, 0) := by rw [pm_one]; exact red_eq (by omega) h (by omega) (by omega)
theorem nestA (h1 : 0 ≤ a) (h2 : a < n) (h3 : 0 ≤ b) (h4 : b < n) : pm n p q (1, 0) (a, b) = (a, b) := by rw [pm_one]; exact red_eq h1 h2 h3 h4
theorem nest1 (h : 1 < n) (h1 : 0 ≤ a) (h2 : a < n) (h3 : 0 ≤ b) (h4 : b < n) : pm n p q (pm n p q (1, 0) (1, 0)) (a, b) = (a, b) := by rw [nestI h, nestA h1 h2 h3 h4]
theorem pw1 (h1 : 0 ≤ a) (h2 : a < n) (h3 : 0 ≤ b) (h4 : b < n) : pw n p q (a, b) 1 = (a, b) := nestA h1 h2 h3 h4
theorem pw2 (h1 : 0 ≤ a) (h2 : a < n) (h3 : 0 ≤ b) (h4 : b < n) : pw n p q (a, b) 2 = pm n p q (a, b) (a, b) := by
  show pm n p q (pw n p q (a, b) 1) (a, b) = _
  rw [pw1 h1 h2 h3 h4]
theorem pw4 (h1 : 0 ≤ a) (h2 : a < n) (h3 : 0 ≤ b) (h4 : b < n) : pw n p q (a, b) 4 = pm n p q (pm n p q (a, b) (a, b)) (pm n p q (a, b) (a, b)) := by
  show pm n p q (pm n p q (pw n p q (a, b) 2) (a, b)) (a, b) = _
  rw [pw2 h1 h2 h3 h4, pm_assoc (x := pm n p q (a, b) (a, b))]
end

def Stop (P : Prop) : Prop := P
theorem stop_here {P : Prop} (h : Stop P) : P := h
theorem news_sub {h₀ h : Heap} {L : Addr} {all l : List (Addr × Obj)} (N : News h₀ L h all) (h1 : SubL l all) : News h₀ L h l := fun p hp => N p (h1.mem p hp)
-- a loop over a range by an invariant of the frame and the ledger
section
variable {prog : Program} {w : World} {A : Around} {E : Value → Shared → Prop} {s : Shared} {env : Env} {h₀ : Heap} {x : Str} {body : List Stmt} {Q : Flow → Shared → Prop}
theorem krs_ind {I : Addr} {a c : Int} {n : Nat} {m₀ : Str → Option Value} {news₀ : List (Addr × Obj)} (J : Nat → (Str → Option Value) → List (Addr × Obj) → Prop) (h0 : J 0 m₀ news₀)
    (turn : ∀ (i : Nat) (v : Int) (t : Tok) (m : Str → Option Value) (news : List (Addr × Obj)) (it : Obj) (h : Heap) (tk : Nat), i < n → v = a + (i : Int) * c → it.cls = .type "range_iterator" → J i m news → Fr h₀ env.locals h (fun y => if y = x then some (.int v t) else m y) → News h₀ env.locals h ((I, it) :: news) →
      ∀ R : Flow → Shared → Prop, (∀ fl s', UnrPost h₀ env.locals { s with heap := h, toks := tk } I it (J (i + 1)) Q fl s' → R fl s') → wpAny (model prog w) A (execs body env) R E { s with heap := h, toks := tk })
    (done : ∀ (m : Str → Option Value) (news : List (Addr × Obj)) (h : Heap) (tk : Nat), J n m news → Fr h₀ env.locals h m → News h₀ env.locals h news → Q .next { s with heap := h, toks := tk }) :
    KrsRest prog w A E h₀ env x body Q s I a c n n 0 m₀ news₀ := by
  have key : ∀ (j i : Nat) (m : Str → Option Value) (news : List (Addr × Obj)), i + j = n → J i m news → KrsRest prog w A E h₀ env x body Q s I a c n j i m news := by
    intro j
    induction j with
    | zero =>
      intro i m news hi hJ
      have e : i = n := by omega
      subst e
      exact KrsRest.zero fun h tk F N => done m news h tk hJ F N
    | succ j ih =>
      intro i m news hi hJ
      refine KrsRest.succ rfl fun t h tk F N => ?_
      refine wpAny_mono (turn i _ t m news _ h tk (by omega) rfl rfl hJ F N _ fun _ _ x => x) (fun f s₂ p => ?_) fun _ _ e => e
      cases f with
      | ret v => exact p
      | brk => exact p
      | next =>
        obtain ⟨h', tk', m', news', e, F', N', ho, r⟩ := p
        exact ⟨h', tk', m', news', e, F', N', ho, ih (i + 1) m' news' (by omega) r⟩
      | cont =>
        obtain ⟨h', tk', m', news', e, F', N', ho, r⟩ := p
        exact ⟨h', tk', m', news', e, F', N', ho, ih (i + 1) m' news' (by omega) r⟩
  exact key n 0 m₀ news₀ (by omega) h0
end
theorem down_small {n : Nat} (h : n < 10) : Builtin.Range.small ((n : Int) - 1) (-1) (-1) = true := by
  rcases (show n = 0 ∨ n = 1 ∨ n = 2 ∨ n = 3 ∨ n = 4 ∨ n = 5 ∨ n = 6 ∨ n = 7 ∨ n = 8 ∨ n = 9 by omega) with rfl | rfl | rfl | rfl | rfl | rfl | rfl | rfl | rfl | rfl <;> decide
theorem down_size {n : Nat} (h : n < 10) : Builtin.Range.rangeSize ((n : Int) - 1) (-1) (-1) = (n : Int) := by
  rcases (show n = 0 ∨ n = 1 ∨ n = 2 ∨ n = 3 ∨ n = 4 ∨ n = 5 ∨ n = 6 ∨ n = 7 ∨ n = 8 ∨ n = 9 by omega) with rfl | rfl | rfl | rfl | rfl | rfl | rfl | rfl | rfl | rfl <;> decide
theorem bits6 {e : Int} (h0 : 0 ≤ e) (h1 : e < 6) : ∃ nb : Nat, ((Builtin.Int.intBits e : Nat) : Int) = (nb : Int) ∧ nb < 4 ∧ e.toNat < 2 ^ nb ∧ (e = 0 → nb = 0) ∧ (0 < e → 1 ≤ nb ∧ e.toNat / 2 ^ (nb - 1) = 1) := by
  rcases (show e = 0 ∨ e = 1 ∨ e = 2 ∨ e = 3 ∨ e = 4 ∨ e = 5 by omega) with rfl | rfl | rfl | rfl | rfl | rfl
  · exact ⟨0, by decide, by decide, by decide, by decide, by decide⟩
  · exact ⟨1, by decide, by decide, by decide, by decide, by decide⟩
  · exact ⟨2, by decide, by decide, by decide, by decide, by decide⟩
  · exact ⟨2, by decide, by decide, by decide, by decide, by decide⟩
  · exact ⟨3, by decide, by decide, by decide, by decide, by decide⟩
  · exact ⟨3, by decide, by decide, by decide, by decide, by decide⟩
theorem half_up {e m : Nat} : e / 2 ^ m = 2 * (e / 2 ^ (m + 1)) + e / 2 ^ m % 2 := by
  rw [Nat.pow_succ, ← Nat.div_div_eq_div_mul]; omega
theorem bit_nat {e : Int} (h0 : 0 ≤ e) (m : Nat) : e / 2 ^ m % 2 = ((e.toNat / 2 ^ m % 2 : Nat) : Int) := by
  obtain ⟨k, rfl⟩ := Int.eq_ofNat_of_zero_le h0
  rw [Int.toNat_natCast, Int.natCast_emod, Int.natCast_ediv, Int.natCast_pow]; rfl
section
variable {n p q : Int} {z : Int × Int}
theorem pw_red (h : 1 < n) : ∀ k, red n (pw n p q z k) = pw n p q z k
  | 0 => red_eq (by omega) h (by omega) (by omega)
  | k + 1 => by show red n (pm n p q (pw n p q z k) z) = pm n p q (pw n p q z k) z; rw [pm_red, red_red]
theorem pw_add (h : 1 < n) (a : Nat) : ∀ b, pm n p q (pw n p q z a) (pw n p q z b) = pw n p q z (a + b)
  | 0 => by
    show pm n p q (pw n p q z a) (1, 0) = pw n p q z a
    rw [← pw_red (k := a) h]
    simp [pm, red]
  | b + 1 => by
    show pm n p q (pw n p q z a) (pm n p q (pw n p q z b) z) = pm n p q (pw n p q z (a + b)) z
    rw [← pm_assoc, pw_add h a b]
theorem pw_dbl (h : 1 < n) (a : Nat) : pm n p q (pw n p q z a) (pw n p q z a) = pw n p q z (2 * a) := by
  rw [pw_add h, show a + a = 2 * a by omega]
theorem pw_inc (a : Nat) : pm n p q (pw n p q z a) z = pw n p q z (a + 1) := rfl
end
theorem pw_lt {n p q : Int} {z : Int × Int} (h : 1 < n) : ∀ k, (pw n p q z k).1 < n ∧ (pw n p q z k).2 < n
  | 0 => ⟨h, by show (0 : Int) < n; omega⟩
  | _ + 1 => ⟨Int.emod_lt_of_pos _ (by omega), Int.emod_lt_of_pos _ (by omega)⟩
theorem unr_end {h₀ : Heap} {L I : Addr} {it : Obj} {J : (Str → Option Value) → List (Addr × Obj) → Prop} {Q : Flow → Shared → Prop} {s₁ : Shared} {h' : Heap} {tk : Nat} {m' : Str → Option Value} {all : List (Addr × Obj)} (news' : List (Addr × Obj)) (F : Fr h₀ L h' m') (N : News h₀ L h' all)
    (hI : (I, it) ∈ all) (sub : SubL news' all) (off : ClsOff it news') (r : J m' news') : UnrPost h₀ L s₁ I it J Q .next { s₁ with heap := h', toks := tk } := UnrEnd.intro2 F N news' hI sub off r
-- a row of statements cut in two
theorem execs_cut {M : Model} {A : Around} {E : Value → Shared → Prop} {env : Env} {b2 : List Stmt} {Q : Flow → Shared → Prop} (b1 : List Stmt) {s : Shared}
    (h : wpAny M A (execs b1 env) (fun f s' => match f with | .next => wpAny M A (execs b2 env) Q E s' | f => Q f s') E s) : wpAny M A (execs (b1 ++ b2) env) Q E s := by
  intro Γ p hΓ
  have key : ∀ (b : List Stmt) (p : Pos) (s : Shared), Sem.wp M Γ (execs b env) (fun f _ s' => (match f with | .next => wpAny M A (execs b2 env) Q E s' | f => Q f s' : Prop)) (fun e _ s' => E e s') p s →
      Sem.wp M Γ (execs (b ++ b2) env) (fun f _ s' => Q f s') (fun e _ s' => E e s') p s := by
    intro b
    induction b with
    | nil =>
      intro p s h
      have h' : wpAny M A (execs b2 env) Q E s := h
      exact h' Γ p hΓ
    | cons st r ih =>
      intro p s h
      show Sem.wp M Γ (execs (st :: (r ++ b2)) env) _ _ p s
      rw [execs_cons, Sem.wp_bind'] at h ⊢
      refine Sem.wp_mono M Γ _ (fun f p' s' h' => ?_) (fun _ _ _ h' => h') _ _ h
      cases f with
      | next => exact ih p' s' h'
      | ret v => exact h'
      | brk => exact h'
      | cont => exact h'
  exact key b1 p s (h Γ p hΓ)
theorem execs_split {M : Model} {A : Around} {E : Value → Shared → Prop} {env : Env} {b : List Stmt} {Q : Flow → Shared → Prop} {s : Shared} (k : Nat) (P : Shared → Prop)
    (h1 : ∀ R : Flow → Shared → Prop, (∀ s', P s' → R .next s') → (∀ v s', Q (.ret v) s' → R (.ret v) s') → wpAny M A (execs (b.take k) env) R E s) (h2 : ∀ s', P s' → wpAny M A (execs (b.drop k) env) Q E s') : wpAny M A (execs b env) Q E s := by
  rw [← List.take_append_drop k b]
  refine execs_cut _ (wpAny_mono (h1 (fun f s' => match f with | .next => P s' | f => Q f s') (fun _ h => h) fun _ _ h => h) (fun f s' h => ?_) fun _ _ e => e)
  cases f with
  | next => exact h2 s' h
  | ret v => exact h
  | brk => exact h
  | cont => exact h

def L0 (n p q : Int) : Int × Int × Int := (1 % n, p, q)
def Ldbl (n : Int) (s : Int × Int × Int) : Int × Int × Int := (s.1 * s.2.1 % n, (s.2.1 * s.2.1 % n - (s.2.2 + s.2.2) % n) % n, s.2.2 * s.2.2 % n)
def hf (n x : Int) : Int := if x % 2 = 0 then x / 2 else (x + n) / 2
def Linc (n p d q : Int) (s : Int × Int × Int) : Int × Int × Int := (hf n ((p * s.1 % n + s.2.1) % n), hf n ((d * s.1 % n + p * s.2.1 % n) % n), s.2.2 * q % n)
def luc (n p q : Int) (z : Int × Int) : Int × Int × Int := (z.2, (2 * z.1 + p * z.2) % n, (z.1 * z.1 + p * z.1 * z.2 + q * z.2 * z.2) % n)
theorem em (a n : Int) : ∃ k, a % n = a + n * k := ⟨-(a / n), by
  have h := Int.mul_ediv_add_emod a n
  rw [Int.mul_neg]; omega⟩
theorem hf_of {n x y : Int} (hn : n % 2 = 1) (h0 : 0 < n) (h : x % n = (2 * y) % n) (h1 : 0 ≤ x) (h2 : x < n) : hf n x = y % n := by
  have e : x = (2 * y) % n := by rw [← h]; exact (Int.emod_eq_of_lt h1 h2).symm
  have hy := Int.mul_ediv_add_emod y n
  have r0 := Int.emod_nonneg y (show n ≠ 0 by omega)
  have r1 := Int.emod_lt_of_pos y h0
  have e2 : (2 * y) % n = (2 * (y % n)) % n := by
    rw [Int.mul_emod, Int.mul_emod 2 (y % n), Int.emod_emod]
  rw [e2] at e
  generalize y % n = r at *
  unfold hf
  rcases (show 2 * r < n ∨ n ≤ 2 * r by omega) with h3 | h3
  · rw [Int.emod_eq_of_lt (by omega) h3] at e
    rw [if_pos (by omega)]; omega
  · have e3 : (2 * r) % n = 2 * r - n := by
      rw [← Int.sub_emod_right, Int.emod_eq_of_lt (by omega) (by omega)]
    rw [e3] at e
    rw [if_neg (by omega)]; omega
theorem luc_dbl {n p q : Int} {z : Int × Int} : Ldbl n (luc n p q z) = luc n p q (pm n p q z z) := by
  obtain ⟨a, b⟩ := z
  simp only [Ldbl, luc, pm]
  obtain ⟨i, hi⟩ := em (2 * a + p * b) n
  obtain ⟨j, hj⟩ := em (a * a + p * a * b + q * b * b) n
  obtain ⟨k, hk⟩ := em (a * a - q * (b * b)) n
  obtain ⟨l, hl⟩ := em (a * b + b * a + p * (b * b)) n
  refine Prod.ext ?_ (Prod.ext ?_ ?_)
  · show b * ((2 * a + p * b) % n) % n = (a * b + b * a + p * (b * b)) % n
    rw [hi]
    exact emod_of (k := b * i) (by grind)
  · show ((2 * a + p * b) % n * ((2 * a + p * b) % n) % n - ((a * a + p * a * b + q * b * b) % n + (a * a + p * a * b + q * b * b) % n) % n) % n = _
    rw [← Int.sub_emod, hi, hj, hk, hl]
    exact emod_of (k := 2 * (2 * a + p * b) * i + n * i * i - 2 * j - 2 * k - p * l) (by grind)
  · show (a * a + p * a * b + q * b * b) % n * ((a * a + p * a * b + q * b * b) % n) % n = _
    rw [← Int.mul_emod]
    have e : ∀ A B : Int, (A * A + p * A * B + q * B * B) % n = ((A % n) * (A % n) + p * (A % n) * (B % n) + q * (B % n) * (B % n)) % n := by
      intro A B
      obtain ⟨i, hi⟩ := em A n
      obtain ⟨j, hj⟩ := em B n
      rw [hi, hj]
      exact (emod_of (k := 2 * A * i + n * i * i + p * (A * j + i * B + n * i * j) + q * (2 * B * j + n * j * j)) (by grind)).symm
    rw [← e]
    congr 1
    grind
theorem luc_inc {n p q d : Int} {z : Int × Int} (hn : n % 2 = 1) (h0 : 0 < n) (hd : d % n = (p * p - 4 * q) % n) : Linc n p d q (luc n p q z) = luc n p q (pm n p q z (0, 1)) := by
  obtain ⟨a, b⟩ := z
  simp only [Linc, luc, pm]
  obtain ⟨i, hi⟩ := em (2 * a + p * b) n
  obtain ⟨k, hk⟩ := em (a * 0 - q * (b * 1)) n
  obtain ⟨l, hl⟩ := em (a * 1 + b * 0 + p * (b * 1)) n
  obtain ⟨m, hm⟩ := emod_dvd hd
  refine Prod.ext ?_ (Prod.ext ?_ ?_)
  · show hf n ((p * b % n + (2 * a + p * b) % n) % n) = (a * 1 + b * 0 + p * (b * 1)) % n
    refine hf_of hn h0 ?_ (Int.emod_nonneg _ (by omega)) (Int.emod_lt_of_pos _ h0)
    rw [Int.emod_emod, ← Int.add_emod]
    congr 1
    grind
  · show hf n ((d * b % n + p * ((2 * a + p * b) % n) % n) % n) = _
    have e : (2 * ((a * 0 - q * (b * 1)) % n) + p * ((a * 1 + b * 0 + p * (b * 1)) % n)) % n = (p * a + p * p * b - 2 * q * b) % n := by
      rw [hk, hl]
      exact emod_of (k := 2 * k + p * l) (by grind)
    show _ = (2 * ((a * 0 - q * (b * 1)) % n) + p * ((a * 1 + b * 0 + p * (b * 1)) % n)) % n
    rw [e]
    refine hf_of hn h0 ?_ (Int.emod_nonneg _ (by omega)) (Int.emod_lt_of_pos _ h0)
    rw [Int.emod_emod, ← Int.add_emod, hi, hm]
    exact emod_of (k := m * b + p * i) (by grind)
  · show (a * a + p * a * b + q * b * b) % n * q % n = (((a * 0 - q * (b * 1)) % n) * ((a * 0 - q * (b * 1)) % n) + p * ((a * 0 - q * (b * 1)) % n) * ((a * 1 + b * 0 + p * (b * 1)) % n) + q * ((a * 1 + b * 0 + p * (b * 1)) % n) * ((a * 1 + b * 0 + p * (b * 1)) % n)) % n
    obtain ⟨j, hj⟩ := em (a * a + p * a * b + q * b * b) n
    rw [hj, hk, hl]
    have e := @emod_of n ((a * a + p * a * b + q * b * b + n * j) * q) ((a * a + p * a * b + q * b * b) * q) (j * q) (by grind)
    rw [e]
    refine (emod_of (k := 2 * (a * 0 - q * (b * 1)) * k + n * k * k + p * ((a * 0 - q * (b * 1)) * l + k * (a * 1 + b * 0 + p * (b * 1)) + n * k * l) + q * (2 * (a * 1 + b * 0 + p * (b * 1)) * l + n * l * l)) ?_).symm
    grind
theorem luc_0 {n p q : Int} (h1 : 1 < n) (p0 : 0 ≤ p) (p1 : p < n) (q0 : 0 ≤ q) (q1 : q < n) : L0 n p q = luc n p q (0, 1) := by
  simp only [L0, luc]
  refine Prod.ext ?_ (Prod.ext ?_ ?_)
  · exact Int.emod_eq_of_lt (by omega) h1
  · show p = (2 * 0 + p * 1) % n
    rw [show 2 * 0 + p * 1 = p by omega, Int.emod_eq_of_lt p0 p1]
  · show q = (0 * 0 + p * 0 * 1 + q * 1 * 1) % n
    rw [show 0 * 0 + p * 0 * 1 + q * 1 * 1 = q by simp, Int.emod_eq_of_lt q0 q1]

theorem luc_lt {n p q : Int} {z : Int × Int} (h0 : 0 < n) (hz : z.2 < n) : (luc n p q z).1 < n ∧ (luc n p q z).2.1 < n ∧ (luc n p q z).2.2 < n :=
  ⟨hz, Int.emod_lt_of_pos _ h0, Int.emod_lt_of_pos _ h0⟩
def OutTri (w : Int) (z : Int × Int × Int) (tl : List (Addr × Obj)) (x : Value) : Prop := ∃ a b c d n o q r, x = .ref a ∧ tl = [(a, tupO #[.ref b, .ref c, .ref d] n), (b, o), (c, q), (d, r)] ∧ Lm w z.1 o ∧ Lm w z.2.1 q ∧ Lm w z.2.2 r
theorem done_tri {g h' : Heap} {s₀ s' : Shared} {L' a b c d : Addr} {m' : Str → Option Value} {tk' n : Nat} {news : List (Addr × Obj)} {o q r : Obj} {w : Int} {z : Int × Int × Int}
    (es : s' = { s₀ with heap := h', toks := tk' }) (F : Fr g L' h' m') (N : News g L' h' news) (hm : (a, tupO #[.ref b, .ref c, .ref d] n) ∈ news) (hb : (b, o) ∈ news) (hc : (c, q) ∈ news) (hd : (d, r) ∈ news)
    (h1 : Lm w z.1 o) (h2 : Lm w z.2.1 q) (h3 : Lm w z.2.2 r) : Done g s₀ (OutTri w z) (.ref a) s' :=
  ⟨_, _, [(a, tupO #[.ref b, .ref c, .ref d] n), (b, o), (c, q), (d, r)], _, _, es, F, fun p hp => N p (by
    rcases List.mem_cons.mp hp with rfl | hp
    · exact hm
    · rcases List.mem_cons.mp hp with rfl | hp
      · exact hb
      · rcases List.mem_cons.mp hp with rfl | hp
        · exact hc
        · rw [List.mem_singleton.mp hp]; exact hd), _, _, _, _, _, _, _, _, rfl, rfl, h1, h2, h3⟩
theorem news4 {h₀ h : Heap} {L : Addr} {p q r t : Addr × Obj} {news : List (Addr × Obj)} (N : News h₀ L h ([p, q, r, t] ++ news)) : News h₀ L h (p :: q :: r :: t :: news) := N

def OutTri1 (w u : Int) (xp xq : Addr) (tl : List (Addr × Obj)) (x : Value) : Prop := ∃ a b n o, x = .ref a ∧ tl = [(a, tupO #[.ref b, .ref xp, .ref xq] n), (b, o)] ∧ Lm w u o
theorem done_tri1 {g h' : Heap} {s₀ s' : Shared} {L' a b xp xq : Addr} {m' : Str → Option Value} {tk' n : Nat} {news : List (Addr × Obj)} {o : Obj} {w u : Int}
    (es : s' = { s₀ with heap := h', toks := tk' }) (F : Fr g L' h' m') (N : News g L' h' news) (hm : (a, tupO #[.ref b, .ref xp, .ref xq] n) ∈ news) (hb : (b, o) ∈ news) (h1 : Lm w u o) : Done g s₀ (OutTri1 w u xp xq) (.ref a) s' :=
  ⟨_, _, [(a, tupO #[.ref b, .ref xp, .ref xq] n), (b, o)], _, _, es, F, fun p hp => N p (by
    rcases List.mem_cons.mp hp with rfl | hp
    · exact hm
    · rw [List.mem_singleton.mp hp]; exact hb), _, _, _, _, rfl, rfl, h1⟩

section
variable {prog : Program} {wd : World} {A : Around} {E : Value → Shared → Prop} {s : Shared} {w : Int} {t u : Tok} {Q : Value → Shared → Prop}
theorem r_pow2 (hw : WOk w) (h : Q (.int (2 ^ w.toNat) s.toks) { s with toks := s.toks + 1 }) : wpAny (model prog wd) A (binaryOp .Pow (.int 2 t) (.int w u)) Q E s :=
  pow_int_small (by obtain ⟨h1, h2⟩ := hw; omega) (by obtain ⟨h1, h2⟩ := hw; omega) (by decide) h
end
section
variable {w : World} {p : Program} {loose : List Str} {mean : ExcName → Option Value} {mg mb : Str → Option Value} {dp un : Nat} {gd : Option (List Code)} {cn : Str} {cs : Scope} {a : Addr} {ccd : Value} {cl : List (Str × Addr)} {outer : List Env}
    {A₀ : Around} {base h₀ : Heap} {L : Addr} {gn : Array GenState} {dr : Drawn} {os : OsState} {E : Value → Shared → Prop} {f : Addr} {k : Nat} {vs : List Value} {Pre : Heap → Prop} {hp : Heap} {m : Str → Option Value} {news : List (Addr × Obj)} {to : Nat} {Q : Value → Shared → Prop}
    (B : Below A₀ base outer h₀) (F : Fr h₀ L hp m) (X : (hd.heap_1 w.params).In h₀) (N : News h₀ L hp news) (T : Top p loose mean mg mb h₀) (hk : cs.kind = .function) (hpre : Pre hp) (hdp : dp + k < recursionLimit) (hun : un + 8 * k < cLine)
include B F X N T hk hpre hdp hun
theorem use_tri {b : Int} {z : Int × Int × Int} (S : Spec w f k vs Pre (OutTri b z)) (h : ∀ x y1 y2 y3 n o q r h' tk', Fr h₀ L h' m → News h₀ L h' ((x, tupO #[.ref y1, .ref y2, .ref y3] n) :: (y1, o) :: (y2, q) :: (y3, r) :: news) → Lm b z.1 o → Lm b z.2.1 q → Lm b z.2.2 r → Q (.ref x) ⟨h', gn, dr, tk', os⟩) : wpAny (model PR w) (ktrTop dp un gd cn cs L a ccd cl outer) (call (.ref f) vs) Q E ⟨hp, gn, dr, to, os⟩ :=
  Spec.use S B F X N T hk hpre hdp hun fun r tl h' tk' F' N' ne out => by
    obtain ⟨x, y1, y2, y3, n, o, q, r, rfl, rfl, h1, h2, h3⟩ := out
    exact h _ _ _ _ _ _ _ _ _ _ F' N' h1 h2 h3
theorem use_tri2 {b e u : Int} {xp xq : Addr} {z : Int × Int × Int} (S : Spec w f k vs Pre (fun tl x => OutTri b z tl x ∨ (e = 1 ∧ OutTri1 b u xp xq tl x)))
    (h : ∀ x y1 y2 y3 n o q r h' tk', Fr h₀ L h' m → News h₀ L h' ((x, tupO #[.ref y1, .ref y2, .ref y3] n) :: (y1, o) :: (y2, q) :: (y3, r) :: news) → Lm b z.1 o → Lm b z.2.1 q → Lm b z.2.2 r → Q (.ref x) ⟨h', gn, dr, tk', os⟩)
    (k' : ∀ x y1 n o h' tk', Fr h₀ L h' m → News h₀ L h' ((x, tupO #[.ref y1, .ref xp, .ref xq] n) :: (y1, o) :: news) → e = 1 → Lm b u o → Q (.ref x) ⟨h', gn, dr, tk', os⟩) : wpAny (model PR w) (ktrTop dp un gd cn cs L a ccd cl outer) (call (.ref f) vs) Q E ⟨hp, gn, dr, to, os⟩ :=
  Spec.use S B F X N T hk hpre hdp hun fun r tl h' tk' F' N' ne out => by
    rcases out with ⟨x, y1, y2, y3, n, o, q, r, rfl, rfl, h1, h2, h3⟩ | ⟨he, x, y1, n, o, rfl, rfl, h1⟩
    · exact h _ _ _ _ _ _ _ _ _ _ F' N' h1 h2 h3
    · exact k' _ _ _ _ _ _ F' N' he h1
end
def OutPairI (u v : Int) (tl : List (Addr × Obj)) (x : Value) : Prop := ∃ a t t' n, x = .ref a ∧ tl = [(a, tupO #[.int u t, .int v t'] n)]
theorem done_pairi {g h' : Heap} {s₀ s' : Shared} {L' a : Addr} {m' : Str → Option Value} {tk' n : Nat} {t t' : Tok} {news : List (Addr × Obj)} {x y u v : Int}
    (es : s' = { s₀ with heap := h', toks := tk' }) (F : Fr g L' h' m') (N : News g L' h' news) (hm : (a, tupO #[.int x t, .int y t'] n) ∈ news) (hx : x = u) (hy : y = v) : Done g s₀ (OutPairI u v) (.ref a) s' := by
  subst hx hy
  exact ⟨_, _, [(a, tupO #[.int x t, .int y t'] n)], _, _, es, F, fun p hp => N p (by rw [List.mem_singleton.mp hp]; exact hm), _, _, _, _, rfl, rfl⟩
/-- the law's own norm and column -/
def nrm (n p q : Int) (z : Int × Int) : Int := (z.1 * z.1 + p * z.1 * z.2 + q * z.2 * z.2) % n
def col (n p q : Int) (x y : Int × Int) : Int × Int := ((x.1 * y.1 - q * x.2 * y.2) % n, (x.2 * y.1 + (x.1 + p * x.2) * y.2) % n)
theorem col_pm {n p q : Int} {x y : Int × Int} : col n p q x y = pm n p q x y := by
  unfold col pm
  refine Prod.ext (congrArg (· % n) ?_) (congrArg (· % n) ?_)
  · grind
  · grind

local macro_rules | `(tactic| walk_at "binaryOp Pow int int") => rule 'r' `r_pow2 "a"


def OutPairC (n : Int) (z : Int × Int) (tl : List (Addr × Obj)) (x : Value) : Prop := ∃ a t t' k, x = .ref a ∧ tl = [(a, tupO #[.int z.1 t, .int z.2 t'] k)] ∧ 0 ≤ z.1 ∧ z.1 < n ∧ 0 ≤ z.2 ∧ z.2 < n
theorem done_pairc {g h' : Heap} {s₀ s' : Shared} {L' a : Addr} {m' : Str → Option Value} {tk' k : Nat} {t t' : Tok} {news : List (Addr × Obj)} {x y n : Int} {z : Int × Int}
    (es : s' = { s₀ with heap := h', toks := tk' }) (F : Fr g L' h' m') (N : News g L' h' news) (hm : (a, tupO #[.int x t, .int y t'] k) ∈ news) (hz : (x, y) = z) (h : 0 ≤ z.1 ∧ z.1 < n ∧ 0 ≤ z.2 ∧ z.2 < n) : Done g s₀ (OutPairC n z) (.ref a) s' := by
  subst hz
  exact ⟨_, _, [(a, tupO #[.int x t, .int y t'] k)], _, _, es, F, fun p hp => N p (by rw [List.mem_singleton.mp hp]; exact hm), _, _, _, _, rfl, rfl, h⟩
section
variable {w : World} {p : Program} {loose : List Str} {mean : ExcName → Option Value} {mg mb : Str → Option Value} {dp un : Nat} {gd : Option (List Code)} {cn : Str} {cs : Scope} {a : Addr} {ccd : Value} {cl : List (Str × Addr)} {outer : List Env}
    {A₀ : Around} {base h₀ : Heap} {L : Addr} {gn : Array GenState} {dr : Drawn} {os : OsState} {E : Value → Shared → Prop} {f : Addr} {k : Nat} {vs : List Value} {Pre : Heap → Prop} {hp : Heap} {m : Str → Option Value} {news : List (Addr × Obj)} {to : Nat} {Q : Value → Shared → Prop}
    (B : Below A₀ base outer h₀) (F : Fr h₀ L hp m) (X : (hd.heap_1 w.params).In h₀) (N : News h₀ L hp news) (T : Top p loose mean mg mb h₀) (hk : cs.kind = .function) (hpre : Pre hp) (hdp : dp + k < recursionLimit) (hun : un + 8 * k < cLine)
include B F X N T hk hpre hdp hun
theorem use_pairc {n : Int} {z : Int × Int} (S : Spec w f k vs Pre (OutPairC n z)) (h : ∀ x t t' e h' tk', Fr h₀ L h' m → News h₀ L h' ((x, tupO #[.int z.1 t, .int z.2 t'] e) :: news) → 0 ≤ z.1 → z.1 < n → 0 ≤ z.2 → z.2 < n → Q (.ref x) ⟨h', gn, dr, tk', os⟩) : wpAny (model PR w) (ktrTop dp un gd cn cs L a ccd cl outer) (call (.ref f) vs) Q E ⟨hp, gn, dr, to, os⟩ :=
  Spec.use S B F X N T hk hpre hdp hun fun r tl h' tk' F' N' ne out => by
    obtain ⟨x, t, t', e, rfl, rfl, h1, h2, h3, h4⟩ := out
    exact h _ _ _ _ _ _ F' N' h1 h2 h3 h4
end
theorem col_bd {n p q : Int} {x y : Int × Int} (h0 : 0 < n) : 0 ≤ (col n p q x y).1 ∧ (col n p q x y).1 < n ∧ 0 ≤ (col n p q x y).2 ∧ (col n p q x y).2 < n :=
  ⟨Int.emod_nonneg _ (by omega), Int.emod_lt_of_pos _ h0, Int.emod_nonneg _ (by omega), Int.emod_lt_of_pos _ h0⟩

set_option maxHeartbeats 8000000 in
theorem law_limbs_ok {wd : World} {v w : Int} {t u : Tok} (hw : WOk w) (h0 : 0 ≤ v) (h1 : v < 2 ^ w.toNat) : Spec wd 282 1 [.int v t, .int w u] (fun _ => True) (OutLm w v) := by
  refine' Spec.byQ (ns := [Str.ofString "number", Str.ofString "w", Str.ofString "found"]) (sl := [some (.int v t), some (.int w u), none]) [(Str.ofString "number", .int v t), (Str.ofString "w", .int w u)] [Str.ofString "found"] [] ?ho ?hcd ?hbind ?hloc ?hco ?hgen ?hk ?hcell ?hns ?hsl ?hS ?hG ?_
  walk_at "mine sides"
  intro p loose mean mg mb dp un gd outer A₀ base g L s B F X N T hcs hS hG hpre hd hu Q hQ
  have hB := base_le hw
  rcases (show v = 0 ∨ 0 < v by omega) with hv | hv
  · k_steps
    try dsimp only
    refine hQ _ _ ?_; exact done_lm rfl (by assumption) (by assumption) (by k_mem) (lm_nil hv)
  · k_steps
    try dsimp only
    refine hQ _ _ ?_; exact done_lm rfl (by assumption) (by assumption) (by k_mem) (lm_one rfl hv h1)
set_option maxHeartbeats 8000000 in
theorem law_norm_ok {wd : World} {tp : Addr} {k : Nat} {a b p q n : Int} {t1 t2 t3 t4 t5 : Tok} (h0 : 0 < n) (ha : -1000 < a) (ha1 : a < 1000) (hb : -1000 < b) (hb1 : b < 1000) : Spec wd 317 1 [.ref tp, .int p t3, .int q t4, .int n t5] (fun h => h.get? tp = some (tupO #[.int a t1, .int b t2] k)) (OutInt (nrm n p q (a, b))) := by
  refine' Spec.byQ (ns := [Str.ofString "pair", Str.ofString "p", Str.ofString "q", Str.ofString "n"]) (sl := [some (.ref tp), some (.int p t3), some (.int q t4), some (.int n t5)]) [(Str.ofString "pair", .ref tp), (Str.ofString "p", .int p t3), (Str.ofString "q", .int q t4), (Str.ofString "n", .int n t5)] [] [] ?ho ?hcd ?hbind ?hloc ?hco ?hgen ?hk ?hcell ?hns ?hsl ?hS ?hG ?_
  walk_at "mine sides"
  intro p' loose mean mg mb dp un gd outer A₀ base g L s B F X N T hcs hS hG hpre hd hu Q hQ
  k_steps
  try dsimp only
  refine hQ _ _ ?_; exact done_int rfl (by assumption) rfl
set_option maxHeartbeats 8000000 in
theorem law_column_ok {wd : World} {t1 t2 : Addr} {k1 k2 : Nat} {a b c d p q n : Int} {s1 s2 s3 s4 s5 s6 s7 : Tok} (h0 : 0 < n) (ha : -1000 < a) (ha1 : a < 1000) (hb : -1000 < b) (hb1 : b < 1000) (hc : -1000 < c) (hc1 : c < 1000) (hd : -1000 < d) (hd1 : d < 1000) :
    Spec wd 296 1 [.ref t1, .ref t2, .int p s3, .int q s4, .int n s5] (fun h => h.get? t1 = some (tupO #[.int a s1, .int b s2] k1) ∧ h.get? t2 = some (tupO #[.int c s6, .int d s7] k2)) (OutPairC n (col n p q (a, b) (c, d))) := by
  refine' Spec.byQ (ns := [Str.ofString "one", Str.ofString "other", Str.ofString "p", Str.ofString "q", Str.ofString "n", Str.ofString "a", Str.ofString "b"]) (sl := [some (.ref t1), some (.ref t2), some (.int p s3), some (.int q s4), some (.int n s5), none, none]) [(Str.ofString "one", .ref t1), (Str.ofString "other", .ref t2), (Str.ofString "p", .int p s3), (Str.ofString "q", .int q s4), (Str.ofString "n", .int n s5)] [Str.ofString "a", Str.ofString "b"] [] ?ho ?hcd ?hbind ?hloc ?hco ?hgen ?hk ?hcell ?hns ?hsl ?hS ?hG ?_
  walk_at "mine sides"
  intro p' loose mean mg mb dp un gd outer A₀ base g L s B F X N T hcs hS hG ⟨hg1, hg2⟩ hd hu Q hQ
  have hT : IsTup g t1 #[.int a s1, .int b s2] := ⟨_, hg1, rfl, _, rfl⟩
  k_steps
  try dsimp only
  refine hQ _ _ ?_; exact done_pairc rfl (by assumption) (by assumption) (.head _) rfl (col_bd h0)

local macro_rules | `(tactic| walk_at "call ref") => callLine 282 `use_lm `law_limbs_ok "ann" ""
local macro_rules | `(tactic| walk_at "call ref") => callLine 317 `use_int `law_norm_ok "nnnnn" "t"
local macro_rules | `(tactic| walk_at "call ref") => callLine 296 `use_pairc `law_column_ok "nnnnnnnnn" "tt"


set_option maxHeartbeats 8000000 in
theorem law_rows_ok {wd : World} {tp : Addr} {k : Nat} {a b n w : Int} {t1 t2 t3 u : Tok} (hw : WOk w) (h0 : 0 < n) (h1 : n < 2 ^ w.toNat) : Spec wd 289 3 [.ref tp, .int n t3, .int w u] (fun h => h.get? tp = some (tupO #[.int a t1, .int b t2] k)) (OutPairLm w (a % n) (b % n)) := by
  refine' Spec.byQ (ns := [Str.ofString "pair", Str.ofString "n", Str.ofString "w"]) (sl := [some (.ref tp), some (.int n t3), some (.int w u)]) [(Str.ofString "pair", .ref tp), (Str.ofString "n", .int n t3), (Str.ofString "w", .int w u)] [] [Str.ofString "_law_limbs"] ?ho ?hcd ?hbind ?hloc ?hco ?hgen ?hk ?hcell ?hns ?hsl ?hS ?hG ?_
  walk_at "mine sides"
  intro p' loose mean mg mb dp un gd outer A₀ base g L s B F X N T hcs hS hG hpre hd hu Q hQ
  have r0 := Int.emod_nonneg a (show n ≠ 0 by omega)
  have r1 := Int.emod_lt_of_pos a h0
  have r2 := Int.emod_nonneg b (show n ≠ 0 by omega)
  have r3 := Int.emod_lt_of_pos b h0
  k_steps
  try dsimp only
  refine hQ _ _ ?_; exact done_pairlm rfl (by assumption) (by assumption) (.head _) (by k_mem) (by k_mem) (by assumption) (by assumption)

section

local macro_rules | `(tactic| walk_at "ite") => rule 'd' `ite_no "A"

local macro_rules | `(tactic| walk_at "pyIter ref") => rule 'd' `stop_here ""

local macro_rules | `(tactic| walk_at "UnrPost") => rule 'd' `stop_here ""
local macro_rules | `(tactic| walk_at "UnrEnd") => rule 'd' `stop_here ""


def cpw (n p q : Int) (z : Int × Int) : Nat → Int × Int
  | 0 => (1, 0)
  | k + 1 => col n p q (cpw n p q z k) z
def due (n p q f : Int) (z y : Int × Int) (e : Int) : Int × Int :=
  if f = 4 then ((z.1 + p * z.2) % n, (0 - z.2) % n) else if f = 2 then cpw n p q z e.toNat else col n p q z (if f = 0 then y else if f = 1 then z else (0, 1))
theorem due_bd {n p q f : Int} {z y : Int × Int} {e : Int} (h0 : 1 < n) : 0 ≤ (due n p q f z y e).1 ∧ (due n p q f z y e).1 < n ∧ 0 ≤ (due n p q f z y e).2 ∧ (due n p q f z y e).2 < n := by
  unfold due
  split
  · exact ⟨Int.emod_nonneg _ (by omega), Int.emod_lt_of_pos _ (by omega), Int.emod_nonneg _ (by omega), Int.emod_lt_of_pos _ (by omega)⟩
  · split
    · cases e.toNat with
      | zero => exact ⟨by show (0 : Int) ≤ 1; omega, by show (1 : Int) < n; omega, by show (0 : Int) ≤ 0; omega, by show (0 : Int) < n; omega⟩
      | succ k => exact col_bd (by omega)
    · exact col_bd (by omega)
theorem cpw_bd {n p q : Int} {z : Int × Int} (h : 1 < n) : ∀ k, 0 ≤ (cpw n p q z k).1 ∧ (cpw n p q z k).1 < n ∧ 0 ≤ (cpw n p q z k).2 ∧ (cpw n p q z k).2 < n
  | 0 => ⟨by show (0 : Int) ≤ 1; omega, by show (1 : Int) < n; omega, by show (0 : Int) ≤ 0; omega, by show (0 : Int) < n; omega⟩
  | _ + 1 => col_bd (by omega)
set_option maxHeartbeats 4000000 in
theorem law_due_ok {wd : World} {t1 t2 tt : Addr} {k1 k2 k3 : Nat} {a b c d p q n f e : Int} {s1 s2 s3 s4 s5 s6 s7 s8 s9 : Tok} (h0 : 1 < n) (h1 : n < 100) (hp0 : -9 ≤ p) (hp1 : p ≤ 9) (hq0 : -9 ≤ q) (hq1 : q ≤ 9)
    (ha : 0 ≤ a) (ha1 : a < n) (hb : 0 ≤ b) (hb1 : b < n) (hc : 0 ≤ c) (hc1 : c < n) (hd : 0 ≤ d) (hd1 : d < n) (hf : 0 ≤ f) (hf1 : f < 5) (he : 0 ≤ e) (he1 : e < 4) :
    Spec wd 303 3 [.int f s8, .ref t1, .ref t2, .int e s9, .ref tt]
      (fun h => h.get? t1 = some (tupO #[.int a s1, .int b s2] k1) ∧ h.get? t2 = some (tupO #[.int c s6, .int d s7] k2) ∧ h.get? tt = some (tupO #[.int p s3, .int q s4, .int n s5] k3))
      (OutPairC n (due n p q f (a, b) (c, d) e)) := by
  refine' Spec.byQ (ns := [Str.ofString "form", Str.ofString "pair", Str.ofString "other", Str.ofString "e", Str.ofString "told", Str.ofString "p", Str.ofString "q", Str.ofString "n", Str.ofString "found", Str.ofString "turn"]) (sl := [some (.int f s8), some (.ref t1), some (.ref t2), some (.int e s9), some (.ref tt), none, none, none, none, none]) [(Str.ofString "form", .int f s8), (Str.ofString "pair", .ref t1), (Str.ofString "other", .ref t2), (Str.ofString "e", .int e s9), (Str.ofString "told", .ref tt)] [Str.ofString "p", Str.ofString "q", Str.ofString "n", Str.ofString "found", Str.ofString "turn"] [Str.ofString "range", Str.ofString "_law_column"] ?ho ?hcd ?hbind ?hloc ?hco ?hgen ?hk ?hcell ?hns ?hsl ?hS ?hG ?_
  walk_at "mine sides"
  intro p' loose mean mg mb dp un gd outer A₀ base g L s B F X N T hcs hS hG ⟨hg1, hg2, hg3⟩ hd' hu Q hQ
  have hT : IsTup g tt #[.int p s3, .int q s4, .int n s5] := ⟨_, hg3, rfl, _, rfl⟩
  have h00 : 0 < n := by omega
  have hbd := @due_bd n p q f (a, b) (c, d) e h0
  rcases (show f = 2 ∨ ¬ f = 2 from Decidable.em _) with rfl | hf2
  · k_steps
    unfold Stop
    refine krs_iter (by rfl) (by assumption) (small_one (by omega) (by omega) (by omega) (by omega)) (rangeSize_nat _ _) (by assumption) (by assumption) fun I hI => ?_
    refine krs_ind (J := fun i m news => ∃ (fd : Addr) (y1 y2 y3 y4 y5 : Tok) (kk : Nat) (v : Option Value), m = slots [Str.ofString "form", Str.ofString "pair", Str.ofString "other", Str.ofString "e", Str.ofString "told", Str.ofString "p", Str.ofString "q", Str.ofString "n", Str.ofString "found", Str.ofString "turn"] [some (.int 2 s8), some (.ref t1), some (.ref t2), some (.int e s9), some (.ref tt), some (.int p y1), some (.int q y2), some (.int n y3), some (.ref fd), v] ∧
      (fd, tupO #[.int (cpw n p q (a, b) i).1 y4, .int (cpw n p q (a, b) i).2 y5] kk) ∈ news) ?_ (fun i v t m news it h tk hi hv hc hJ F N R hR => ?_) (fun m news h tk hJ F N => ?_)
    · refine' ⟨_, _, _, _, _, _, _, _, rfl, ?m1⟩
      case m1 => first | exact List.Mem.head _ | k_mem
    · refine ex8 hJ fun fd y1 y2 y3 y4 y5 kk v' h8 => ?_
      clear hJ
      refine and2 h8 fun hm m1 => ?_
      clear h8
      subst hm
      refine' fr_goal F hS ?hs ?_
      case hs => walk_at "mine set"
      clear F hi hv
      intro F
      have N1 := news_locals (news_sub N (l := [(I, it), (fd, tupO #[.int (cpw n p q (a, b) i).1 y4, .int (cpw n p q (a, b) i).2 y5] kk)]) ⟨.head _, .tail _ m1, trivial⟩)
      clear N m1
      obtain ⟨g1, g2, g3, g4⟩ := @cpw_bd n p q (a, b) h0 i
      have h9 : n < 1000 := by omega
      k_steps
      refine hR _ _ ?_
      refine' unr_end [(_, tupO #[.int _ _, .int _ _] _)] (by assumption) (by assumption) ?hI ?sub ?off ⟨_, _, _, _, _, _, _, _, rfl, .head _⟩
      case sub => k_subL
      case hI => k_mem
      case off => exact ⟨by rw [hc]; k_cls, trivial⟩
    · refine ex8 hJ fun fd y1 y2 y3 y4 y5 kk v' h8 => ?_
      clear hJ
      refine and2 h8 fun hm m1 => ?_
      clear h8
      subst hm
      replace F := fr_locals F
      replace N := news_locals N
      have e9 : (e - 0).toNat = e.toNat := by rw [Int.sub_zero]
      rw [e9] at m1
      k_steps
      try dsimp only
      refine hQ _ _ ?_
      exact done_pairc rfl (by assumption) (by assumption) m1 rfl hbd
  · k_steps
    all_goals (
      try dsimp only
      refine hQ _ _ ?_
      refine done_pairc rfl (by assumption) (by assumption) (.head _) ?_ hbd
      subst_vars
      rfl)

end


/-- the contract of a def two of whose locals are cells -/
theorem Spec.byC {w : World} {f : Addr} {k : Nat} {vs : List Value} {Pre : Heap → Prop} {Out : List (Addr × Obj) → Value → Prop}
    {name qual : Str} {params : Arguments} {body : List Stmt} {scope : Scope} {dV kV doc pm cdv ct oc : Value} {an od : Option Addr} {osl : Array (Option Value)} (binds : List (Str × Value)) (rest gs : List Str) (x1 x2 : Str)
    {ns : List Str} {sl : List (Option Value)}
    (ho : (hd.heap_1 w.params).lookup f = some ⟨oc, od, .func (fnOf name qual params body scope dV kV doc pm an cdv ct), osl⟩) (hcd : codeIn (hd.heap_1 w.params) cdv qual = true)
    (hbind : ∀ s, BindsTo s (fnOf name qual params body scope dV kV doc pm an cdv ct) ⟨vs, []⟩ binds) (hloc : ∀ y ∈ binds, scope.names.lookup y.1 = some .local)
    (hco : scope.isCoroutine = false) (hgen : scope.isGenerator = false) (hk : scope.kind = .function)
    (hnd : ((cellsFrom 0 scope.names []).map (·.1)).Nodup) (hcl : ∀ L, cellsFrom (L + 1) scope.names [] = [(x2, L + 1 + 1), (x1, L + 1)])
    (hns : binds.map (·.1) ++ rest = ns) (hsl : binds.map (fun b => some b.2) ++ rest.map (fun _ => none) = sl) (hS : SlotsOk scope ns) (hG : GlobOk scope gs)
    (h : ∀ (p : Program) (loose : List Str) (mean : ExcName → Option Value) (mg mb : Str → Option Value) (dp un : Nat) (gd : Option (List Code)) (outer : List Env) (A₀ : Around) (base g : Heap) (L : Addr) (s : Shared) (o1 o2 : Obj),
      Below A₀ base outer g → Fr g L s.heap (slots ns sl) → (hd.heap_1 w.params).In g → News g L s.heap [(L + 1 + 1, o2), (L + 1, o1)] → Top p loose mean mg mb g → scope.kind = .function → SlotsOk scope ns → GlobOk scope gs →
      o1.data = .cell none → o2.data = .cell none → Pre g → dp + k < recursionLimit + 1 → un + 8 * k < cLine + 3 →
      ∀ Q : Flow → Shared → Prop, (∀ fl s', Done g s Out (match fl with | .ret v => v | _ => .none) s' → Q fl s') →
      wpAny (model PR w) (ktrTop dp un gd qual scope L f cdv [(x2, L + 1 + 1), (x1, L + 1)] outer) (execs body (envX qual scope L f cdv [(x2, L + 1 + 1), (x1, L + 1)])) Q (fun _ _ => False) s) :
    Spec w f k vs Pre Out := by
  intro p loose mean mg mb dp un gd cn cs a ccd cl outer A₀ base h₀ L m news s Q E B F X N T hcs hpre hd hu ret
  have B₁ := pushX (env := envX cn cs L a ccd cl) B F rfl hcs
  have hA : A₀.frames = some outer := B.stack
  refine wpAny_call ?_
  refine codeAny_call_function (show dp < recursionLimit by omega) (X.keeps F.keep _ _ ho) rfl hco hgen rfl (codeRec_of (X.keeps F.keep) hcd) (hbind _ _ _ _ _ ?_)
  refine wpAny_newFunctionEnv_cells hk (fun x hx => .inl (hloc x hx)) fun env' he s' x => ?_
  subst he
  refine ⟨(T.nolimit.keeps F.keep).keeps x.toInCall.keep, codeAny_func ?_⟩
  obtain ⟨h₁, tk, rfl, _⟩ := x.done
  have hk₁ := x.toInCall.keep
  obtain ⟨cells, NC, Y⟩ := Cl.news (h₀ := s.heap) (Nat.le_refl _) fun n c hm => ⟨x.cell n c (lookup_of_mem_nodup (cellsFrom_names scope.names 0 (s.heap.objs.size + 1) [] [] rfl ▸ hnd) hm), x.above n c hm⟩
  have hb : ∀ (bs : List (Str × Value)) (m : Str → Option Value), (∀ y ∈ bs, scope.names.lookup y.1 = some .local) → bindL (fun y => scope.names.lookup y) bs m = fun y => ((bs.reverse.lookup y).orElse fun _ => m y) := by
    intro bs
    induction bs with
    | nil => intro m _; funext y; rfl
    | cons b r ih =>
      intro m hl
      obtain ⟨n, v⟩ := b
      rw [bindL, if_pos (hl (n, v) (.head _)), ih _ fun y hy => hl y (.tail _ hy)]
      funext y
      rw [List.reverse_cons, List.lookup_append]
      cases e : r.reverse.lookup y with
      | some z => rfl
      | none =>
        by_cases hy : y = n
        · subst hy; simp [List.lookup]
        · have : (y == n) = false := by simpa using hy
          simp [List.lookup, this, hy]
  have hbC : ∀ (bs : List (Str × Value)) (m : Str → Option Value), (∀ y ∈ bs, scope.names.lookup y.1 = some .local) → bindC (fun y => scope.names.lookup y) bs m = m := by
    intro bs
    induction bs with
    | nil => intro m _; rfl
    | cons b r ih =>
      intro m hl
      obtain ⟨n, v⟩ := b
      rw [bindC, if_pos (hl (n, v) (.head _)), ih _ fun y hy => hl y (.tail _ hy)]
  have e : bindL (fun y => scope.names.lookup y) binds (fun _ => none) = slots ns sl := by
    rw [hb binds _ hloc]
    funext y
    rw [← hns, ← hsl, ← slots_binds binds rest (hns ▸ hS.nodup) y]
    cases binds.reverse.lookup y <;> rfl
  have Y' : CellsAre (bindC (fun y => scope.names.lookup y) binds fun _ => none) (cellsFrom (s.heap.objs.size + 1) scope.names []) cells := Y
  rw [hbC binds _ hloc] at Y'
  have Y2 : CellsAre (fun _ => none) [(x2, s.heap.objs.size + 1 + 1), (x1, s.heap.objs.size + 1)] cells := hcl s.heap.objs.size ▸ Y'
  obtain ⟨o2, o1, rfl, d2, d1⟩ := Y2.two
  have B₂ : Below (ktrTop dp un gd cn cs L a ccd cl outer) base (envX cn cs L a ccd cl :: outer) s.heap := ⟨rfl, B₁.stays, B₁.frames⟩
  have main := h p loose mean mg mb (dp + 1) (un + 3) gd (envX cn cs L a ccd cl :: outer) _ base s.heap s.heap.objs.size { s with heap := h₁, toks := tk } o1 o2
    B₂ ⟨e ▸ (show h₁.Ns s.heap.objs.size (bindL (fun y => scope.names.lookup y) binds fun _ => none) from x.toInCall.ns), hk₁, Nat.le_refl _⟩ (X.keeps F.keep) NC (T.keeps F.keep) hk hS hG d1 d2 hpre (by omega) (by omega) _ fun _ _ x => x
  rw [← hcl] at main
  refine wpAny_mono main (fun fl s' hl => ?_) fun _ _ y => y.elim
  obtain ⟨L', m', tl, h', tk', rfl, F', N', ho'⟩ := hl
  obtain ⟨oL, es, ep, hL, r⟩ := F.ns
  refine ret _ tl h' tk' ⟨⟨oL, es, ep, F'.keep _ _ hL, r⟩, fun b o e => F'.keep _ _ (F.keep _ _ e), F.above⟩ (fun q hq => ?_) (fun q hq z hz => ?_) ho'
  · rcases List.mem_append.mp hq with hq | hq
    · refine ⟨(N' q hq).1, fun e => ?_, ?_⟩
      · have := (N' q hq).2.2; rw [e, hL] at this; cases this
      · cases e : h₀.get? q.1 with
        | none => rfl
        | some o => have := (N' q hq).2.2; rw [F.keep _ _ e] at this; cases this
    · exact ⟨F'.keep _ _ (N q hq).1, (N q hq).2.1, (N q hq).2.2⟩
  · intro e
    have h2 := (N' z hz).2.2
    rw [← e, (N q hq).1] at h2; cases h2
section
variable {M : Model} {A : Around} {E : Value → Shared → Prop} {cs : Scope} {cn : Str} {L a : Addr} {ccd : Value} {cl : List (Str × Addr)} {h₀ : Heap} {ns gs : List Str} {K : Frag} {p : Program} {loose : List Str} {mean : ExcName → Option Value} {mg mb : Str → Option Value}
theorem name_slotC (S : SlotsOk cs ns) {s : Shared} {vs : List (Option Value)} (F : Fr h₀ L s.heap (slots ns vs)) {x : Str} {pos : Pos} {v : Value} {Q : Value → Shared → Prop} (hs : Slot x v ns vs) (h : Q v s) : wpAny M A (eval (.Name x pos) (envX cn cs L a ccd cl)) Q E s :=
  nameX_L F (hs.get S.nodup) h S.kind (S.ok x hs.mem).1 (S.ok x hs.mem).2
theorem load_slotC (S : SlotsOk cs ns) {s : Shared} {vs : List (Option Value)} (F : Fr h₀ L s.heap (slots ns vs)) {x : Str} {v : Value} {Q : Value → Shared → Prop} (hs : Slot x v ns vs) (h : Q v s) : wpAny M A (loadName (envX cn cs L a ccd cl) x) Q E s :=
  wpAny_loadName_local S.kind (S.ok x hs.mem).1 F.ns (hs.get S.nodup) h
theorem name_globC (X : K.In h₀) (T : Top p loose mean mg mb h₀) (G : GlobOk cs gs) {s : Shared} {vs : List (Option Value)} (F : Fr h₀ L s.heap (slots ns vs)) {x : Str} {pos : Pos} {v : Value} (hx : Mem1 x gs) (e : nsIn K mainGlobals x = some (some v)) {Q : Value → Shared → Prop} (h : Q v s) :
    wpAny M A (eval (.Name x pos) (envX cn cs L a ccd cl)) Q E s := nameX_K F X (topRead_of T) e h G.kind (G.ok x hx.mem).1 (G.ok x hx.mem).2
theorem name_builtC (X : K.In h₀) (T : Top p loose mean mg mb h₀) (G : GlobOk cs gs) {s : Shared} {vs : List (Option Value)} (F : Fr h₀ L s.heap (slots ns vs)) {x : Str} {pos : Pos} {v : Value} (hx : Mem1 x gs) (e : nsIn K mainGlobals x = some none ∧ bootBuiltins x = some v ∧ x ≠ "__name__") {Q : Value → Shared → Prop} (h : Q v s) :
    wpAny M A (eval (.Name x pos) (envX cn cs L a ccd cl)) Q E s := nameX_B F X (topRead_of T) e.1 e.2.1 e.2.2 h G.kind (G.ok x hx.mem).1 (G.ok x hx.mem).2
variable {hp : Heap} {gn : Array GenState} {dr : Drawn} {to : Nat} {os : OsState}
theorem st_slotC (S : SlotsOk cs ns) {vs : List (Option Value)} {news : List (Addr × Obj)} (F : Fr h₀ L hp (slots ns vs)) (N : News h₀ L hp news) {x : Str} {v : Value} {vs' : List (Option Value)} (hs : SetSlot x v ns vs vs') {Q : Unit → Shared → Prop}
    (h : ∀ h' tk', Fr h₀ L h' (slots ns vs') → News h₀ L h' news → Q () ⟨h', gn, dr, tk', os⟩) : wpAny M A (storeName (envX cn cs L a ccd cl) x v) Q E ⟨hp, gn, dr, to, os⟩ :=
  storeX_L F N (fun h' F' N' => h h' _ (hs.set S.nodup ▸ F') N') S.kind (S.ok x hs.mem).1
end
theorem Ev.slotC {M : Model} {A : Around} {cs : Scope} {cn : Str} {L a : Addr} {ccd : Value} {cl : List (Str × Addr)} {h₀ : Heap} {ns : List Str} (S : SlotsOk cs ns) {s : Shared} {vs : List (Option Value)} (F : Fr h₀ L s.heap (slots ns vs)) {x : Str} {pos : Pos} {v : Value} (hs : Slot x v ns vs) :
    Ev M A (envX cn cs L a ccd cl) (.Name x pos) s v s := ⟨fun _ => rfl, fun _ _ h => name_slotC S F hs h⟩


theorem pm_mods {n p q a b c d : Int} : pm n (p % n) (q % n) (a % n, b % n) (c % n, d % n) = red n (mm p q (a, b) (c, d)) := by
  obtain ⟨i, hi⟩ := em a n
  obtain ⟨j, hj⟩ := em b n
  obtain ⟨k, hk⟩ := em c n
  obtain ⟨l, hl⟩ := em d n
  obtain ⟨e, he⟩ := em p n
  obtain ⟨f, hf⟩ := em q n
  simp only [pm, red, mm, hi, hj, hk, hl, he, hf]
  refine Prod.ext (emod_of (k := a * k + i * c + n * i * k - (q * (b * l + j * d + n * j * l) + f * ((b + n * j) * (d + n * l)))) ?_) (emod_of (k := a * l + i * d + n * i * l + (b * k + j * c + n * j * k) + (p * (b * l + j * d + n * j * l) + e * ((b + n * j) * (d + n * l)))) ?_)
  · grind
  · grind
section
variable {n p q a b : Int}
theorem ends_sq : pm n (p % n) (q % n) (a % n, b % n) (a % n, b % n) = (((2 * a + p * b) * a - nrm n p q (a, b)) % n, (2 * a + p * b) * b % n) := by
  rw [pm_mods]
  obtain ⟨k, hk⟩ := em (a * a + p * a * b + q * b * b) n
  simp only [red, mm, nrm, hk]
  refine Prod.ext (emod_of (k := k) ?_) (congrArg (· % n) ?_)
  · grind
  · grind
theorem ends_turn : pm n (p % n) (q % n) (a % n, b % n) ((a + p * b) % n, (0 - b) % n) = (nrm n p q (a, b), 0) := by
  rw [pm_mods]
  simp only [red, mm, nrm]
  refine Prod.ext (congrArg (· % n) ?_) ?_
  · grind
  · show (a * (0 - b) + b * (a + p * b) + p * (b * (0 - b))) % n = 0
    rw [show a * (0 - b) + b * (a + p * b) + p * (b * (0 - b)) = 0 by grind]
    exact Int.zero_emod n
theorem ends_inv {k : Int} (h : k * nrm n p q (a, b) % n = 1) : pm n (p % n) (q % n) (a % n, b % n) ((a + p * b) * k % n, (0 - b) * k % n) = (1, 0) := by
  rw [pm_mods]
  obtain ⟨j, hj⟩ := em (a * a + p * a * b + q * b * b) n
  simp only [nrm, hj] at h
  simp only [red, mm]
  refine Prod.ext ?_ ?_
  · show (a * ((a + p * b) * k) - q * (b * ((0 - b) * k))) % n = 1
    rw [← h]
    exact emod_of (k := -(k * j)) (by grind)
  · show (a * ((0 - b) * k) + b * ((a + p * b) * k) + p * (b * ((0 - b) * k))) % n = 0
    rw [show a * ((0 - b) * k) + b * ((a + p * b) * k) + p * (b * ((0 - b) * k)) = 0 by grind]
    exact Int.zero_emod n
theorem nrm_bd (h : 0 < n) : 0 ≤ nrm n p q (a, b) ∧ nrm n p q (a, b) < n := ⟨Int.emod_nonneg _ (by omega), Int.emod_lt_of_pos _ h⟩
end
theorem foldl_if {P : Int → Prop} [DecidablePred P] {Z : Int → Prop} : ∀ (ks acc : List Int), (∀ k ∈ ks, P k → Z k) → (∀ k ∈ acc, Z k) → ∀ k ∈ ks.foldl (fun l k => if P k then l ++ [k] else l) acc, Z k
  | [], acc, _, h => h
  | x :: r, acc, hZ, h => by
    rw [List.foldl_cons]
    refine foldl_if r _ (fun k hk => hZ k (.tail _ hk)) ?_
    split
    · rename_i hx
      intro k hk
      rcases List.mem_append.mp hk with hk | hk
      · exact h k hk
      · rw [List.mem_singleton.mp hk]; exact hZ x (.head _) hx
    · exact h
-- two pairs of numbers compared
theorem lm_reads {w v : Int} {h : Heap} {l : Addr} {o : Obj} (ho : h.get? l = some o) (hl : Lm w v o) : Reads h (.ref l) (.list ((lims w v).map PyData.int)) [l] := by
  obtain ⟨vs, n, rfl, hi⟩ := hl.ints
  exact reads_of_ints ⟨_, ho, rfl, _, rfl⟩ hi
theorem shaped_pair (x y : List Int) : SeqAt.shaped (.tuple [.list (x.map PyData.int), .list (y.map PyData.int)]) = true := by
  simp [SeqAt.shaped, PyData.canLay0, PyData.canLayAll0, PyData.depth, PyData.depthAll, ke_canLayAll0, ke_depthAll]
section
variable {prog : Program} {wd : World} {A : Around} {E : Value → Shared → Prop} {s : Shared} {t u a b c d : Addr} {n1 n2 : Nat} {oa ob oc od : Obj} {w x y x' y' : Int} {Q : Value → Shared → Prop}
theorem nePair (ht : s.heap.get? t = some (tupO #[.ref a, .ref b] n1)) (hu : s.heap.get? u = some (tupO #[.ref c, .ref d] n2))
    (ha : s.heap.get? a = some oa) (hb : s.heap.get? b = some ob) (hc : s.heap.get? c = some oc) (hd : s.heap.get? d = some od)
    (la : Lm w x oa) (lb : Lm w y ob) (lc : Lm w x' oc) (ld : Lm w y' od) (e : (x, y) = (x', y')) (hU : A.units + 64 < cLine) (h : Q (.bool false) s) :
    wpAny (model prog wd) A (compareOp .NotEq (.ref t) (.ref u)) Q E s := by
  cases e
  have ra : Reads s.heap (.ref t) (.tuple [.list ((lims w x).map PyData.int), .list ((lims w y).map PyData.int)]) ([a] ++ ([b] ++ [])) :=
    .tuple ht rfl rfl (.cons (lm_reads ha la) (.cons (lm_reads hb lb) .nil))
  have rb : Reads s.heap (.ref u) (.tuple [.list ((lims w x).map PyData.int), .list ((lims w y).map PyData.int)]) ([c] ++ ([d] ++ [])) :=
    .tuple hu rfl rfl (.cons (lm_reads hc lc) (.cons (lm_reads hd ld) .nil))
  refine ne_dataH_same ra rb (shaped_pair _ _) (shaped_pair _ _) hU (by simp [SeqAt.noMix, SeqAt.noMixAll, noMix_ints]) ?_
  have e : PySem.Spec.same (.tuple [.list ((lims w x).map PyData.int), .list ((lims w y).map PyData.int)]) (.tuple [.list ((lims w x).map PyData.int), .list ((lims w y).map PyData.int)]) = true := by
    simp [PySem.Spec.same, PySem.Spec.sameAll, same_ints]
  rw [e]; exact h
end
-- a loop over a list of ints of the ledger, whose turn keeps the ledger; two names turn
def TurnPost (h₀ : Heap) (L : Addr) (keep : List (Addr × Obj)) (ns : List Str) (l : List (Option Value)) (Q : Flow → Shared → Prop) (s₁ : Shared) (f : Flow) (s₂ : Shared) : Prop :=
  match f with
  | .ret v => Q (.ret v) s₂
  | .brk => False
  | _ => ∃ h' tk v', s₂ = { s₁ with heap := h', toks := tk } ∧ Fr h₀ L h' (slots ns (l ++ [v'])) ∧ News h₀ L h' keep
section
variable {prog : Program} {w : World} {A : Around} {E : Value → Shared → Prop} {s : Shared} {env : Env} {h₀ : Heap} {x : Str} {body : List Stmt} {Q : Flow → Shared → Prop}
theorem list_loop {I : Addr} {lp : Addr × Obj} {ns : List Str} {l : List (Option Value)} {N0 : List (Addr × Obj)} {vs : List Value} {ks : List Int} (j : Nat) (Z : Int → Prop) (hnd : ns.Nodup)
    (hset : ∀ u v z, SetSlot x z ns (l.take j ++ [u, v]) (l.take j ++ [some z, v])) (hl : l = l.take j ++ [none, none])
    (hmem : lp ∈ N0) (hI : ∀ p ∈ N0, p.1 < I) (hi : IntsAre vs ks) (hz : ∀ k ∈ ks, Z k)
    (turn : ∀ (k : Int) (t : Tok) (v : Option Value) (it : Obj) (h : Heap) (tk : Nat), Z k → it.cls = .type "list_iterator" → Fr h₀ env.locals h (slots ns (l.take j ++ [some (.int k t), v])) → News h₀ env.locals h ((I, it) :: N0) →
      ∀ R : Flow → Shared → Prop, (∀ fl s', TurnPost h₀ env.locals ((I, it) :: N0) ns (l.take j ++ [some (.int k t)]) Q { s with heap := h, toks := tk } fl s' → R fl s') → wpAny (model prog w) A (execs body env) R E { s with heap := h, toks := tk })
    (done : ∀ (u v : Option Value) (h : Heap) (tk : Nat), Fr h₀ env.locals h (slots ns (l.take j ++ [u, v])) → News h₀ env.locals h N0 → Q .next { s with heap := h, toks := tk }) :
    ListRest prog w A E h₀ env x body Q s I lp vs (slots ns l) N0 := by
  have key : ∀ (ks : List Int) (vs : List Value) (u v : Option Value), IntsAre vs ks → (∀ k ∈ ks, Z k) → ListRest prog w A E h₀ env x body Q s I lp vs (slots ns (l.take j ++ [u, v])) N0 := by
    intro ks
    induction ks with
    | nil =>
      intro vs u v hi _
      cases hi
      exact ListRest.zero fun h tk F N => done u v h tk F N
    | cons k r ih =>
      intro vs u v hi hz
      cases hi with
      | cons _ t hr =>
        refine ListRest.succ fun it h tk hc F N => ?_
        have F1 : Fr h₀ env.locals h (slots ns (l.take j ++ [some (.int k t), v])) := (hset u v (.int k t)).set hnd ▸ F
        refine wpAny_mono (turn k t v it h tk (hz k (.head _)) hc F1 N _ fun _ _ x => x) (fun f s₂ p => ?_) fun _ _ e => e
        cases f with
        | ret v => exact p
        | brk => exact p.elim
        | next =>
          obtain ⟨h', tk', v', e, F', N'⟩ := p
          refine ⟨h', tk', _, N0, e, F', N', fun p hp => Nat.ne_of_lt (hI p hp), hmem, ?_⟩
          rw [List.append_assoc]
          exact ih _ (some (.int k t)) v' hr fun k hk => hz k (.tail _ hk)
        | cont =>
          obtain ⟨h', tk', v', e, F', N'⟩ := p
          refine ⟨h', tk', _, N0, e, F', N', fun p hp => Nat.ne_of_lt (hI p hp), hmem, ?_⟩
          rw [List.append_assoc]
          exact ih _ (some (.int k t)) v' hr fun k hk => hz k (.tail _ hk)
  rw [hl]
  exact key ks vs none none hi hz
end

section

local macro_rules | `(tactic| walk_at "call ref") => callLine 212 `use_pairres `pair_product_ok "aannlnlnlnlnanan" "rttttttttt" (res := true)
local macro_rules | `(tactic| walk_at "call ref") => callLine 121 `use_int `bits_k "ana" "t"

section

local macro_rules | `(tactic| walk_at "ite") => rule 'd' `ite_no "A"

local macro_rules | `(tactic| walk_at "pyIter ref") => rule 'd' `stop_here ""

local macro_rules | `(tactic| walk_at "UnrPost") => rule 'd' `stop_here ""
local macro_rules | `(tactic| walk_at "UnrEnd") => rule 'd' `stop_here ""

theorem pow_v {v : Int} {nb i : Nat} (hi : i < nb) (hv : v = (nb : Int) - 1 + (i : Int) * -1) (hn : nb < 4) : v.toNat = nb - (i + 1) ∧ 0 ≤ v ∧ v < 6 ∧ nb - (i + 1) + 1 = nb - i := by omega
set_option maxHeartbeats 4000000 in
theorem pair_power_ok {wd : World} {rg ro t1 xa xb xe xp xq : Addr} {k1 : Nat} {on oa ob oe op oq : Obj} {a b p' q' n w e : Int} (hw : WOk w) (hn : Lm w n on) (h0 : 1 < n) (h1 : n < 2 ^ w.toNat)
    (ha : Lm w a oa) (ha1 : a < n) (hb : Lm w b ob) (hb1 : b < n) (he : Lm w e oe) (he0 : 0 ≤ e) (he6 : e < 6) (hp : Lm w p' op) (hp1 : p' < n) (hq : Lm w q' oq) (hq1 : q' < n) :
    Spec wd 219 18 [.ref t1, .ref xe, .ref xp, .ref xq, .ref rg]
      (fun h => RingH w rg ro h ∧ h.get? ro = some on ∧ h.get? t1 = some (tupO #[.ref xa, .ref xb] k1) ∧ h.get? xa = some oa ∧ h.get? xb = some ob ∧ h.get? xe = some oe ∧ h.get? xp = some op ∧ h.get? xq = some oq)
      (OutPairLm w (pw n p' q' (a, b) e.toNat).1 (pw n p' q' (a, b) e.toNat).2) := by
  refine' Spec.byQ (ns := [Str.ofString "pair", Str.ofString "e", Str.ofString "p", Str.ofString "q", Str.ofString "ring", Str.ofString "found", Str.ofString "spot"]) (sl := [some (.ref t1), some (.ref xe), some (.ref xp), some (.ref xq), some (.ref rg), none, none]) [(Str.ofString "pair", .ref t1), (Str.ofString "e", .ref xe), (Str.ofString "p", .ref xp), (Str.ofString "q", .ref xq), (Str.ofString "ring", .ref rg)] [Str.ofString "found", Str.ofString "spot"] [Str.ofString "range", Str.ofString "bits", Str.ofString "pair_product", Str.ofString "bit"] ?ho ?hcd ?hbind ?hloc ?hco ?hgen ?hk ?hcell ?hns ?hsl ?hS ?hG ?_
  walk_at "mine sides"
  intro p loose mean mg mb dp un gd outer A₀ base g L s B F X N T hcs hS hG ⟨hR, hpn, hg1, hga, hgb, hge, hgp, hgq⟩ hd hu Q hQ
  refine ex11 (id hR) fun dx h1' h2' h3' h4' s1 s2 s3 s4 tw ep I => ?_
  have h00 : 0 < n := by omega
  have hB1 : (1 : Int) < 2 ^ w.toNat := by omega
  have hBB := base_le hw
  have hB2 := hBB.2
  obtain ⟨nb, hbt, hnb, hen, hz, _⟩ := bits6 he0 he6
  have he7 : e < 2 ^ w.toNat := by omega
  k_steps
  unfold Stop
  refine krs_iter (n := nb) (by rfl) (by assumption) (down_small (by omega)) (down_size (by omega)) (by assumption) (by assumption) fun I hI => ?_
  refine krs_ind (J := fun i m news => ∃ fd fa fb fn fo fq sv, m = slots [Str.ofString "pair", Str.ofString "e", Str.ofString "p", Str.ofString "q", Str.ofString "ring", Str.ofString "found", Str.ofString "spot"] [some (.ref t1), some (.ref xe), some (.ref xp), some (.ref xq), some (.ref rg), some (.ref fd), sv] ∧
    (fd, tupO #[.ref fa, .ref fb] fn) ∈ news ∧ (fa, fo) ∈ news ∧ (fb, fq) ∈ news ∧ Lm w (pw n p' q' (a, b) (e.toNat / 2 ^ (nb - i))).1 fo ∧ Lm w (pw n p' q' (a, b) (e.toNat / 2 ^ (nb - i))).2 fq) ?_ (fun i v t m news it h tk hi hv hc hJ F N R hR => ?_) (fun m news h tk hJ F N => ?_)
  · refine ⟨_, _, _, _, _, _, _, rfl, .head _, by k_mem, by k_mem, ?_, ?_⟩
    · rw [Nat.sub_zero, Nat.div_eq_of_lt hen]; exact lm_one (v := 1) rfl (by decide) hB1
    · rw [Nat.sub_zero, Nat.div_eq_of_lt hen]; exact lm_nil (v := 0) rfl
  · refine ex7 hJ fun fd fa fb fn fo fq sv h8 => ?_
    clear hJ
    refine and6 h8 fun hm m1 m2 m3 l1 l2 => ?_
    clear h8
    have N1 := news_locals (news_sub N (l := [(I, it), (fd, tupO #[.ref fa, .ref fb] fn), (fa, fo), (fb, fq)]) ⟨.head _, .tail _ m1, .tail _ m2, .tail _ m3, trivial⟩)
    clear N m1 m2 m3
    subst hm
    refine' fr_goal F hS ?hs ?_
    case hs => walk_at "mine set"
    clear F
    intro F
    obtain ⟨hv2, hv0, hv6, hsub⟩ := pow_v hi hv hnb
    clear hv
    have hx := bit_nat he0 v.toNat
    have hE := @half_up e.toNat (nb - (i + 1))
    rw [hsub, ← hv2] at hE
    obtain ⟨u1, u2⟩ := @pw_lt n p' q' (a, b) h0 (e.toNat / 2 ^ (nb - i))
    have hD := @pw_dbl n p' q' (a, b) h0 (e.toNat / 2 ^ (nb - i))
    have e0 : 0 < e := by omega
    rcases (show e.toNat / 2 ^ v.toNat % 2 = 0 ∨ e.toNat / 2 ^ v.toNat % 2 = 1 by omega) with hb | hb
    · have hc1 : ¬ e / 2 ^ v.toNat % 2 = 1 := by rw [hx, hb]; decide
      rw [hb] at hE
      have E : pw n p' q' (a, b) (e.toNat / 2 ^ v.toNat) = pm n p' q' (pw n p' q' (a, b) (e.toNat / 2 ^ (nb - i))) (pw n p' q' (a, b) (e.toNat / 2 ^ (nb - i))) := by rw [hE, Nat.add_zero]; exact hD.symm
      k_steps
      refine hR _ _ ?_
      refine' unr_end [(_, tupO #[.ref _, .ref _] _), (_, _), (_, _)] (by assumption) (by assumption) ?hI ?sub ?off ⟨_, _, _, _, _, _, _, rfl, .head _, .tail _ (.head _), .tail _ (.tail _ (.head _)), ?l1, ?l2⟩
      case sub => k_subL
      case hI => k_mem
      case l1 => rw [← hv2, E]; assumption
      case l2 => rw [← hv2, E]; assumption
      case off => exact ⟨by rw [hc]; k_cls, lm_cls_ne (by assumption) hc, lm_cls_ne (by assumption) hc, trivial⟩
    · have hc1 : e / 2 ^ v.toNat % 2 = 1 := by rw [hx, hb]; decide
      rw [hb] at hE
      have E : pw n p' q' (a, b) (e.toNat / 2 ^ v.toNat) = pm n p' q' (pm n p' q' (pw n p' q' (a, b) (e.toNat / 2 ^ (nb - i))) (pw n p' q' (a, b) (e.toNat / 2 ^ (nb - i)))) (a, b) := by rw [hE, ← pw_inc, ← pw_dbl h0]
      k_steps
      refine hR _ _ ?_
      refine' unr_end [(_, tupO #[.ref _, .ref _] _), (_, _), (_, _)] (by assumption) (by assumption) ?hI ?sub ?off ⟨_, _, _, _, _, _, _, rfl, .head _, .tail _ (.head _), .tail _ (.tail _ (.head _)), ?l1, ?l2⟩
      case sub => k_subL
      case hI => k_mem
      case l1 => rw [← hv2, E]; assumption
      case l2 => rw [← hv2, E]; assumption
      case off => exact ⟨by rw [hc]; k_cls, lm_cls_ne (by assumption) hc, lm_cls_ne (by assumption) hc, trivial⟩
  · refine ex7 hJ fun fd fa fb fn fo fq sv h8 => ?_
    clear hJ
    refine and6 h8 fun hm m1 m2 m3 l1 l2 => ?_
    clear h8
    subst hm
    replace F := fr_locals F
    replace N := news_locals N
    rw [Nat.sub_self, Nat.pow_zero, Nat.div_one] at l1 l2
    k_steps
    try dsimp only
    refine hQ _ _ ?_; exact done_pairlm rfl (by assumption) (by assumption) m1 m2 m3 l1 l2

end

local macro_rules | `(tactic| walk_at "call ref") => callLine 268 `use_pairlm `divrem_school_ok "alann" "tt"

section

local macro_rules | `(tactic| walk_at "ite") => rule 'd' `ite_no "A"

local macro_rules | `(tactic| walk_at "pyIter ref") => rule 'd' `stop_here ""

local macro_rules | `(tactic| walk_at "UnrPost") => rule 'd' `stop_here ""
local macro_rules | `(tactic| walk_at "UnrEnd") => rule 'd' `stop_here ""

theorem down2_small {n : Nat} (h1 : 1 ≤ n) (h : n < 5) : Builtin.Range.small ((n : Int) - 2) (-1) (-1) = true := by
  rcases (show n = 1 ∨ n = 2 ∨ n = 3 ∨ n = 4 by omega) with rfl | rfl | rfl | rfl <;> decide
theorem down2_size {n : Nat} (h1 : 1 ≤ n) (h : n < 5) : Builtin.Range.rangeSize ((n : Int) - 2) (-1) (-1) = ((n - 1 : Nat) : Int) := by
  rcases (show n = 1 ∨ n = 2 ∨ n = 3 ∨ n = 4 by omega) with rfl | rfl | rfl | rfl <;> decide
theorem rows_v {v : Int} {nb i : Nat} (hi : i < nb - 1) (hv : v = (nb : Int) - 2 + (i : Int) * -1) (hn : nb < 4) : v.toNat = nb - 1 - (i + 1) ∧ 0 ≤ v ∧ v < 6 ∧ nb - 1 - (i + 1) + 1 = nb - 1 - i := by omega
theorem mod2 (m : Nat) : m % 2 = 0 ∨ m % 2 = 1 := by omega
theorem lr_tri {g h' : Heap} {s₀ s' : Shared} {L' a b c d : Addr} {m' : Str → Option Value} {tk' n : Nat} {news : List (Addr × Obj)} {o q r : Obj} {w : Int} {z : Int × Int × Int} {R : List (Addr × Obj) → Value → Prop}
    (es : s' = { s₀ with heap := h', toks := tk' }) (F : Fr g L' h' m') (N : News g L' h' news) (hm : (a, tupO #[.ref b, .ref c, .ref d] n) ∈ news) (hb : (b, o) ∈ news) (hc : (c, q) ∈ news) (hd : (d, r) ∈ news)
    (h1 : Lm w z.1 o) (h2 : Lm w z.2.1 q) (h3 : Lm w z.2.2 r) : Done g s₀ (fun tl x => OutTri w z tl x ∨ R tl x) (.ref a) s' := by
  obtain ⟨L', m', tl, h', tk', e, F', N', ho⟩ := done_tri es F N hm hb hc hd h1 h2 h3
  exact ⟨L', m', tl, h', tk', e, F', N', .inl ho⟩
theorem lr_one {g h' : Heap} {s₀ s' : Shared} {L' a b xp xq : Addr} {m' : Str → Option Value} {tk' n : Nat} {news : List (Addr × Obj)} {o : Obj} {w u : Int} {P : Prop} {R : List (Addr × Obj) → Value → Prop}
    (es : s' = { s₀ with heap := h', toks := tk' }) (F : Fr g L' h' m') (N : News g L' h' news) (hm : (a, tupO #[.ref b, .ref xp, .ref xq] n) ∈ news) (hb : (b, o) ∈ news) (h1 : Lm w u o) (hP : P) : Done g s₀ (fun tl x => R tl x ∨ (P ∧ OutTri1 w u xp xq tl x)) (.ref a) s' := by
  obtain ⟨L', m', tl, h', tk', e, F', N', ho⟩ := done_tri1 es F N hm hb h1
  exact ⟨L', m', tl, h', tk', e, F', N', .inr ⟨hP, ho⟩⟩
theorem at_or {g h : Heap} {L v : Addr} {m : Str → Option Value} {ov : Obj} {TL all : List (Addr × Obj)} (N : News g L h all) (F : Fr g L h m) (hv : (v, ov) ∈ TL ∨ g.get? v = some ov) (hs : (v, ov) ∈ TL → (v, ov) ∈ all) : h.get? v = some ov :=
  hv.elim (fun x => (N _ (hs x)).1) fun x => F.keep _ _ x
local macro_rules | `(tactic| walk_at "mine at") => `(tactic| (refine' at_or (by with_reducible assumption) (by with_reducible assumption) ?hv ?hs; (case hv => with_reducible assumption); (case hs => (intro h8; repeat (first | exact h8 | apply List.Mem.tail)))))
set_option maxHeartbeats 4000000 in
theorem lucas_rows_ok {wd : World} {rg ro xp xd xq xm : Addr} {on op od oq om : Obj} {p' d' q' n w e : Int} (hw : WOk w) (hn : Lm w n on) (h0 : 1 < n) (h1 : n < 2 ^ w.toNat) (hod : n % 2 = 1)
    (hp : Lm w p' op) (hp1 : p' < n) (hd' : Lm w d' od) (hd1 : d' < n) (hq : Lm w q' oq) (hq1 : q' < n) (hm : Lm w e om) (he0 : 0 < e) (he6 : e < 6) (hdd : d' % n = (p' * p' - 4 * q') % n) :
    Spec wd 198 18 [.ref rg, .ref xp, .ref xd, .ref xq, .ref xm]
      (fun h => RingH w rg ro h ∧ h.get? ro = some on ∧ h.get? xp = some op ∧ h.get? xd = some od ∧ h.get? xq = some oq ∧ h.get? xm = some om)
      (fun tl x => OutTri w (luc n p' q' (pw n p' q' (0, 1) e.toNat)) tl x ∨ (e = 1 ∧ OutTri1 w (1 % n) xp xq tl x)) := by
  refine' Spec.byQ (ns := [Str.ofString "ring", Str.ofString "p", Str.ofString "d", Str.ofString "q", Str.ofString "m", Str.ofString "u", Str.ofString "v", Str.ofString "power", Str.ofString "spot", Str.ofString "first"]) (sl := [some (.ref rg), some (.ref xp), some (.ref xd), some (.ref xq), some (.ref xm), none, none, none, none, none]) [(Str.ofString "ring", .ref rg), (Str.ofString "p", .ref xp), (Str.ofString "d", .ref xd), (Str.ofString "q", .ref xq), (Str.ofString "m", .ref xm)] [Str.ofString "u", Str.ofString "v", Str.ofString "power", Str.ofString "spot", Str.ofString "first"] [Str.ofString "range", Str.ofString "bits", Str.ofString "bit"] ?ho ?hcd ?hbind ?hloc ?hco ?hgen ?hk ?hcell ?hns ?hsl ?hS ?hG ?_
  walk_at "mine sides"
  intro p loose mean mg mb dp un gd outer A₀ base g L s B F X N T hcs hS hG ⟨hR, hpn, hgp, hgd, hgq, hgm⟩ hd hu Q hQ
  refine ex11 (id hR) fun dx h1' h2' h3' h4' s1 s2 s3 s4 tw ep I => ?_
  have h00 : 0 < n := by omega
  have hB1 : (1 : Int) < 2 ^ w.toNat := by omega
  have hBB := base_le hw
  have hB2 := hBB.2
  have he7 : e < 2 ^ w.toNat := by omega
  obtain ⟨nb, hbt, hnb, hen, hz, hen1⟩ := bits6 (Int.le_of_lt he0) he6
  obtain ⟨hnb1, hen2⟩ := hen1 he0
  have h1n : (1 : Int) % n < n := Int.emod_lt_of_pos _ h00
  have p0 := hp.nonneg
  have q0 := hq.nonneg
  have hL0 : L0 n p' q' = luc n p' q' (pw n p' q' (0, 1) 1) := by
    rw [luc_0 h0 p0 hp1 q0 hq1]
    exact congrArg (luc n p' q') (pw1 (by omega) (by omega) (by omega) h0).symm
  k_steps
  unfold Stop
  refine krs_iter (n := nb - 1) (by rfl) (by assumption) (down2_small (by omega) (by omega)) (down2_size (by omega) (by omega)) (by assumption) (by assumption) fun I hI => ?_
  refine krs_ind (J := fun i m news => ∃ xu xv xw ou ov ow sv fv, m = slots [Str.ofString "ring", Str.ofString "p", Str.ofString "d", Str.ofString "q", Str.ofString "m", Str.ofString "u", Str.ofString "v", Str.ofString "power", Str.ofString "spot", Str.ofString "first"] [some (.ref rg), some (.ref xp), some (.ref xd), some (.ref xq), some (.ref xm), some (.ref xu), some (.ref xv), some (.ref xw), sv, fv] ∧
    (xu, ou) ∈ news ∧ (i = 0 ∧ xv = xp ∧ ov = op ∧ xw = xq ∧ ow = oq ∨ (xv, ov) ∈ news ∧ (xw, ow) ∈ news) ∧ Lm w (luc n p' q' (pw n p' q' (0, 1) (e.toNat / 2 ^ (nb - 1 - i)))).1 ou ∧ Lm w (luc n p' q' (pw n p' q' (0, 1) (e.toNat / 2 ^ (nb - 1 - i)))).2.1 ov ∧ Lm w (luc n p' q' (pw n p' q' (0, 1) (e.toNat / 2 ^ (nb - 1 - i)))).2.2 ow)
    ?_ (fun i v t m news it h tk hi hv hc hJ F N R hR => ?_) (fun m news h tk hJ F N => ?_)
  · refine ⟨_, _, _, _, _, _, _, _, rfl, by k_mem, .inl ⟨rfl, rfl, rfl, rfl, rfl⟩, ?_, ?_, ?_⟩
    · rw [Nat.sub_zero, hen2, ← hL0]; assumption
    · rw [Nat.sub_zero, hen2, ← hL0]; exact hp
    · rw [Nat.sub_zero, hen2, ← hL0]; exact hq
  · refine ex8 hJ fun xu xv xw ou ov ow sv fv h8 => ?_
    clear hJ
    refine and6 h8 fun hm m1 m2 l1 l2 l3 => ?_
    clear h8
    subst hm
    refine' fr_goal F hS ?hs ?_
    case hs => walk_at "mine set"
    clear F
    intro F
    obtain ⟨hv2, hv0, hv6, hsub⟩ := rows_v hi hv hnb
    clear hv
    have hx := bit_nat (Int.le_of_lt he0) v.toNat
    have hE := @half_up e.toNat (nb - 1 - (i + 1))
    rw [hsub, ← hv2] at hE
    obtain ⟨u1, u2, u3⟩ := @luc_lt n p' q' (pw n p' q' (0, 1) (e.toNat / 2 ^ (nb - 1 - i))) h00 (pw_lt h0 _).2
    have hD := @pw_dbl n p' q' (0, 1) h0 (e.toNat / 2 ^ (nb - 1 - i))
    have hb2 := mod2 (e.toNat / 2 ^ v.toNat)
    refine execs_split 2 (fun s' => ∃ yu yv yw pu pv pw' fv' h' tk', s' = { s with heap := h', toks := tk' } ∧ Fr g L h' (slots [Str.ofString "ring", Str.ofString "p", Str.ofString "d", Str.ofString "q", Str.ofString "m", Str.ofString "u", Str.ofString "v", Str.ofString "power", Str.ofString "spot", Str.ofString "first"] [some (.ref rg), some (.ref xp), some (.ref xd), some (.ref xq), some (.ref xm), some (.ref yu), some (.ref yv), some (.ref yw), some (.int v t), fv']) ∧
      News g L h' [(I, it), (yu, pu), (yv, pv), (yw, pw')] ∧ Lm w (Ldbl n (luc n p' q' (pw n p' q' (0, 1) (e.toNat / 2 ^ (nb - 1 - i))))).1 pu ∧ Lm w (Ldbl n (luc n p' q' (pw n p' q' (0, 1) (e.toNat / 2 ^ (nb - 1 - i))))).2.1 pv ∧ Lm w (Ldbl n (luc n p' q' (pw n p' q' (0, 1) (e.toNat / 2 ^ (nb - 1 - i))))).2.2 pw') ?_ ?_
    · intro R2 hR2 _
      show wpAny _ _ (execs [_, _] _) _ _ _
      obtain ⟨TL, hTL, hvv, hww⟩ : ∃ TL : List (Addr × Obj), (∀ p ∈ TL, p ∈ news) ∧ ((xv, ov) ∈ TL ∨ g.get? xv = some ov) ∧ ((xw, ow) ∈ TL ∨ g.get? xw = some ow) := by
        rcases m2 with ⟨_, rfl, rfl, rfl, rfl⟩ | ⟨m2, m3⟩
        · exact ⟨[], (fun _ h => nomatch h), .inr hgp, .inr hgq⟩
        · exact ⟨[(xv, ov), (xw, ow)], (fun p hp => by
            rcases List.mem_cons.mp hp with rfl | hp
            · exact m2
            · rw [List.mem_singleton.mp hp]; exact m3), .inl (.head _), .inl (.tail _ (.head _))⟩
      have N1 : News g L h ((I, it) :: (xu, ou) :: TL) := news_locals (fun p hp => by
        rcases List.mem_cons.mp hp with rfl | hp
        · exact N _ (.head _)
        · rcases List.mem_cons.mp hp with rfl | hp
          · exact N _ (.tail _ m1)
          · exact N _ (.tail _ (hTL p hp)))
      clear N m1 m2 hTL
      k_steps
      try dsimp only
      refine hR2 _ ?_
      refine' ⟨_, _, _, _, _, _, _, _, _, rfl, by assumption, news_sub (by assumption) ?sub, ?l1, ?l2, ?l3⟩
      case sub => k_subL
      case l1 => show Lm w (Ldbl n (luc n p' q' (pw n p' q' (0, 1) (e.toNat / 2 ^ (nb - 1 - i))))).1 _; assumption
      case l2 => show Lm w (Ldbl n (luc n p' q' (pw n p' q' (0, 1) (e.toNat / 2 ^ (nb - 1 - i))))).2.1 _; assumption
      case l3 => show Lm w (Ldbl n (luc n p' q' (pw n p' q' (0, 1) (e.toNat / 2 ^ (nb - 1 - i))))).2.2 _; assumption
    · rintro s9 h9
      refine ex9 h9 fun yu yv yw pu pv pw' fv' h' tk' h8 => ?_
      refine and6 h8 fun e9 F1 N1 k1 k2 k3 => ?_
      subst e9
      clear h9 h8
      show wpAny _ _ (execs [_] _) _ _ _
      clear F N l1 l2 l3 m1 m2
      have b1 : (Ldbl n (luc n p' q' (pw n p' q' (0, 1) (e.toNat / 2 ^ (nb - 1 - i))))).1 < n := Int.emod_lt_of_pos _ h00
      have b2 : (Ldbl n (luc n p' q' (pw n p' q' (0, 1) (e.toNat / 2 ^ (nb - 1 - i))))).2.1 < n := Int.emod_lt_of_pos _ h00
      have b3 : (Ldbl n (luc n p' q' (pw n p' q' (0, 1) (e.toNat / 2 ^ (nb - 1 - i))))).2.2 < n := Int.emod_lt_of_pos _ h00
      rcases hb2 with hb | hb
      · have hc1 : ¬ e / 2 ^ v.toNat % 2 = 1 := by rw [hx, hb]; decide
        rw [hb] at hE
        have E : luc n p' q' (pw n p' q' (0, 1) (e.toNat / 2 ^ v.toNat)) = Ldbl n (luc n p' q' (pw n p' q' (0, 1) (e.toNat / 2 ^ (nb - 1 - i)))) := by rw [luc_dbl, hD, hE, Nat.add_zero]
        k_steps
        refine hR _ _ ?_
        refine' unr_end [(_, _), (_, _), (_, _)] (by assumption) (by assumption) ?hI ?sub ?off ⟨_, _, _, _, _, _, _, _, rfl, .head _, .inr ⟨.tail _ (.head _), .tail _ (.tail _ (.head _))⟩, ?l1, ?l2, ?l3⟩
        case sub => k_subL
        case hI => k_mem
        case l1 => rw [← hv2, E]; assumption
        case l2 => rw [← hv2, E]; assumption
        case l3 => rw [← hv2, E]; assumption
        case off => exact ⟨lm_cls_ne (by assumption) hc, lm_cls_ne (by assumption) hc, lm_cls_ne (by assumption) hc, trivial⟩

      · have hc1 : e / 2 ^ v.toNat % 2 = 1 := by rw [hx, hb]; decide
        rw [hb] at hE
        have E : luc n p' q' (pw n p' q' (0, 1) (e.toNat / 2 ^ v.toNat)) = Linc n p' d' q' (Ldbl n (luc n p' q' (pw n p' q' (0, 1) (e.toNat / 2 ^ (nb - 1 - i))))) := by rw [luc_dbl, luc_inc hod h00 hdd, hD, pw_inc, ← hE]
        k_steps
        refine hR _ _ ?_
        refine' unr_end [(_, _), (_, _), (_, _)] (by assumption) (by assumption) ?hI ?sub ?off ⟨_, _, _, _, _, _, _, _, rfl, .head _, .inr ⟨.tail _ (.head _), .tail _ (.tail _ (.head _))⟩, ?l1, ?l2, ?l3⟩
        case sub => k_subL
        case hI => k_mem
        case l1 => rw [← hv2, E]; assumption
        case l2 => rw [← hv2, E]; assumption
        case l3 => rw [← hv2, E]; assumption
        case off => exact ⟨lm_cls_ne (by assumption) hc, lm_cls_ne (by assumption) hc, lm_cls_ne (by assumption) hc, trivial⟩

  · refine ex8 hJ fun xu xv xw ou ov ow sv fv h8 => ?_
    clear hJ
    refine and6 h8 fun hm m1 m2 l1 l2 l3 => ?_
    clear h8
    subst hm
    replace F := fr_locals F
    replace N := news_locals N
    rw [Nat.sub_self, Nat.pow_zero, Nat.div_one] at l1 l2 l3
    rcases m2 with ⟨hi, rfl, rfl, rfl, rfl⟩ | ⟨m2, m3⟩
    · have he1 : e = 1 := by
        have : nb - 1 = 0 := hi
        rw [this, Nat.pow_zero, Nat.div_one] at hen2
        omega
      subst he1
      have l4 : Lm w (1 % n) ou := by
        have : luc n p' q' (pw n p' q' (0, 1) (1 : Int).toNat) = L0 n p' q' := hL0.symm
        rw [this] at l1; exact l1
      k_steps
      try dsimp only
      refine hQ _ _ ?_; exact lr_one rfl (by assumption) (by assumption) (.head _) (.tail _ m1) l4 rfl
    · k_steps
      try dsimp only
      refine hQ _ _ ?_; exact lr_tri rfl (by assumption) (by assumption) (.head _) (.tail _ m1) (.tail _ m2) (.tail _ m3) l1 l2 l3

end

section

local macro_rules | `(tactic| walk_at "call ref") => callLine 142 `use_res `signed_rest_ok "aannnn" "t" (res := true)
local macro_rules | `(tactic| walk_at "call ref") => callLine 198 `use_tri2 `lucas_rows_ok "aannnananananna" "rttttt" (many := true)
local macro_rules | `(tactic| walk_at "call ref") => both (isCall 187) (rule 'd' `call_cls "yyyIII" 1 "ring made")
local macro_rules | `(tactic| walk_at "ring made") => `(tactic| k_dflt (k_whole; (intro x' d' h' F' N' l1 l2); (try k_lt l1); (try k_lt2 l2); (try k_sweep); ktr_enter))

local macro_rules | `(tactic| walk_at "ite") => rule 'd' `ite_no "A"

local macro_rules | `(tactic| walk_at "mine dummy") => `(tactic| skip)

local macro_rules | `(tactic| walk_at "mine dummy") => `(tactic| skip)


theorem sq_le {p : Int} (h1 : -9 ≤ p) (h2 : p ≤ 9) : 0 ≤ p * p ∧ p * p ≤ 81 := by
  have h3 := Int.mul_nonneg (show 0 ≤ 9 - p by omega) (show 0 ≤ 9 + p by omega)
  have h4 : (9 - p) * (9 + p) = 81 - p * p := by grind
  refine ⟨?_, by omega⟩
  rcases (show 0 ≤ p ∨ 0 ≤ -p by omega) with h | h
  · exact Int.mul_nonneg h h
  · have := Int.mul_nonneg h h
    rw [Int.neg_mul_neg] at this; exact this
theorem disc {n p q : Int} : (p * p - 4 * q) % n % n = (p % n * (p % n) - 4 * (q % n)) % n := by
  rw [Int.emod_emod]
  obtain ⟨i, hi⟩ := em p n
  obtain ⟨j, hj⟩ := em q n
  rw [hi, hj]
  exact (emod_of (k := 2 * p * i + n * i * i - 4 * j) (by grind)).symm

set_option maxHeartbeats 8000000 in
theorem lucas_rests_0 {wd : World} {xm ro : Addr} {om on : Obj} {p q n w : Int} {t t' u : Tok} (hw : WOk w) (hn : Lm w n on) (h0 : 1 < n) (h1 : n < 2 ^ w.toNat) (hod : n % 2 = 1) (hp0 : -9 ≤ p) (hp1 : p ≤ 9) (hq0 : -9 ≤ q) (hq1 : q ≤ 9) (hm : Lm w 0 om) :
    Spec wd 205 22 [.ref xm, .int p t, .int q t', .ref ro, .int w u, .ref 226, .ref 268] (fun h => h.get? xm = some om ∧ h.get? ro = some on)
      (OutTri w (luc n (p % n) (q % n) (pw n (p % n) (q % n) (0, 1) 0))) := by
  refine' Spec.byQ (ns := [Str.ofString "m", Str.ofString "p", Str.ofString "q", Str.ofString "n", Str.ofString "w", Str.ofString "mul", Str.ofString "divrem", Str.ofString "ring", Str.ofString "d"]) (sl := [some (.ref xm), some (.int p t), some (.int q t'), some (.ref ro), some (.int w u), some (.ref 226), some (.ref 268), none, none]) [(Str.ofString "m", .ref xm), (Str.ofString "p", .int p t), (Str.ofString "q", .int q t'), (Str.ofString "n", .ref ro), (Str.ofString "w", .int w u), (Str.ofString "mul", .ref 226), (Str.ofString "divrem", .ref 268)] [Str.ofString "ring", Str.ofString "d"] [Str.ofString "check_odd", Str.ofString "signed_rest", Str.ofString "Ring", Str.ofString "lucas_rows"] ?ho ?hcd ?hbind ?hloc ?hco ?hgen ?hk ?hcell ?hns ?hsl ?hS ?hG ?_
  walk_at "mine sides"
  intro p' loose mean mg mb dp un gd outer A₀ base g L s B F X N T hcs hS hG ⟨hgm, hpn⟩ hd hu Q hQ
  have h00 : 0 < n := by omega
  have hB1 : (1 : Int) < 2 ^ w.toNat := by omega
  have hdd := @disc n p q
  have hpp := sq_le hp0 hp1
  have hee : (0 : Int) = 0 := by decide
  k_steps
  try dsimp only
  refine hQ _ _ ?_; refine done_tri rfl (by assumption) (by assumption) (.head _) (by k_mem) (by k_mem) (by k_mem) (show Lm w 0 _ from lm_nil rfl) ?_ ?_
  · show Lm w ((2 * 1 + p % n * 0) % n) _
    rw [show 2 * 1 + p % n * 0 = 2 by omega]; assumption
  · show Lm w ((1 * 1 + p % n * 1 * 0 + q % n * 0 * 0) % n) _
    rw [show 1 * 1 + p % n * 1 * 0 + q % n * 0 * 0 = 1 by omega, Int.emod_eq_of_lt (by omega) h0]
    exact lm_one rfl (by decide) hB1

set_option maxHeartbeats 4000000 in
theorem lucas_rests_pos {wd : World} {xm ro : Addr} {om on : Obj} {p q n w e : Int} {t t' u : Tok} (hw : WOk w) (hn : Lm w n on) (h0 : 1 < n) (h1 : n < 2 ^ w.toNat) (hod : n % 2 = 1) (hp0 : -9 ≤ p) (hp1 : p ≤ 9) (hq0 : -9 ≤ q) (hq1 : q ≤ 9) (hm : Lm w e om) (he0 : 0 < e) (he6 : e < 6) :
    Spec wd 205 22 [.ref xm, .int p t, .int q t', .ref ro, .int w u, .ref 226, .ref 268] (fun h => h.get? xm = some om ∧ h.get? ro = some on)
      (OutTri w (luc n (p % n) (q % n) (pw n (p % n) (q % n) (0, 1) e.toNat))) := by
  refine' Spec.byQ (ns := [Str.ofString "m", Str.ofString "p", Str.ofString "q", Str.ofString "n", Str.ofString "w", Str.ofString "mul", Str.ofString "divrem", Str.ofString "ring", Str.ofString "d"]) (sl := [some (.ref xm), some (.int p t), some (.int q t'), some (.ref ro), some (.int w u), some (.ref 226), some (.ref 268), none, none]) [(Str.ofString "m", .ref xm), (Str.ofString "p", .int p t), (Str.ofString "q", .int q t'), (Str.ofString "n", .ref ro), (Str.ofString "w", .int w u), (Str.ofString "mul", .ref 226), (Str.ofString "divrem", .ref 268)] [Str.ofString "ring", Str.ofString "d"] [Str.ofString "check_odd", Str.ofString "signed_rest", Str.ofString "Ring", Str.ofString "lucas_rows"] ?ho ?hcd ?hbind ?hloc ?hco ?hgen ?hk ?hcell ?hns ?hsl ?hS ?hG ?_
  walk_at "mine sides"
  intro p' loose mean mg mb dp un gd outer A₀ base g L s B F X N T hcs hS hG ⟨hgm, hpn⟩ hd hu Q hQ
  have h00 : 0 < n := by omega
  have hB1 : (1 : Int) < 2 ^ w.toNat := by omega
  have hdd := @disc n p q
  have hpp := sq_le hp0 hp1
  have hee : ¬ e = 0 := by omega
  k_steps
  · try dsimp only
    refine hQ _ _ ?_; exact done_tri rfl (by assumption) (by assumption) (.head _) (by k_mem) (by k_mem) (by k_mem) (by assumption) (by assumption) (by assumption)
  · try dsimp only
    have ee : e = 1 := by assumption
    subst ee
    have E : L0 n (p % n) (q % n) = luc n (p % n) (q % n) (pw n (p % n) (q % n) (0, 1) (1 : Int).toNat) := by
      rw [luc_0 h0 (Int.emod_nonneg _ (by omega)) (Int.emod_lt_of_pos _ h00) (Int.emod_nonneg _ (by omega)) (Int.emod_lt_of_pos _ h00)]
      exact congrArg (luc n _ _) (pw1 (by omega) (by omega) (by omega) h0).symm
    refine hQ _ _ ?_
    rw [← E]
    exact done_tri rfl (by assumption) (by assumption) (.head _) (by k_mem) (by k_mem) (by k_mem) (by assumption) (by assumption) (by assumption)
theorem lucas_rests_ok {wd : World} {xm ro : Addr} {om on : Obj} {p q n w e : Int} {t t' u : Tok} (hw : WOk w) (hn : Lm w n on) (h0 : 1 < n) (h1 : n < 2 ^ w.toNat) (hod : n % 2 = 1) (hp0 : -9 ≤ p) (hp1 : p ≤ 9) (hq0 : -9 ≤ q) (hq1 : q ≤ 9) (hm : Lm w e om) (he0 : 0 ≤ e) (he6 : e < 6) :
    Spec wd 205 22 [.ref xm, .int p t, .int q t', .ref ro, .int w u, .ref 226, .ref 268] (fun h => h.get? xm = some om ∧ h.get? ro = some on)
      (OutTri w (luc n (p % n) (q % n) (pw n (p % n) (q % n) (0, 1) e.toNat))) := by
  rcases (show e = 0 ∨ 0 < e by omega) with rfl | h
  · exact lucas_rests_0 hw hn h0 h1 hod hp0 hp1 hq0 hq1 hm
  · exact lucas_rests_pos hw hn h0 h1 hod hp0 hp1 hq0 hq1 hm h he6

end

section

local macro_rules | `(tactic| walk_at "ite") => rule 'd' `ite_no "A"

local macro_rules | `(tactic| walk_at "call ref") => callLine 219 `use_pairlm `pair_power_ok "aannlnlnlnnanan" "rttttttt"
local macro_rules | `(tactic| walk_at "call ref") => callLine 170 `use_res `minus_ok "aannlnln" "rttt" (res := true)


def done (n p q f : Int) (z y : Int × Int) (e : Int) : Int × Int :=
  if f = 4 then ((z.1 + p * z.2 % n) % n, (0 - z.2) % n) else if f = 2 then pw n p q z e.toNat else pm n p q z (if f = 0 then y else if f = 1 then z else (0, 1))
set_option maxHeartbeats 4000000 in
theorem law_done_ok {wd : World} {rg ro t1 t2 tt xa xb xc xd xp xq : Addr} {k1 k2 k3 : Nat} {on oa ob oc od op oq : Obj} {a b c d p' q' n w f e : Int} {s8 s9 : Tok} (hw : WOk w) (hn : Lm w n on) (h0 : 1 < n) (h1 : n < 2 ^ w.toNat)
    (ha : Lm w a oa) (ha1 : a < n) (hb : Lm w b ob) (hb1 : b < n) (hc : Lm w c oc) (hc1 : c < n) (hd : Lm w d od) (hd1 : d < n) (hp : Lm w p' op) (hp1 : p' < n) (hq : Lm w q' oq) (hq1 : q' < n) (hf : 0 ≤ f) (hf1 : f < 5) (he : 0 ≤ e) (he1 : e < 4) :
    Spec wd 310 20 [.int f s8, .ref t1, .ref t2, .int e s9, .ref tt, .ref rg]
      (fun h => RingH w rg ro h ∧ h.get? ro = some on ∧ h.get? t1 = some (tupO #[.ref xa, .ref xb] k1) ∧ h.get? t2 = some (tupO #[.ref xc, .ref xd] k2) ∧ h.get? xa = some oa ∧ h.get? xb = some ob ∧ h.get? xc = some oc ∧ h.get? xd = some od ∧ h.get? tt = some (tupO #[.ref xp, .ref xq] k3) ∧ h.get? xp = some op ∧ h.get? xq = some oq)
      (OutPairLm w (done n p' q' f (a, b) (c, d) e).1 (done n p' q' f (a, b) (c, d) e).2) := by
  refine' Spec.byQ (ns := [Str.ofString "form", Str.ofString "pair", Str.ofString "other", Str.ofString "e", Str.ofString "rests", Str.ofString "ring", Str.ofString "p", Str.ofString "q"]) (sl := [some (.int f s8), some (.ref t1), some (.ref t2), some (.int e s9), some (.ref tt), some (.ref rg), none, none]) [(Str.ofString "form", .int f s8), (Str.ofString "pair", .ref t1), (Str.ofString "other", .ref t2), (Str.ofString "e", .int e s9), (Str.ofString "rests", .ref tt), (Str.ofString "ring", .ref rg)] [Str.ofString "p", Str.ofString "q"] [Str.ofString "pair_power", Str.ofString "pair_product"] ?ho ?hcd ?hbind ?hloc ?hco ?hgen ?hk ?hcell ?hns ?hsl ?hS ?hG ?_
  walk_at "mine sides"
  intro p loose mean mg mb dp un gd outer A₀ base g L s B F X N T hcs hS hG ⟨hR, hpn, hg1, hg2, hga, hgb, hgc, hgd, hgt, hgp, hgq⟩ hd' hu Q hQ
  refine ex11 (id hR) fun dx h1' h2' h3' h4' t1 t2 t3 t4 tw ep I => ?_
  have hT : IsTup g tt #[.ref xp, .ref xq] := ⟨_, hgt, rfl, _, rfl⟩
  have h00 : 0 < n := by omega
  have hB1 : (1 : Int) < 2 ^ w.toNat := by omega
  have hBB := base_le hw
  have hB2 := hBB.2
  rcases (show f = 2 ∨ ¬ f = 2 from Decidable.em _) with rfl | hf2
  · rcases (show e = 0 ∨ 0 < e by omega) with rfl | he2
    · k_steps
      try dsimp only
      refine hQ _ _ ?_; exact done_pairlm rfl (by assumption) (by assumption) (.head _) (by k_mem) (by k_mem) (by assumption) (by assumption)
    · have hle := lm_one (w := w) (t := s9) (n := 0) (x := e) rfl he2 (by omega)
      k_steps
      try dsimp only
      refine hQ _ _ ?_; exact done_pairlm rfl (by assumption) (by assumption) (.head _) (by k_mem) (by k_mem) (by assumption) (by assumption)
  · k_steps
    all_goals (
      try dsimp only
      refine hQ _ _ ?_
      subst_vars
      exact done_pairlm rfl (by assumption) (by assumption) (.head _) (by k_mem) (by k_mem) (by assumption) (by assumption))

end

section

local macro_rules | `(tactic| walk_at "call ref") => callLine 289 `use_pairlm `law_rows_ok "ann" "t"

local macro_rules | `(tactic| walk_at "mine sidesC") => sides "ho:I hcd:I hbind:B hloc:L hco:f hgen:f hk:f hnd:K hcl:C hns:f hsl:f hS:P hG:G"
local macro_rules | `(tactic| walk_at "eval Name") => rule 'r' `name_builtC "AAAAmb"
local macro_rules | `(tactic| walk_at "eval Name") => rule 'r' `name_globC "AAAAmg"
local macro_rules | `(tactic| walk_at "eval Name") => rule 'r' `name_slotC "AAs"
local macro_rules | `(tactic| walk_at "loadName") => rule 'r' `load_slotC "AAs"
local macro_rules | `(tactic| walk_at "storeName") => do `(tactic| (with_reducible (walk_at "mine tok"; $(← rule 'p' `st_slotC "AAAS"):tactic; walk_at "mine tail")))
local macro_rules | `(tactic| walk_at "mine eq") => `(tactic| fail "no equation")
local macro_rules | `(tactic| walk_at "compareOp NotEq ref ref") => rule 'd' `nePair "ttttttllllqU"
local macro_rules | `(tactic| walk_at "mine ev") => withR (alts [rule 'p' `Ev.const "" 0, rule 'p' `Ev.slotC "AAs" 0, rule 'p' `Ev.bin "eeo" 0, rule 'p' `Ev.sub "eeo" 0, rule 'p' `Ev.un "eo" 0, rule 'p' `Ev.attr "eo" 0])
local macro_rules | `(tactic| walk_at "TupSt") => rule 'd' `tupSt_goC "afaaf_Z" 1 "mine sweep"
local macro_rules | `(tactic| walk_at "exec Assign") => rule 'r' `asg_goC "AeAADS" 1 "mine sweep"
local macro_rules | `(tactic| walk_at "eval Call") => rule 'r' `callG_goC "AAAAmgJEA"
local macro_rules | `(tactic| walk_at "eval Call") => rule 'r' `callB_goC "AAAAmbE"
local macro_rules | `(tactic| walk_at "eval Call") => rule 'r' `callT_goC "AAAAmbE"

local macro_rules | `(tactic| walk_at "ite") => rule 'd' `ite_no "A"

local macro_rules | `(tactic| walk_at "mine eq") => `(tactic| first | exact ends_sq | exact ends_turn | exact ends_inv (by assumption))
local macro_rules | `(tactic| walk_at "CompSrcT") => `(tactic| (k_here; k_dflt (refine stop_here ?_)))
local macro_rules | `(tactic| walk_at "CompEnd") => `(tactic| (k_dflt (refine stop_here ?_)))
set_option maxHeartbeats 2000000 in
theorem ends_right_ok {wd : World} {rg ro tp tt tr xp xq : Addr} {k1 k2 k3 : Nat} {on op oq : Obj} {a b p q n w : Int} {t1 t2 t3 t4 t5 : Tok} (hw : WOk w) (hn : Lm w n on) (h0 : 1 < n) (h1 : n < 2 ^ w.toNat) (h2 : n < 100)
    (hp0 : -9 ≤ p) (hp1 : p ≤ 9) (hq0 : -9 ≤ q) (hq1 : q ≤ 9) (ha : 0 ≤ a) (ha1 : a < n) (hb : 0 ≤ b) (hb1 : b < n) (hp : Lm w (p % n) op) (hq : Lm w (q % n) oq) :
    Spec wd 322 20 [.ref tp, .ref tt, .ref tr, .ref rg]
      (fun h => RingH w rg ro h ∧ h.get? ro = some on ∧ h.get? tp = some (tupO #[.int a t1, .int b t2] k1) ∧ h.get? tt = some (tupO #[.int p t3, .int q t4, .int n t5] k2) ∧ h.get? tr = some (tupO #[.ref xp, .ref xq] k3) ∧ h.get? xp = some op ∧ h.get? xq = some oq)
      (OutBool true) := by
  refine' Spec.byC (ns := [Str.ofString "pair", Str.ofString "told", Str.ofString "rests", Str.ofString "ring", Str.ofString "a", Str.ofString "b", Str.ofString "p", Str.ofString "q", Str.ofString "trace", Str.ofString "turned", Str.ofString "here", Str.ofString "w", Str.ofString "back", Str.ofString "there"]) (sl := [some (.ref tp), some (.ref tt), some (.ref tr), some (.ref rg), none, none, none, none, none, none, none, none, none, none]) [(Str.ofString "pair", .ref tp), (Str.ofString "told", .ref tt), (Str.ofString "rests", .ref tr), (Str.ofString "ring", .ref rg)] [Str.ofString "a", Str.ofString "b", Str.ofString "p", Str.ofString "q", Str.ofString "trace", Str.ofString "turned", Str.ofString "here", Str.ofString "w", Str.ofString "back", Str.ofString "there"] [Str.ofString "_law_norm", Str.ofString "_law_rows", Str.ofString "pair_product", Str.ofString "_law_limbs", Str.ofString "range"] (Str.ofString "n") (Str.ofString "norm") ?ho ?hcd ?hbind ?hloc ?hco ?hgen ?hk ?hnd ?hcl ?hns ?hsl ?hS ?hG ?_
  walk_at "mine sidesC"
  intro p' loose mean mg mb dp un gd outer A₀ base g L s o1 o2 B F X N T hcs hS hG d1 d2 ⟨hR, hpn, hg1, hg2, hg3, hgp, hgq⟩ hd hu Q hQ
  have hT1 : IsTup g tp #[.int a t1, .int b t2] := ⟨_, hg1, rfl, _, rfl⟩
  have hT2 : IsTup g tt #[.int p t3, .int q t4, .int n t5] := ⟨_, hg2, rfl, _, rfl⟩
  have h00 : 0 < n := by omega
  have hB1 : (1 : Int) < 2 ^ w.toNat := by omega
  have hBB := base_le hw
  have hB2 := hBB.2
  obtain ⟨nb0, nb1⟩ := @nrm_bd n p q a b h00
  have E1 := @ends_sq n p q a b
  have E2 := @ends_turn n p q a b
  have E3 := @ends_inv n p q a b
  refine ex11 (id hR) fun dx h1' h2' h3' h4' s1 s2 s3 s4 tw ep I => ?_
  have r1 : a % n < n := Int.emod_lt_of_pos _ h00
  have r2 : b % n < n := Int.emod_lt_of_pos _ h00
  have r3 : p % n < n := Int.emod_lt_of_pos _ h00
  have r4 : q % n < n := Int.emod_lt_of_pos _ h00
  have r5 : (a + p * b) % n < n := Int.emod_lt_of_pos _ h00
  have r6 : (0 - b) % n < n := Int.emod_lt_of_pos _ h00
  refine execs_split 6 (fun s' => ∃ (ht hb' hc' tn : Addr) (ob oc p1 p2 : Obj) (k4 k5 : Nat) (v : Value) (y1 y2 y3 y4 y5 y6 y7 y8 y9 : Tok) (h' : Heap) (tk' : Nat), s' = { s with heap := h', toks := tk' } ∧
    Fr g L h' (slots [Str.ofString "pair", Str.ofString "told", Str.ofString "rests", Str.ofString "ring", Str.ofString "a", Str.ofString "b", Str.ofString "p", Str.ofString "q", Str.ofString "trace", Str.ofString "turned", Str.ofString "here", Str.ofString "w", Str.ofString "back", Str.ofString "there"] [some (.ref tp), some (.ref tt), some (.ref tr), some (.ref rg), some (.int a y1), some (.int b y2), some (.int p y3), some (.int q y4), some v, some (.ref tn), some (.ref ht), some (.int w y5), none, none]) ∧
    News g L h' [(ht, tupO #[.ref hb', .ref hc'] k4), (hb', ob), (hc', oc), (tn, tupO #[.int (a + p * b) y6, .int (0 - b) y7] k5), (L + 1 + 1, p2), (L + 1, p1)] ∧ Lm w (a % n) ob ∧ Lm w (b % n) oc ∧ p1.data = .cell (some (.int n y8)) ∧ p2.data = .cell (some (.int (nrm n p q (a, b)) y9))) ?_ ?_
  · intro R hR _
    show wpAny _ _ (execs [_, _, _, _, _, _] _) _ _ _
    k_steps
    try dsimp only
    refine hR _ ?_
    refine' ⟨_, _, _, _, _, _, _, _, _, _, _, _, _, _, _, _, _, _, _, _, _, _, rfl, by assumption, news_sub (by assumption) ?sub, ?m1, ?m2, ?m3, ?m4⟩
    case sub => k_subL
    case m1 => assumption
    case m2 => assumption
    case m3 => assumption
    case m4 => assumption
  rintro s9 h9
  refine ex22 h9 fun ht hb' hc' tn ob oc p1 p2 k4 k5 v y1 y2 y3 y4 y5 y6 y7 y8 y9 h9 tk9 h8 => ?_
  refine and7 h8 fun e9 F9 N9 l1 l2 d1' d2' => ?_
  subst e9
  clear h9 h8
  clear F N d1 d2
  show wpAny _ _ (execs [_, _] _) _ _ _
  k_steps
  unfold Stop
  refine LCt.CompSrcT.range (by rfl) (by k_asm) (by k_asm) (by assumption) (small_one (by omega) (by omega) (by omega) (by omega)) (rangeSize_nat _ _) (by rw [PySem.sizeLine_eq]; omega) ?_
  intro g'
  refine kci_range (fun l k => if k * nrm n p q (a, b) % n = 1 then l ++ [k] else l) (fun k' t' I' oI' C' oC' D' m' ys' l' h' tk' E' hlo' hhi' hI' hC' hx' F' N' off' ne' hM => ?_) ?_ ?_
  · rcases (show k' * nrm n p q (a, b) % n = 1 ∨ ¬ k' * nrm n p q (a, b) % n = 1 from Decidable.em _) with hk | hk
    · k_steps
      exact ⟨_, _, _, rfl, by assumption, by assumption, by assumption, True.intro, kci_el (by rw [if_pos hk]) rfl rfl⟩
    · k_steps
      exact ⟨_, _, _, rfl, by assumption, by assumption, by assumption, True.intro, kci_no (by rw [if_neg hk]) rfl⟩
  · intro ys hys hlen D h'' tk'' F'' N'' off''
    try dsimp only
    have hz := foldl_if (P := fun k => k * nrm n p q (a, b) % n = 1) (Z := fun k => k * nrm n p q (a, b) % n = 1 ∧ 0 ≤ k ∧ k < 100) (rangeKs 0 (n - 0).toNat) [] (fun k hk h => ⟨h, by have := mem_rangeKs hk; omega⟩) (fun _ h => nomatch h)
    refine iter_listUnr (by rfl) F'' N'' (.head _) rfl rfl fun I hI => ?_
    refine list_loop 12 _ hS.nodup (fun _ _ _ => ?_) rfl (.head _) hI hys hz (fun k t v it h tk ⟨hk, hk0, hk1⟩ hc F N R hR => ?_) (fun u v h tk F N => ?_)
    · repeat (first | exact SetSlot.here | apply SetSlot.there)
    · simp only [List.take_succ_cons, List.take_zero, List.cons_append, List.nil_append] at F
      have r7 : (a + p * b) * k % n < n := Int.emod_lt_of_pos _ h00
      have r8 : (0 - b) * k % n < n := Int.emod_lt_of_pos _ h00
      k_steps
      refine hR _ _ ?_
      simp only [TurnPost, List.take_succ_cons, List.take_zero, List.cons_append, List.nil_append]
      refine ⟨_, _, _, rfl, by assumption, news_sub (by assumption) ?_⟩
      k_subL
    · simp only [List.take_succ_cons, List.take_zero, List.cons_append, List.nil_append] at F
      k_steps
      try dsimp only
      refine hQ _ _ ?_; exact done_bool rfl (by assumption) rfl
  · intro l k
    show (if _ then _ else _ : List Int).length ≤ _
    split <;> simp

end

end


/-- a def that turns ONE cell of the ledger -/
def CDone (g : Heap) (c : Addr) (s₀ : Shared) (Out : Obj → Value → Prop) (v : Value) (s' : Shared) : Prop :=
  ∃ L' m' o' h' tk', s' = { s₀ with heap := h', toks := tk' } ∧ Fr g L' h' m' ∧ News g L' h' [(c, o')] ∧ Out o' v
def CSpec (w : World) (f : Addr) (k : Nat) (vs : List Value) (c : Addr) (o : Obj) (Pre : Heap → Prop) (Out : Obj → Value → Prop) : Prop :=
  ∀ (p : Program) (loose : List Str) (mean : ExcName → Option Value) (mg mb : Str → Option Value) (dp un : Nat) (gd : Option (List Code)) (cn : Str) (cs : Scope) (a : Addr) (ccd : Value) (cl : List (Str × Addr)) (outer : List Env)
    (A₀ : Around) (base h₀ : Heap) (L : Addr) (m : Str → Option Value) (news rest : List (Addr × Obj)) (s : Shared) (Q E : Value → Shared → Prop),
    Below A₀ base outer h₀ → Fr h₀ L s.heap m → (hd.heap_1 w.params).In h₀ → News h₀ L s.heap news → Top p loose mean mg mb h₀ → cs.kind = .function →
    (c, o) ∈ news → Pre s.heap → (∀ q ∈ rest, q ∈ news ∧ (q.1 ≠ c ∨ q.2 ≠ o)) → dp + k < recursionLimit → un + 8 * k < cLine →
    (∀ r o' h' tk', Fr h₀ L h' m → News h₀ L h' ((c, o') :: rest) → Out o' r → Q r { s with heap := h', toks := tk' }) →
    wpAny (model PR w) (ktrTop dp un gd cn cs L a ccd cl outer) (call (.ref f) vs) Q E s
theorem CSpec.by {w : World} {f : Addr} {k : Nat} {vs : List Value} {c : Addr} {o : Obj} {Pre : Heap → Prop} {Out : Obj → Value → Prop}
    {name qual : Str} {params : Arguments} {body : List Stmt} {scope : Scope} {dV kV doc pm cdv ct oc : Value} {an od : Option Addr} {osl : Array (Option Value)} (binds : List (Str × Value)) (rest gs : List Str)
    {ns : List Str} {sl : List (Option Value)} (hPre : ∀ h, Pre h → h.get? c = some o → Pre (hideAll h [c]))
    (ho : (hd.heap_1 w.params).lookup f = some ⟨oc, od, .func (fnOf name qual params body scope dV kV doc pm an cdv ct), osl⟩) (hcd : codeIn (hd.heap_1 w.params) cdv qual = true)
    (hbind : ∀ s, BindsTo s (fnOf name qual params body scope dV kV doc pm an cdv ct) ⟨vs, []⟩ binds) (hloc : ∀ y ∈ binds, scope.names.lookup y.1 = some .local)
    (hco : scope.isCoroutine = false) (hgen : scope.isGenerator = false) (hk : scope.kind = .function) (hcell : ∀ x ∈ scope.names, x.2 ≠ .cell)
    (hns : binds.map (·.1) ++ rest = ns) (hsl : binds.map (fun b => some b.2) ++ rest.map (fun _ => none) = sl) (hS : SlotsOk scope ns) (hG : GlobOk scope gs)
    (h : ∀ (p : Program) (loose : List Str) (mean : ExcName → Option Value) (mg mb : Str → Option Value) (dp un : Nat) (gd : Option (List Code)) (outer : List Env) (A₀ : Around) (base g : Heap) (L : Addr) (s : Shared),
      Below A₀ base outer g → Fr g L s.heap (slots ns sl) → (hd.heap_1 w.params).In g → News g L s.heap [(c, o)] → Top p loose mean mg mb g → scope.kind = .function → SlotsOk scope ns → GlobOk scope gs →
      Pre g → dp + k < recursionLimit + 1 → un + 8 * k < cLine + 3 →
      ∀ Q : Flow → Shared → Prop, (∀ fl s', CDone g c s Out (match fl with | .ret v => v | _ => .none) s' → Q fl s') →
      wpAny (model PR w) (ktrTop dp un gd qual scope L f cdv [] outer) (execs body (envOf qual scope L f cdv)) Q (fun _ _ => False) s) :
    CSpec w f k vs c o Pre Out := by
  intro p loose mean mg mb dp un gd cn cs a ccd cl outer A₀ base h₀ L m news rest' s Q E B F X N T hcs hm hpre hrest hd hu ret
  have N1 : News h₀ L s.heap [(c, o)] := fun q hq => N q (by rw [List.mem_singleton.mp hq]; exact hm)
  have hc := N _ hm
  obtain ⟨FG, BG, st, lv⟩ := groundX (R := fun r s' => match r with | .ok (.ret v) => Q v s' | .ok _ => False | .error e => E e s') (A := ktrTop dp un gd cn cs L a ccd cl outer) (env := envX cn cs L a ccd cl) B F N1 rfl rfl hcs
  have e : (fun y => binds.reverse.lookup y) = slots ns sl := by
    funext y
    rw [← hns, ← hsl]
    exact slots_binds binds rest (hns ▸ hS.nodup) y
  refine wpAny_call ?_
  refine codeAny_call_def (fd := fnOf name qual params body scope dV kV doc pm an cdv ct) (body := body) (binds := binds) (show dp < recursionLimit by omega) (X.keeps F.keep _ _ ho) rfl (T.nolimit.keeps F.keep) (codeRec_of (X.keeps F.keep) hcd) rfl (hbind s) hcell hloc (fun h₁ hns' hk₁ => ?_) hco hgen hk
  refine wpAny_mono (h p loose mean mg mb (dp + 1) (un + 3) gd (envX cn cs L a ccd cl :: outer) _ base (hideAll s.heap [c]) s.heap.objs.size { s with heap := h₁, toks := s.toks + binds.length }
    BG ⟨e ▸ hns', fun b ob q => hk₁ b ob (of_hideAll _ q), Nat.le_of_eq (hideAll_size _ _)⟩ (X.keeps st) (fun q hq => ?_) (T.keeps st) hk hS hG (hPre _ hpre hc.1) (by omega) (by omega) _ fun _ _ x => x) (fun fl s' hl => ?_) fun _ _ y => y.elim
  · rw [List.mem_singleton.mp hq]
    exact ⟨hk₁ _ _ hc.1, Nat.ne_of_lt (Heap.lt_size hc.1), hideAll_none _ (.head _)⟩
  · obtain ⟨L', m', o', h', tk', rfl, F', N', ho'⟩ := hl
    obtain ⟨oL, es, ep, hL, r⟩ := F.ns
    have hcn := N' _ (List.Mem.head _)
    have keep : ∀ b ob, s.heap.get? b = some ob → b ≠ c → h'.get? b = some ob := fun b ob q ne => F'.keep b ob (hideAll_get _ q fun z => ne (List.mem_singleton.mp z))
    refine ret _ o' h' tk' ⟨⟨oL, es, ep, keep _ _ hL (fun q => hc.2.1 q.symm), r⟩, fun b ob q => keep _ _ (F.keep _ _ q) (fun z => ?_), F.above⟩ (fun q hq => ?_) ho'
    · have := hc.2.2; rw [← z, q] at this; cases this
    · rcases List.mem_cons.mp hq with rfl | hq
      · exact ⟨hcn.1, hc.2.1, hc.2.2⟩
      · obtain ⟨hq1, hq2⟩ := hrest q hq
        have hq3 := N q hq1
        refine ⟨keep _ _ hq3.1 (fun z => ?_), hq3.2⟩
        rcases hq2 with hq2 | hq2
        · exact hq2 z
        · rw [z, hc.1] at hq3
          exact hq2 (Option.some.inj hq3.1).symm


abbrev reelO (k : Int) (t : Tok) (dl : Addr) (ep : Nat) : Obj := listOf #[.int k t, .ref dl] ep
def OutSpun (k many : Int) (dl : Addr) (ep : Nat) (o' : Obj) (v : Value) : Prop := ∃ t1 r t2, o' = reelO (k + 1) t1 dl ep ∧ v = .int r t2 ∧ 0 ≤ r ∧ r < many
theorem cdone_spun {g h' : Heap} {s₀ s' : Shared} {L' c dl : Addr} {m' : Str → Option Value} {tk' ep : Nat} {t1 t2 : Tok} {news : List (Addr × Obj)} {k k' r many : Int}
    (es : s' = { s₀ with heap := h', toks := tk' }) (F : Fr g L' h' m') (N : News g L' h' news) (hm : (c, reelO k' t1 dl ep) ∈ news) (ek : k' = k + 1) (h0 : 0 ≤ r) (h1 : r < many) : CDone g c s₀ (OutSpun k many dl ep) (.int r t2) s' := by
  subst ek
  exact ⟨_, _, _, _, _, es, F, fun p hp => N p (by rw [List.mem_singleton.mp hp]; exact hm), _, _, _, rfl, rfl, h0, h1⟩
set_option maxHeartbeats 8000000 in
theorem spun_ok {wd : World} {c dl : Addr} {k many : Int} {tk tm : Tok} {ep n1 : Nat} {vs : List Value} {ds : List Int} (hi : IntsAre vs ds) (hl : ds.length < 100) (hk : 0 ≤ k) (hk2 : k < 100) (hm : 0 < many) (hm2 : many < 1000) :
    CSpec wd 275 2 [.ref c, .int many tm] c (reelO k tk dl ep) (fun h => h.get? dl = some (listOf vs.toArray n1)) (OutSpun k many dl ep) := by
  refine' CSpec.by (ns := [Str.ofString "reel", Str.ofString "many"]) (sl := [some (.ref c), some (.int many tm)]) [(Str.ofString "reel", .ref c), (Str.ofString "many", .int many tm)] [] [Str.ofString "len"] ?hP ?ho ?hcd ?hbind ?hloc ?hco ?hgen ?hk ?hcell ?hns ?hsl ?hS ?hG ?_
  walk_at "mine sides"
  · intro h hp hc
    refine hideAll_get _ hp fun z => ?_
    rw [List.mem_singleton.mp z, hc] at hp
    have e1 := Option.some.inj hp
    have e2 : [Value.int k tk, Value.ref dl] = vs := by
      have := congrArg Obj.data e1
      injection this with e3 e4
      have := congrArg Array.toList e3
      simpa using this
    rw [← e2] at hi
    cases hi with | cons _ _ hr => cases hr
  intro p loose mean mg mb dp un gd outer A₀ base g L s B F X N T hcs hS hG hpre hd hu Q hQ
  have hL : g.IsList dl vs.toArray := ⟨_, hpre, rfl, _, rfl⟩
  k_steps
  all_goals (
    try dsimp only
    refine hQ _ _ ?_; exact cdone_spun rfl (by assumption) (by assumption) (by k_mem) rfl (Int.emod_nonneg _ (by omega)) (Int.emod_lt_of_pos _ hm))

/-- the body of a def, wherever it lies -/
def BodyOk (w : World) (f : Addr) (k : Nat) (ns : List Str) (sl : List (Option Value)) (Pre : Heap → Prop) (Out : List (Addr × Obj) → Value → Prop) : Prop :=
  ∀ (name qual : Str) (params : Arguments) (body : List Stmt) (scope : Scope) (dV kV doc pm cdv ct oc : Value) (an od : Option Addr) (osl : Array (Option Value)),
    (hd.heap_1 w.params).lookup f = some ⟨oc, od, .func (fnOf name qual params body scope dV kV doc pm an cdv ct), osl⟩ →
    ∀ (fa : Addr) (cd : Value) (p : Program) (loose : List Str) (mean : ExcName → Option Value) (mg mb : Str → Option Value) (dp un : Nat) (gd : Option (List Code)) (outer : List Env) (A₀ : Around) (base g : Heap) (L : Addr) (s : Shared),
      Below A₀ base outer g → Fr g L s.heap (slots ns sl) → (hd.heap_1 w.params).In g → News g L s.heap [] → Top p loose mean mg mb g → Pre g → dp + k < recursionLimit + 1 → un + 8 * k < cLine + 3 →
      ∀ Q : Flow → Shared → Prop, (∀ fl s', Done g s Out (match fl with | .ret v => v | _ => .none) s' → Q fl s') →
      wpAny (model PR w) (ktrTop dp un gd qual scope L fa cd [] outer) (execs body (envOf qual scope L fa cd)) Q (fun _ _ => False) s
theorem BodyOk.of {w : World} {f : Addr} {k : Nat} {ns : List Str} {sl : List (Option Value)} {Pre : Heap → Prop} {Out : List (Addr × Obj) → Value → Prop}
    {name qual : Str} {params : Arguments} {body : List Stmt} {scope : Scope} {dV kV doc pm cdv ct oc : Value} {an od : Option Addr} {osl : Array (Option Value)} (gs : List Str)
    (ho : (hd.heap_1 w.params).lookup f = some ⟨oc, od, .func (fnOf name qual params body scope dV kV doc pm an cdv ct), osl⟩) (hk : scope.kind = .function) (hS : SlotsOk scope ns) (hG : GlobOk scope gs)
    (h : ∀ (fa : Addr) (cd : Value) (p : Program) (loose : List Str) (mean : ExcName → Option Value) (mg mb : Str → Option Value) (dp un : Nat) (gd : Option (List Code)) (outer : List Env) (A₀ : Around) (base g : Heap) (L : Addr) (s : Shared),
      Below A₀ base outer g → Fr g L s.heap (slots ns sl) → (hd.heap_1 w.params).In g → News g L s.heap [] → Top p loose mean mg mb g → scope.kind = .function → SlotsOk scope ns → GlobOk scope gs → Pre g → dp + k < recursionLimit + 1 → un + 8 * k < cLine + 3 →
      ∀ Q : Flow → Shared → Prop, (∀ fl s', Done g s Out (match fl with | .ret v => v | _ => .none) s' → Q fl s') →
      wpAny (model PR w) (ktrTop dp un gd qual scope L fa cd [] outer) (execs body (envOf qual scope L fa cd)) Q (fun _ _ => False) s) : BodyOk w f k ns sl Pre Out := by
  intro name' qual' params' body' scope' dV' kV' doc' pm' cdv' ct' oc' an' od' osl' ho'
  have e := Option.some.inj (ho.symm.trans ho')
  injection e with _ _ e3 _
  injection e3 with e4
  injections
  subst_vars
  intro fa cd p loose mean mg mb dp un gd outer A₀ base g L s B F X N T hp hd' hu
  exact h fa cd p loose mean mg mb dp un gd outer A₀ base g L s B F X N T hk hS hG hp hd' hu

/-- what of the ledger stays when its cell c turns -/
inductive CRest (c : Addr) (o : Obj) : List (Addr × Obj) → List (Addr × Obj) → Prop
  | nil : CRest c o [] []
  | self {r r' : List (Addr × Obj)} : CRest c o r r' → CRest c o ((c, o) :: r) r'
  | keep {q : Addr × Obj} {r r' : List (Addr × Obj)} : (q.1 ≠ c ∨ q.2 ≠ o) → CRest c o r r' → CRest c o (q :: r) (q :: r')
  | drop {q : Addr × Obj} {r r' : List (Addr × Obj)} : CRest c o r r' → CRest c o (q :: r) r'
theorem CRest.all {c : Addr} {o : Obj} : ∀ {r r' : List (Addr × Obj)}, CRest c o r r' → ∀ q ∈ r', q ∈ r ∧ (q.1 ≠ c ∨ q.2 ≠ o)
  | _, _, .nil, _, h => nomatch h
  | _, _, .self h, q, hq => ⟨.tail _ (h.all q hq).1, (h.all q hq).2⟩
  | _, _, .drop h, q, hq => ⟨.tail _ (h.all q hq).1, (h.all q hq).2⟩
  | _, _, .keep h1 h, q, hq => by
    rcases List.mem_cons.mp hq with rfl | hq
    · exact ⟨.head _, h1⟩
    · exact ⟨.tail _ (h.all q hq).1, (h.all q hq).2⟩
theorem CSpec.use {w : World} {f : Addr} {k : Nat} {vs : List Value} {c : Addr} {o : Obj} {Pre : Heap → Prop} {Out : Obj → Value → Prop}
    {p : Program} {loose : List Str} {mean : ExcName → Option Value} {mg mb : Str → Option Value} {dp un : Nat} {gd : Option (List Code)} {cn : Str} {cs : Scope} {a : Addr} {ccd : Value} {cl : List (Str × Addr)} {outer : List Env}
    {A₀ : Around} {base h₀ : Heap} {L : Addr} {m : Str → Option Value} {news rest : List (Addr × Obj)} {s : Shared} {Q E : Value → Shared → Prop}
    (S : CSpec w f k vs c o Pre Out) (B : Below A₀ base outer h₀) (F : Fr h₀ L s.heap m) (X : (hd.heap_1 w.params).In h₀) (N : News h₀ L s.heap news) (T : Top p loose mean mg mb h₀) (hk : cs.kind = .function)
    (hm : (c, o) ∈ news) (hp : Pre s.heap) (hr : CRest c o news rest) (hd : dp + k < recursionLimit) (hu : un + 8 * k < cLine)
    (h : ∀ r o' h' tk', Fr h₀ L h' m → News h₀ L h' ((c, o') :: rest) → Out o' r → Q r { s with heap := h', toks := tk' }) :
    wpAny (model PR w) (ktrTop dp un gd cn cs L a ccd cl outer) (call (.ref f) vs) Q E s :=
  S _ _ _ _ _ _ _ _ _ _ _ _ _ _ _ _ _ _ _ _ _ _ _ _ B F X N T hk hm hp (fun q hq => hr.all q hq) hd hu h
section
variable {w : World} {p : Program} {loose : List Str} {mean : ExcName → Option Value} {mg mb : Str → Option Value} {dp un : Nat} {gd : Option (List Code)} {cn : Str} {cs : Scope} {a : Addr} {ccd : Value} {cl : List (Str × Addr)} {outer : List Env}
    {A₀ : Around} {base h₀ : Heap} {L : Addr} {gn : Array GenState} {dr : Drawn} {os : OsState} {E : Value → Shared → Prop} {f : Addr} {k : Nat} {vs : List Value} {c : Addr} {o : Obj} {Pre : Heap → Prop} {hp : Heap} {m : Str → Option Value} {news rest : List (Addr × Obj)} {to : Nat} {Q : Value → Shared → Prop}
    (B : Below A₀ base outer h₀) (F : Fr h₀ L hp m) (X : (hd.heap_1 w.params).In h₀) (N : News h₀ L hp news) (T : Top p loose mean mg mb h₀) (hk : cs.kind = .function) (hm : (c, o) ∈ news) (hpre : Pre hp) (hrest : CRest c o news rest) (hdp : dp + k < recursionLimit) (hun : un + 8 * k < cLine)
include B F X N T hk hm hpre hrest hdp hun
theorem use_spun {i many : Int} {dl : Addr} {ep : Nat} (S : CSpec w f k vs c o Pre (OutSpun i many dl ep)) (h : ∀ t1 y t2 h' tk', Fr h₀ L h' m → News h₀ L h' ((c, reelO (i + 1) t1 dl ep) :: rest) → 0 ≤ y → y < many → Q (.int y t2) ⟨h', gn, dr, tk', os⟩) : wpAny (model PR w) (ktrTop dp un gd cn cs L a ccd cl outer) (call (.ref f) vs) Q E ⟨hp, gn, dr, to, os⟩ :=
  CSpec.use S B F X N T hk hm hpre hrest hdp hun fun r o' h' tk' F' N' out => by
    obtain ⟨t1, y, t2, rfl, rfl, h1, h2⟩ := out
    exact h _ _ _ _ _ F' N' h1 h2
end
theorem lm_ne_reel {w v k : Int} {t : Tok} {dl : Addr} {ep : Nat} {o : Obj} (h : Lm w v o) : o ≠ reelO k t dl ep := by
  rcases h with ⟨_, n, rfl⟩ | ⟨_, _, t, n, rfl⟩ | ⟨lo, hi, t, t', n, rfl, _⟩ <;> (intro e; have e1 := congrArg Obj.data e; injection e1 with e2; have e3 := congrArg Array.toList e2; simp at e3)
theorem lm_ne_refs {w v : Int} {n : Nat} {a : Addr} {ps : List Value} {o : Obj} (h : Lm w v o) (hp : ps[0]? = some (.ref a)) : o ≠ listOf ps.toArray n := by
  rcases h with ⟨_, n, rfl⟩ | ⟨_, _, t, n, rfl⟩ | ⟨lo, hi, t, t', n, rfl, _⟩ <;> (intro e; have e1 := congrArg Obj.data e; injection e1 with e2; have e3 := congrArg Array.toList e2; simp at e3; subst e3; simp at hp)
theorem ints_ne_reel {k : Int} {t : Tok} {dl : Addr} {ep n : Nat} {vs : List Value} {ds : List Int} (h : IntsAre vs ds) : listOf vs.toArray n ≠ reelO k t dl ep := by
  intro e
  have e1 := congrArg Obj.data e
  injection e1 with e2
  have e3 := congrArg Array.toList e2
  simp at e3
  rw [e3] at h
  cases h with | cons _ _ hr => cases hr
theorem ints_ne_refs {n n' : Nat} {a : Addr} {vs ps : List Value} {ds : List Int} (h : IntsAre vs ds) (hp : ps[0]? = some (.ref a)) : listOf vs.toArray n ≠ listOf ps.toArray n' := by
  intro e
  have e1 := congrArg Obj.data e
  injection e1 with e2
  have e3 : vs = ps := by simpa using congrArg Array.toList e2
  subst e3
  cases h with
  | nil => simp at hp
  | cons => simp at hp
theorem ints_ne_refs' {n n' : Nat} {a : Addr} {vs ps : List Value} {ds : List Int} (h : IntsAre vs ds) (hp : ps[0]? = some (.ref a)) : listOf ps.toArray n' ≠ listOf vs.toArray n := fun e => ints_ne_refs h hp e.symm
section
variable {prog : Program} {w : World} {A : Around} {E : Value → Shared → Prop} {s : Shared} {l : Addr} {n : Nat} {h₀ : Heap} {L : Addr} {m : Str → Option Value} {news rest : List (Addr × Obj)} {Q : Value → Shared → Prop} {arr : List Value} {x : Value} {value slice : Expr} {k : Int} {u : Tok}
theorem append_own (F : Fr h₀ L s.heap m) (N : News h₀ L s.heap news) (hm : (l, listOf arr.toArray n) ∈ news) (hr : CRest l (listOf arr.toArray n) news rest) (hz : arr.length < 10)
    (h : ∀ h', Fr h₀ L h' m → News h₀ L h' ((l, listOf (arr ++ [x]).toArray (n + 1)) :: rest) → Q .none { s with heap := h' }) :
    wpAny (model prog w) A (call (.builtin "list.append") [.ref l, x]) Q E s := by
  have hc := N _ hm
  refine append_at (its := arr.toArray) (n := n) hc.1 (fun h' hs hg => h h' ⟨F.ns.sameBut hs (Ne.symm hc.2.1), fun b ob e => (hs.2 b (fun q => ?_)).trans (F.keep b ob e), F.above⟩ (fun p hp => ?_)) (by rw [List.size_toArray, PySem.sizeLine_eq]; omega)
  · rw [q, hc.2.2] at e; cases e
  · rcases List.mem_cons.mp hp with rfl | hp
    · refine ⟨?_, hc.2.1, hc.2.2⟩
      rw [hg, List.push_toArray]
    · obtain ⟨h1, h2⟩ := hr.all p hp
      have h3 := N p h1
      refine ⟨(hs.2 p.1 fun z => ?_).trans h3.1, h3.2⟩
      rcases h2 with h2 | h2
      · exact h2 z
      · rw [z, hc.1] at h3
        exact h2 (Option.some.inj h3.1).symm
theorem item_last (hl : s.heap.get? l = some (listOf arr.toArray n)) (hk : k = -1) (hx : arr.getLast? = some x) (h : Q x s)
    (hs : subscripted slice false (.ref l) (.int k u) = operate [.ref l, .int k u] (getItem (.ref l) (.int k u)) := by with_unfolding_all rfl) :
    wpAny (model prog w) A (subscriptTail value slice (.ref l) (.int k u)) Q E s := by
  subst hk
  have hL : s.heap.IsList l arr.toArray := ⟨_, hl, rfl, _, rfl⟩
  have hlen : 1 ≤ arr.length := by
    cases arr with
    | nil => simp at hx
    | cons => simp
  refine tail_any hL.typeIs slot_list_getitem.lookup (wpAny_getItem_list_neg hL (by decide) (by rw [List.size_toArray]; omega) (by decide) ?_ h) hs
  rw [List.size_toArray, List.getElem?_toArray, show (-1 + (arr.length : Int)).toNat = arr.length - 1 by omega, ← List.getLast?_eq_getElem?]
  exact hx
theorem item_idx (hl : s.heap.get? l = some (listOf arr.toArray n)) (h0 : 0 ≤ k) (hk : k < 1000) (hx : arr[k.toNat]? = some x) (h : Q x s)
    (hs : subscripted slice false (.ref l) (.int k u) = operate [.ref l, .int k u] (getItem (.ref l) (.int k u)) := by with_unfolding_all rfl) :
    wpAny (model prog w) A (subscriptTail value slice (.ref l) (.int k u)) Q E s := item_F hl h0 (by omega) (by simpa using hx) h hs
theorem len_list {k : Nat} (hl : s.heap.get? l = some (listOf arr.toArray n)) (hz : arr.length = k) (hk : k < 1000) (h : ∀ t tk', Q (.int (k : Int) t) { s with toks := tk' }) : wpAny (model prog w) A (call (.builtin "len") [.ref l]) Q E s :=
  len_F hl (by rw [List.size_toArray]; exact hz) hk h
end
def sel5 (f x0 x1 x2 x3 x4 : Int) : Int := if f = 0 then x0 else if f = 1 then x1 else if f = 2 then x2 else if f = 3 then x3 else x4
section
variable {prog : Program} {w : World} {A : Around} {E : Value → Shared → Prop} {s : Shared} {l : Addr} {n : Nat} {Q : Value → Shared → Prop} {value slice : Expr} {f x0 x1 x2 x3 x4 a e : Int} {u t0 t1 t2 t3 t4 : Tok}
theorem item_sel (hl : s.heap.get? l = some (listOf #[.int x0 t0, .int x1 t1, .int x2 t2, .int x3 t3, .int x4 t4] n)) (h0 : 0 ≤ f) (h1 : f < 5) (h : ∀ t, Q (.int (sel5 f x0 x1 x2 x3 x4) t) s)
    (hs : subscripted slice false (.ref l) (.int f u) = operate [.ref l, .int f u] (getItem (.ref l) (.int f u)) := by with_unfolding_all rfl) :
    wpAny (model prog w) A (subscriptTail value slice (.ref l) (.int f u)) Q E s := by
  rcases (show f = 0 ∨ f = 1 ∨ f = 2 ∨ f = 3 ∨ f = 4 by omega) with rfl | rfl | rfl | rfl | rfl
  · exact item_F hl (by decide) (by decide) rfl (h t0) hs
  · exact item_F hl (by decide) (by decide) rfl (h t1) hs
  · exact item_F hl (by decide) (by decide) rfl (h t2) hs
  · exact item_F hl (by decide) (by decide) rfl (h t3) hs
  · exact item_F hl (by decide) (by decide) rfl (h t4) hs
theorem r_powE {t : Tok} (h0 : 0 ≤ e) (h1 : e < 10) (ha : -1000 < a) (ha1 : a < 1000) (h : Q (.int (a ^ e.toNat) s.toks) { s with toks := s.toks + 1 }) : wpAny (model prog w) A (binaryOp .Pow (.int a t) (.int e u)) Q E s :=
  pow_int_small h0 (by omega) (by omega) h
end
-- the two readings of a deed
theorem col_red {n p q : Int} {x y : Int × Int} : (col n p q x y).1 % n = (col n p q x y).1 ∧ (col n p q x y).2 % n = (col n p q x y).2 := ⟨Int.emod_emod _ _, Int.emod_emod _ _⟩
theorem pm_modpq {n p q : Int} {x y : Int × Int} : pm n (p % n) (q % n) x y = pm n p q x y := by
  obtain ⟨a, b⟩ := x
  obtain ⟨c, d⟩ := y
  rw [pm_red]
  have e := @pm_mods n (p % n) (q % n) a b c d
  have e2 := @pm_mods n p q a b c d
  simp only [Int.emod_emod] at e
  rw [← e, e2, ← pm_red]
theorem pw_modpq {n p q : Int} {z : Int × Int} : ∀ k, pw n (p % n) (q % n) z k = pw n p q z k
  | 0 => rfl
  | k + 1 => by show pm n (p % n) (q % n) (pw n (p % n) (q % n) z k) z = pm n p q (pw n p q z k) z; rw [pm_modpq, pw_modpq k]
theorem cpw_pw {n p q : Int} {z : Int × Int} : ∀ k, cpw n p q z k = pw n p q z k
  | 0 => rfl
  | k + 1 => by show col n p q (cpw n p q z k) z = pm n p q (pw n p q z k) z; rw [col_pm, cpw_pw k]
theorem done_due {n p q f : Int} {z y : Int × Int} {e : Int} (h : 1 < n) : done n (p % n) (q % n) f z y e = ((due n p q f z y e).1 % n, (due n p q f z y e).2 % n) := by
  unfold done due
  split
  · obtain ⟨k, hk⟩ := em p n
    refine Prod.ext ?_ ?_
    · show (z.1 + p % n * z.2 % n) % n = (z.1 + p * z.2) % n % n
      rw [Int.emod_emod, Int.add_emod, Int.emod_emod, ← Int.add_emod, hk]
      exact emod_of (k := k * z.2) (by grind)
    · show (0 - z.2) % n = (0 - z.2) % n % n
      rw [Int.emod_emod]
  · split
    · rw [pw_modpq, cpw_pw]
      exact (pw_red h _).symm
    · rw [pm_modpq, col_pm]
      show _ = red n (pm n p q _ _)
      rw [pm_red, red_red]
theorem nrm_red {n p q : Int} {z : Int × Int} : nrm n p q (red n z) = nrm n p q z := by
  obtain ⟨a, b⟩ := z
  obtain ⟨i, hi⟩ := em a n
  obtain ⟨j, hj⟩ := em b n
  simp only [nrm, red, hi, hj]
  exact emod_of (k := 2 * a * i + n * i * i + p * (a * j + i * b + n * i * j) + q * (2 * b * j + n * j * j)) (by grind)
theorem nrm_pm {n p q : Int} {x y : Int × Int} : nrm n p q (pm n p q x y) = nrm n p q x * nrm n p q y % n := by
  rw [pm_red, nrm_red]
  obtain ⟨a, b⟩ := x
  obtain ⟨c, d⟩ := y
  simp only [nrm, mm]
  rw [← Int.mul_emod]
  congr 1
  grind
theorem nrm_pw {n p q : Int} {z : Int × Int} (h : 1 < n) : ∀ k, nrm n p q (pw n p q z k) = nrm n p q z ^ k % n
  | 0 => by rw [Int.pow_zero]; show (1 * 1 + p * 1 * 0 + q * 0 * 0) % n = 1 % n; congr 1; simp
  | k + 1 => by
    show nrm n p q (pm n p q (pw n p q z k) z) = _
    rw [nrm_pm, nrm_pw h k, Int.pow_succ, Int.mul_emod, Int.emod_emod, ← Int.mul_emod]
theorem nrm_due {n p q f : Int} {z y : Int × Int} {e : Int} (h : 1 < n) (h0 : 0 ≤ f) (h1 : f < 5) :
    nrm n p q (due n p q f z y e) = sel5 f (nrm n p q z * nrm n p q y) (nrm n p q z * nrm n p q z) (nrm n p q z ^ e.toNat) (nrm n p q z * q) (nrm n p q z) % n := by
  unfold due sel5
  rcases (show f = 0 ∨ f = 1 ∨ f = 2 ∨ f = 3 ∨ f = 4 by omega) with rfl | rfl | rfl | rfl | rfl
  · simp only [show ¬ (0 : Int) = 4 by decide, show ¬ (0 : Int) = 2 by decide, if_false, if_true]
    rw [col_pm, nrm_pm]
  · simp only [show ¬ (1 : Int) = 4 by decide, show ¬ (1 : Int) = 2 by decide, show ¬ (1 : Int) = 0 by decide, if_false, if_true]
    rw [col_pm, nrm_pm]
  · simp only [show ¬ (2 : Int) = 4 by decide, show ¬ (2 : Int) = 1 by decide, show ¬ (2 : Int) = 0 by decide, if_false, if_true]
    rw [cpw_pw, nrm_pw h]
  · simp only [show ¬ (3 : Int) = 4 by decide, show ¬ (3 : Int) = 2 by decide, show ¬ (3 : Int) = 1 by decide, show ¬ (3 : Int) = 0 by decide, if_false, if_true]
    rw [col_pm, nrm_pm, Int.mul_emod, Int.mul_emod (nrm n p q z) q]
    congr 2
    show (0 * 0 + p * 0 * 1 + q * 1 * 1) % n % n = q % n
    rw [Int.emod_emod]; congr 1; simp
  · simp only [show ¬ (4 : Int) = 3 by decide, show ¬ (4 : Int) = 2 by decide, show ¬ (4 : Int) = 1 by decide, show ¬ (4 : Int) = 0 by decide, if_false, if_true]
    have e1 : nrm n p q z % n = nrm n p q z := Int.emod_emod _ _
    rw [e1, show ((z.1 + p * z.2) % n, (0 - z.2) % n) = red n (z.1 + p * z.2, 0 - z.2) from rfl, nrm_red]
    simp only [nrm]
    congr 1
    grind
theorem apart_of {news tl : List (Addr × Obj)} {a b : Addr} {o o' : Obj} (ne : ∀ p ∈ news, ∀ q ∈ tl, p.1 ≠ q.1) (h1 : (a, o) ∈ news) (h2 : (b, o') ∈ tl) : b ≠ a := fun e => ne _ h1 _ h2 e.symm
theorem lm_mod {w a n : Int} {o : Obj} (h : Lm w (a % n) o) (h0 : 0 ≤ a) (h1 : a < n) : Lm w a o := by rwa [Int.emod_eq_of_lt h0 h1] at h
/-- one number that the law has built, in its three readings -/
inductive Ent (w n p q : Int) (NL : Addr) (news : List (Addr × Obj)) (ps nv ms : List Value) (j : Nat) : Prop
  | mk (pa ma xa ya : Addr) (z : Int × Int) (t1 t2 t3 : Tok) (e1 e2 : Nat) (oa ob : Obj) (g1 : ps[j]? = some (.ref pa)) (g2 : nv[j]? = some (.int (nrm n p q z) t3)) (g3 : ms[j]? = some (.ref ma))
    (g4 : (pa, tupO #[.int z.1 t1, .int z.2 t2] e1) ∈ news) (g5 : (ma, tupO #[.ref xa, .ref ya] e2) ∈ news) (g6 : (xa, oa) ∈ news) (g7 : (ya, ob) ∈ news)
    (g8 : Lm w z.1 oa) (g9 : Lm w z.2 ob) (b1 : 0 ≤ z.1) (b2 : z.1 < n) (b3 : 0 ≤ z.2) (b4 : z.2 < n) (g10 : xa ≠ NL) (g11 : ya ≠ NL)
theorem turn_two {v : Int} {i : Nat} (hi : i < (1 + v - 0).toNat) (hv : v < 2) : i < 2 := by omega
theorem at_two {a : Int} {i : Nat} (h0 : 0 ≤ a) (h1 : a < ((i + 1 : Nat) : Int)) (hi : i < 2) : a.toNat = 0 ∨ a.toNat = i := by omega
theorem k_turn {k : Int} {i : Nat} (h : k ≤ 7 + 2 * (i : Int)) (hi : i < 2) : k ≤ 9 := by omega
theorem j_two {i j : Nat} (hi : i < 2) (hj : j ≤ i + 1) : j = 0 ∨ j = i ∨ j = i + 1 := by omega
theorem news_dup {h₀ h : Heap} {L : Addr} {l : List (Addr × Obj)} {x : Addr × Obj} (N : News h₀ L h l) (hm : x ∈ l) : News h₀ L h (x :: l) := fun p hp => by
  rcases List.mem_cons.mp hp with rfl | hp
  · exact N _ hm
  · exact N p hp
theorem last_of {l : List Value} {i : Nat} {v : Value} (h : l.length = i + 1) (hv : l[i]? = some v) : l.getLast? = some v := by
  rw [List.getLast?_eq_getElem?, h]; exact hv
theorem get_app {l : List Value} {j : Nat} {v x : Value} (h : l[j]? = some v) : (l ++ [x])[j]? = some v := by
  rw [List.getElem?_append_left]
  · exact h
  · rcases Nat.lt_or_ge j l.length with h1 | h1
    · exact h1
    · rw [List.getElem?_eq_none h1] at h; cases h
theorem get_end {l : List Value} {i : Nat} {x : Value} (h : l.length = i) : (l ++ [x])[i]? = some x := by
  subst h; simp
theorem it_off {it : Obj} {its : Array Value} {n : Nat} (h : it.cls = .type "range_iterator") : it ≠ listOf its n := by
  intro e
  rw [e] at h
  exact absurd (Value.type.inj h) (by decide)
theorem pw_nn {n p q : Int} {z : Int × Int} (h : 1 < n) : ∀ k, 0 ≤ (pw n p q z k).1 ∧ 0 ≤ (pw n p q z k).2
  | 0 => ⟨by show (0 : Int) ≤ 1; omega, by show (0 : Int) ≤ 0; omega⟩
  | _ + 1 => ⟨Int.emod_nonneg _ (by omega), Int.emod_nonneg _ (by omega)⟩
theorem luc_modpq {n p q : Int} {z : Int × Int} : luc n (p % n) (q % n) z = luc n p q z := by
  obtain ⟨a, b⟩ := z
  obtain ⟨i, hi⟩ := em p n
  obtain ⟨j, hj⟩ := em q n
  simp only [luc, hi, hj]
  refine Prod.ext rfl (Prod.ext (emod_of (k := i * b) ?_) (emod_of (k := i * a * b + j * b * b) ?_))
  · grind
  · grind
theorem tail_eq {n p q : Int} {z : Int × Int} : decide ([(luc n (p % n) (q % n) z).1, (luc n (p % n) (q % n) z).2.1, (luc n (p % n) (q % n) z).2.2] = [z.2, (2 * z.1 + p * z.2) % n, nrm n p q (z.1, z.2)]) = true := by
  rw [luc_modpq]
  exact decide_eq_true rfl
theorem a_th {a : Int} {i : Nat} (h1 : a < ((i + 1 : Nat) : Int)) (hi : i < 2) : a < 1000 := by omega
theorem e_ten {e : Int} (h1 : e < 4) : e < 10 := by omega

section
variable {prog : Program} {w : World} {A : Around} {E : Value → Shared → Prop} {s : Shared} {h₀ : Heap} {L : Addr} {m : Str → Option Value} {env : Env} {news : List (Addr × Obj)}
theorem sum_lm {l : Addr} {o : Obj} {v wb : Int} {Q : Value → Shared → Prop} (hh : A.handled = none) (F : Fr h₀ L s.heap m) (N : News h₀ L s.heap news) (ho : s.heap.get? l = some o) (hl : Lm wb v o) (hv : v < 2 ^ wb.toNat)
    (h : ∀ h' tk t', Fr h₀ L h' m → News h₀ L h' news → Q (.int v t') { s with heap := h', toks := tk }) : wpAny (model prog w) A (call (.builtin "sum") [.ref l]) Q E s := by
  rcases hl.small hv with ⟨rfl, n, rfl⟩ | ⟨_, _, t, n, rfl⟩
  · exact sumK (vs := []) (ns := []) hh F N ⟨_, ho, rfl, _, rfl⟩ .nil h
  · refine sumK (vs := [.int v t]) (ns := [v]) hh F N ⟨_, ho, rfl, _, rfl⟩ (.cons _ _ .nil) fun h' tk t' F' N' => ?_
    rw [show [v].sum = v by simp]
    exact h h' tk t' F' N'
/-- a comprehension over a tuple of numbers as limbs, each element an int -/
def CompTup (prog : Program) (w : World) (A : Around) (h₀ : Heap) (L : Addr) (m : Str → Option Value) (env : Env) (elt : Expr) (x : Str) (scope : Scope) (cl : List (Str × Addr)) (Q : Value → Shared → Prop) (xv : Value) (s₁ : Shared) : Prop :=
  ∃ (ax : Addr) (xs : List (Addr × Int)) (k : Nat) (wb : Int) (news : List (Addr × Obj)), xv = .ref ax ∧ A.handled = none ∧ Fr h₀ L s₁.heap m ∧ News h₀ L s₁.heap news ∧ (ax, tupO (xs.map fun q => Value.ref q.1).toArray k) ∈ news ∧ xs.length < 100 ∧
    (∀ q ∈ xs, ∃ o, (q.1, o) ∈ news ∧ Lm wb q.2 o ∧ q.2 < 2 ^ wb.toNat) ∧
    (∀ (l : Addr) (v : Int) (o : Obj) (I : Addr) (oI : Obj) (C : Addr) (oC : Obj) (D : Addr) (m₂ : Str → Option Value) (ys : List Value) (h : Heap) (tk : Nat) (E' : Value → Shared → Prop), (l, o) ∈ news → Lm wb v o → v < 2 ^ wb.toNat → LCg.NsObj oC m₂ → m₂ x = some (.ref l) → Fr h₀ L h m → News h₀ L h ((I, oI) :: (C, oC) :: (D, LCg.lst ys) :: news) →
      ∀ R : Value → Shared → Prop, (∀ t h' tk', Fr h₀ L h' m → News h₀ L h' ((I, oI) :: (C, oC) :: (D, LCg.lst ys) :: news) → R (.int v t) { s₁ with heap := h', toks := tk' }) → wpAny (model prog w) A (eval elt (compEnvC scope cl C env)) R E' { s₁ with heap := h, toks := tk }) ∧
    (∀ (D : Addr) (ys : List Value) (h : Heap) (tk : Nat), IntsAre ys (xs.map (·.2)) → Fr h₀ L h m → News h₀ L h ((D, LCg.lst ys) :: news) → Q (.ref D) { s₁ with heap := h, toks := tk })
theorem ListComp_tup {elt iter : Expr} {x : Str} {px : Pos} {scope : Scope} {cl : List (Str × Addr)} {pos : Pos} {Q : Value → Shared → Prop} (_F : Fr h₀ L s.heap m)
    (hclos : closureFor scope env = pure cl) (hcell : ∀ y ∈ scope.names, y.2 ≠ .cell) (hkind : scope.kind = .function)
    (hnames : ∀ y ∈ scope.names, y.2 = .local → scope.names.lookup y.1 = some .local) (hx : scope.names.lookup x = some .local)
    (h : wpAny (model prog w) A (eval iter env) (CompTup prog w A h₀ L m env elt x scope cl Q) E s)
    (hs : ∀ x, foldedSetIterable iter env x = pure x := by intro _; rfl) :
    wpAny (model prog w) A (eval (.ListComp elt [⟨.Name x px, iter, [], 0⟩] scope pos) env) Q E s := by
  rw [eval_ListComp]
  refine wpAny_comprehension_free (use := none) rfl hs hclos hkind hnames (wpAny_mono h (fun xv s₁ h₁ => ?_) fun _ _ e => e)
  obtain ⟨ax, xs, k, wb, news, rfl, hh, F, N, hm, hlen, hxs, helt, fin⟩ := h₁
  have hax := N _ hm
  have hl : s₁.heap.IsTuple ax (xs.map fun q => Value.ref q.1).toArray := ⟨_, hax.1, rfl, _, rfl⟩
  have hlt : ax < s₁.heap.objs.size := Heap.lt_size hax.1
  refine wpAny_pyIter_tuple hl ?_
  have up : ∀ b o, s₁.heap.get? b = some o → (s₁.heap.push { cls := .type "tuple_iterator", data := .fields #[.ref ax, .int 0 0] }).get? b = some o := fun b o e => Heap.get?_push_of_some _ e
  refine LCg.block_U (Fin := fun ys nw => nw = news ∧ IntsAre ys (xs.map (·.2))) (S := fun nw => nw = news) (Walks.tuple hh s₁.heap.objs.size ax (Nat.ne_of_lt hlt) _) (by rw [List.size_toArray, List.length_map, PySem.sizeLine_eq]; omega) (fun i h st => by obtain ⟨o, e, _⟩ := st.1; exact ⟨o, e⟩)
    (fun i h h' o nw st e e' kk N' S => ⟨by obtain ⟨o', q, r⟩ := st.1; rw [e] at q; cases q; exact ⟨o, e', r⟩, by subst S; exact ⟨_, (N' _ hm).1, rfl, _, rfl⟩⟩) hcell hkind hx ⟨⟨_, Heap.get?_push_size _ rfl, rfl, rfl⟩, hl.at fun o e => up _ _ e⟩ (fun b hb => ?_)
    (F.keeps up) (N.grown up) (Nat.ne_of_lt F.ns.lt) (next_is_new F) (fun p hp => Nat.ne_of_lt (Heap.lt_size (N p hp).1)) rfl ?_ ?_
  · show b < (s₁.heap.push _).objs.size
    rw [Heap.size_push]
    rcases List.mem_cons.mp hb with rfl | hb
    · exact Nat.lt_succ_self _
    · rw [List.mem_singleton.mp hb]; exact Nat.lt_succ_of_lt hlt
  · have key : ∀ (j i : Nat) (ys : List Value), i + j = xs.length → IntsAre ys ((xs.take i).map (·.2)) →
        LCg.CompRest prog w A h₀ L m env elt x scope cl { s₁ with heap := s₁.heap.push { cls := .type "tuple_iterator", data := .fields #[.ref ax, .int 0 0] } } (fun nw => nw = news) (fun i v => (xs.map fun q => Value.ref q.1).toArray[i]? = some v) (fun ys nw => nw = news ∧ IntsAre ys (xs.map (·.2))) j i ys news := by
      intro j
      induction j with
      | zero =>
        intro i ys hi hy
        have e : i = xs.length := by omega
        subst e
        rw [List.take_length] at hy
        exact LCg.CompRest.zero ⟨rfl, hy⟩
      | succ j ih =>
        intro i ys hi hy
        refine LCg.CompRest.succ fun v I oI C oC D m₂ h tk E' hv hC hx' F' N' off ne => ?_
        have hil : i < xs.length := by omega
        have hv' : v = Value.ref (xs[i]).1 := by
          have : (xs.map fun q => Value.ref q.1)[i]? = some v := by simpa using hv
          rw [List.getElem?_map, List.getElem?_eq_getElem hil] at this
          exact (Option.some.inj this).symm
        subst hv'
        obtain ⟨o, ho, hlm, hlt'⟩ := hxs xs[i] (List.getElem_mem hil)
        refine helt _ _ o I oI C oC D m₂ ys h tk E' ho hlm hlt' hC hx' F' N' _ fun t h' tk' F'' N'' => ?_
        refine ⟨h', tk', news, rfl, F'', N'', off, rfl, ih (i + 1) _ (by omega) ?_⟩
        rw [List.take_add_one, List.getElem?_eq_getElem hil, List.map_append]
        exact IntsAre.append hy (.cons _ t .nil)
    have := key xs.length 0 [] (by omega) (by simp only [List.take_zero, List.map_nil]; exact .nil)
    simpa using this
  · intro D C h tk m' ys news' F' N' o1 hn hC₀ hD₀ hCL hDL hCD offC fin'
    obtain ⟨rfl, hy⟩ := fin'
    refine ⟨m', hn, fun h'' hs'' => fin D ys h'' tk hy (F'.change hs'' hCL hC₀) (fun p hp => ?_)⟩
    refine ⟨hs''.extBut _ _ ?_ (N' p hp).1, (N' p hp).2⟩
    rcases List.mem_cons.mp hp with rfl | hp
    · exact Ne.symm hCD
    · exact offC p hp
end
def Mark : Prop := True
theorem mark_stop {P : Prop} (_ : Mark) (h : Stop P) : P := h
theorem ifexp_cut {M : Model} {A : Around} {E : Value → Shared → Prop} {s : Shared} {h₀ : Heap} {L : Addr} {m : Str → Option Value} {news : List (Addr × Obj)} {t : Sem Value} {w e : Int} {Q : Value → Shared → Prop} (_F : Fr h₀ L s.heap m) (_N : News h₀ L s.heap news)
    (h1 : ∀ R : Value → Shared → Prop, (∀ (d : Addr) (o : Obj) (h' : Heap) (tk' : Nat), Fr h₀ L h' m → News h₀ L h' ((d, o) :: news) → Lm w e o → R (.ref d) { s with heap := h', toks := tk' }) → wpAny M A t R E s)
    (h2 : ∀ (d : Addr) (o : Obj) (h' : Heap) (tk' : Nat), Fr h₀ L h' m → News h₀ L h' ((d, o) :: news) → Lm w e o → Q (.ref d) { s with heap := h', toks := tk' }) : wpAny M A t Q E s :=
  wpAny_mono (h1 (fun v s' => ∃ d o h' tk', v = .ref d ∧ s' = { s with heap := h', toks := tk' } ∧ Fr h₀ L h' m ∧ News h₀ L h' ((d, o) :: news) ∧ Lm w e o) fun d o h' tk' F N l => ⟨d, o, h', tk', rfl, rfl, F, N, l⟩)
    (fun v s' ⟨d, o, h', tk', e1, e2, F, N, l⟩ => by subst e1 e2; exact h2 d o h' tk' F N l) fun _ _ x => x

/-- a def's body from its statement j on -/
def RestOk (w : World) (f : Addr) (j k : Nat) (St : Heap → Addr → Heap → Prop) (Out : List (Addr × Obj) → Value → Prop) : Prop :=
  ∀ (name qual : Str) (params : Arguments) (body : List Stmt) (scope : Scope) (dV kV doc pm cdv ct oc : Value) (an od : Option Addr) (osl : Array (Option Value)),
    (hd.heap_1 w.params).lookup f = some ⟨oc, od, .func (fnOf name qual params body scope dV kV doc pm an cdv ct), osl⟩ →
    ∀ (fa : Addr) (cd : Value) (p : Program) (loose : List Str) (mean : ExcName → Option Value) (mg mb : Str → Option Value) (dp un : Nat) (gd : Option (List Code)) (outer : List Env) (A₀ : Around) (base g : Heap) (L : Addr) (s : Shared) (h : Heap) (tk : Nat),
      Below A₀ base outer g → (hd.heap_1 w.params).In g → Top p loose mean mg mb g → dp + k < recursionLimit + 1 → un + 8 * k < cLine + 3 → St g L h →
      ∀ Q : Flow → Shared → Prop, (∀ fl s', Done g s Out (match fl with | .ret v => v | _ => .none) s' → Q fl s') →
      wpAny (model PR w) (ktrTop dp un gd qual scope L fa cd [] outer) (execs (body.drop j) (envOf qual scope L fa cd)) Q (fun _ _ => False) { s with heap := h, toks := tk }
theorem RestOk.of {w : World} {f : Addr} {j k : Nat} {St : Heap → Addr → Heap → Prop} {Out : List (Addr × Obj) → Value → Prop}
    {name qual : Str} {params : Arguments} {body : List Stmt} {scope : Scope} {dV kV doc pm cdv ct oc : Value} {an od : Option Addr} {osl : Array (Option Value)} (ns gs : List Str)
    (ho : (hd.heap_1 w.params).lookup f = some ⟨oc, od, .func (fnOf name qual params body scope dV kV doc pm an cdv ct), osl⟩) (hk : scope.kind = .function) (hS : SlotsOk scope ns) (hG : GlobOk scope gs)
    (h : ∀ (fa : Addr) (cd : Value) (p : Program) (loose : List Str) (mean : ExcName → Option Value) (mg mb : Str → Option Value) (dp un : Nat) (gd : Option (List Code)) (outer : List Env) (A₀ : Around) (base g : Heap) (L : Addr) (s : Shared) (h : Heap) (tk : Nat),
      Below A₀ base outer g → (hd.heap_1 w.params).In g → Top p loose mean mg mb g → scope.kind = .function → SlotsOk scope ns → GlobOk scope gs → dp + k < recursionLimit + 1 → un + 8 * k < cLine + 3 → St g L h →
      ∀ Q : Flow → Shared → Prop, (∀ fl s', Done g s Out (match fl with | .ret v => v | _ => .none) s' → Q fl s') →
      wpAny (model PR w) (ktrTop dp un gd qual scope L fa cd [] outer) (execs (body.drop j) (envOf qual scope L fa cd)) Q (fun _ _ => False) { s with heap := h, toks := tk }) : RestOk w f j k St Out := by
  intro name' qual' params' body' scope' dV' kV' doc' pm' cdv' ct' oc' an' od' osl' ho'
  have e := Option.some.inj (ho.symm.trans ho')
  injection e with _ _ e3 _
  injection e3 with e4
  injections
  subst_vars
  intro fa cd p loose mean mg mb dp un gd outer A₀ base g L s h' tk B X T hd' hu hp
  exact h fa cd p loose mean mg mb dp un gd outer A₀ base g L s h' tk B X T hk hS hG hd' hu hp
theorem BodyOk.of2 {w : World} {f : Addr} {j k : Nat} {ns : List Str} {sl : List (Option Value)} {Pre : Heap → Prop} {St : Heap → Addr → Heap → Prop} {Out : List (Addr × Obj) → Value → Prop}
    {name qual : Str} {params : Arguments} {body : List Stmt} {scope : Scope} {dV kV doc pm cdv ct oc : Value} {an od : Option Addr} {osl : Array (Option Value)} (gs : List Str) (hrest : RestOk w f j k St Out)
    (ho : (hd.heap_1 w.params).lookup f = some ⟨oc, od, .func (fnOf name qual params body scope dV kV doc pm an cdv ct), osl⟩) (hk : scope.kind = .function) (hS : SlotsOk scope ns) (hG : GlobOk scope gs)
    (h : (∀ (fa : Addr) (cd : Value) (p : Program) (loose : List Str) (mean : ExcName → Option Value) (mg mb : Str → Option Value) (dp un : Nat) (gd : Option (List Code)) (outer : List Env) (A₀ : Around) (base g : Heap) (L : Addr) (s : Shared) (h : Heap) (tk : Nat),
      Below A₀ base outer g → (hd.heap_1 w.params).In g → Top p loose mean mg mb g → dp + k < recursionLimit + 1 → un + 8 * k < cLine + 3 → St g L h →
      ∀ Q : Flow → Shared → Prop, (∀ fl s', Done g s Out (match fl with | .ret v => v | _ => .none) s' → Q fl s') →
      wpAny (model PR w) (ktrTop dp un gd qual scope L fa cd [] outer) (execs (body.drop j) (envOf qual scope L fa cd)) Q (fun _ _ => False) { s with heap := h, toks := tk }) →
      ∀ (fa : Addr) (cd : Value) (p : Program) (loose : List Str) (mean : ExcName → Option Value) (mg mb : Str → Option Value) (dp un : Nat) (gd : Option (List Code)) (outer : List Env) (A₀ : Around) (base g : Heap) (L : Addr) (s : Shared),
      Below A₀ base outer g → Fr g L s.heap (slots ns sl) → (hd.heap_1 w.params).In g → News g L s.heap [] → Top p loose mean mg mb g → scope.kind = .function → SlotsOk scope ns → GlobOk scope gs → Pre g → dp + k < recursionLimit + 1 → un + 8 * k < cLine + 3 →
      ∀ Q : Flow → Shared → Prop, (∀ fl s', Done g s Out (match fl with | .ret v => v | _ => .none) s' → Q fl s') →
      wpAny (model PR w) (ktrTop dp un gd qual scope L fa cd [] outer) (execs body (envOf qual scope L fa cd)) Q (fun _ _ => False) s) : BodyOk w f k ns sl Pre Out :=
  BodyOk.of gs ho hk hS hG (h (hrest _ _ _ _ _ _ _ _ _ _ _ _ _ _ _ ho))
/-- law ahead of its loop -/
inductive LawSt2 (sc : Addr) (g : Heap) (L : Addr) (h : Heap) : Prop
  | mk (rl dl tt ro rg rd tr PL NL ML xp xq : Addr) (w n p q : Int) (tw tn tp tq t4 t5 t6 : Tok) (n0 e6 e7 : Nat) (ys : List Value) (ds : List Int) (on op oq : Obj) (h1 h2 h3 h4 : Int) (s1 s2 s3 s4 sw : Tok) (ed : Nat) (pf mf xf yf : Addr) (ox oy : Obj) (z : Int × Int) (k : Int) (t0 t1 t2 t3 : Tok) (e0 e1 e2 e3 e4 e5 : Nat)
    (F : Fr g L h (slots [Str.ofString "script", Str.ofString "reel", Str.ofString "w", Str.ofString "n", Str.ofString "p", Str.ofString "q", Str.ofString "told", Str.ofString "row", Str.ofString "ring", Str.ofString "rests", Str.ofString "pairs", Str.ofString "norms", Str.ofString "moments", Str.ofString "turn", Str.ofString "form", Str.ofString "spot", Str.ofString "at", Str.ofString "e", Str.ofString "norm", Str.ofString "a", Str.ofString "b", Str.ofString "due"] [some (.ref sc), some (.ref rl), some (.int w tw), some (.int n tn), some (.int p tp), some (.int q tq), some (.ref tt), some (.ref ro), some (.ref rg), some (.ref tr), some (.ref PL), some (.ref NL), some (.ref ML), none, none, none, none, none, none, none, none, none]))
    (N : News g L h [(rl, reelO k t0 dl e0), (PL, listOf [Value.ref pf].toArray e1), (NL, listOf [Value.int (nrm n p q z) t1].toArray e2), (ML, listOf [Value.ref mf].toArray e3), (pf, tupO #[.int z.1 t2, .int z.2 t3] e4), (mf, tupO #[.ref xf, .ref yf] e5), (xf, ox), (yf, oy), (tt, tupO #[.int p t4, .int q t5, .int n t6] e6), (ro, on), (rg, instObj 187 rd), (rd, ringD h1 h2 h3 h4 s1 s2 s3 s4 sw ro w ed), (tr, tupO #[.ref xp, .ref xq] e7), (xp, op), (xq, oq), (dl, listOf ys.toArray n0)])
    (hys : IntsAre ys ds) (hds : ds.length < 100) (hw : WOk w) (hod : n % 2 = 1) (hn3 : 3 ≤ n) (hn61 : n ≤ 61) (hp0 : -9 ≤ p) (hp1 : p ≤ 9) (hq0 : -9 ≤ q) (hq1 : q ≤ 9) (lon : Lm w n on) (lop : Lm w (p % n) op) (loq : Lm w (q % n) oq) (lox : Lm w z.1 ox) (loy : Lm w z.2 oy) (hk2 : 0 ≤ k) (hk3 : k ≤ 6) (hz1 : 0 ≤ z.1) (hz2 : z.1 < n) (hz3 : 0 ≤ z.2) (hz4 : z.2 < n)
    (d1 : PL ≠ rl) (d2 : NL ≠ rl) (d3 : ML ≠ rl) (d4 : NL ≠ PL) (d5 : ML ≠ PL) (d6 : ML ≠ NL) (c1 : dl ≠ NL) (c2 : ro ≠ NL) (c3 : xp ≠ NL) (c4 : xq ≠ NL) (c5 : xf ≠ NL) (c6 : yf ≠ NL)
/-- law behind its loop -/
inductive LawSt3 (sc : Addr) (g : Heap) (L : Addr) (h : Heap) : Prop
  | mk (rl dl tt ro rg rd tr PL NL ML xp xq : Addr) (w n p q : Int) (tw tn tp tq t4 t5 t6 : Tok) (n0 e6 e7 : Nat) (ys : List Value) (ds : List Int) (on op oq : Obj) (h1 h2 h3 h4 : Int) (s1 s2 s3 s4 sw : Tok) (ed : Nat) (pl : Addr) (z : Int × Int) (k : Int) (t0 t2 t3 : Tok) (e0 e1 e4 : Nat) (ps : List Value) (u1 u2 u3 u4 u5 u6 : Option Value)
    (F : Fr g L h (slots [Str.ofString "script", Str.ofString "reel", Str.ofString "w", Str.ofString "n", Str.ofString "p", Str.ofString "q", Str.ofString "told", Str.ofString "row", Str.ofString "ring", Str.ofString "rests", Str.ofString "pairs", Str.ofString "norms", Str.ofString "moments", Str.ofString "turn", Str.ofString "form", Str.ofString "spot", Str.ofString "at", Str.ofString "e", Str.ofString "norm", Str.ofString "a", Str.ofString "b", Str.ofString "due"] [some (.ref sc), some (.ref rl), some (.int w tw), some (.int n tn), some (.int p tp), some (.int q tq), some (.ref tt), some (.ref ro), some (.ref rg), some (.ref tr), some (.ref PL), some (.ref NL), some (.ref ML), u1, u2, u3, u4, u5, u6, none, none, none]))
    (N : News g L h [(rl, reelO k t0 dl e0), (PL, listOf ps.toArray e1), (pl, tupO #[.int z.1 t2, .int z.2 t3] e4), (tt, tupO #[.int p t4, .int q t5, .int n t6] e6), (ro, on), (rg, instObj 187 rd), (rd, ringD h1 h2 h3 h4 s1 s2 s3 s4 sw ro w ed), (tr, tupO #[.ref xp, .ref xq] e7), (xp, op), (xq, oq), (dl, listOf ys.toArray n0)])
    (hys : IntsAre ys ds) (hds : ds.length < 100) (hw : WOk w) (hod : n % 2 = 1) (hn3 : 3 ≤ n) (hn61 : n ≤ 61) (hp0 : -9 ≤ p) (hp1 : p ≤ 9) (hq0 : -9 ≤ q) (hq1 : q ≤ 9) (lon : Lm w n on) (lop : Lm w (p % n) op) (loq : Lm w (q % n) oq) (hps : ps.getLast? = some (.ref pl)) (hk2 : 0 ≤ k) (hk3 : k ≤ 20) (hz1 : 0 ≤ z.1) (hz2 : z.1 < n) (hz3 : 0 ≤ z.2) (hz4 : z.2 < n)
theorem RestOk.of2 {w : World} {f : Addr} {j j2 k : Nat} {St St2 : Heap → Addr → Heap → Prop} {Out : List (Addr × Obj) → Value → Prop}
    {name qual : Str} {params : Arguments} {body : List Stmt} {scope : Scope} {dV kV doc pm cdv ct oc : Value} {an od : Option Addr} {osl : Array (Option Value)} (ns gs : List Str) (hrest : RestOk w f j2 k St2 Out)
    (ho : (hd.heap_1 w.params).lookup f = some ⟨oc, od, .func (fnOf name qual params body scope dV kV doc pm an cdv ct), osl⟩) (hk : scope.kind = .function) (hS : SlotsOk scope ns) (hG : GlobOk scope gs)
    (h : (∀ (fa : Addr) (cd : Value) (p : Program) (loose : List Str) (mean : ExcName → Option Value) (mg mb : Str → Option Value) (dp un : Nat) (gd : Option (List Code)) (outer : List Env) (A₀ : Around) (base g : Heap) (L : Addr) (s : Shared) (h : Heap) (tk : Nat),
      Below A₀ base outer g → (hd.heap_1 w.params).In g → Top p loose mean mg mb g → dp + k < recursionLimit + 1 → un + 8 * k < cLine + 3 → St2 g L h →
      ∀ Q : Flow → Shared → Prop, (∀ fl s', Done g s Out (match fl with | .ret v => v | _ => .none) s' → Q fl s') →
      wpAny (model PR w) (ktrTop dp un gd qual scope L fa cd [] outer) (execs (body.drop j2) (envOf qual scope L fa cd)) Q (fun _ _ => False) { s with heap := h, toks := tk }) →
      ∀ (fa : Addr) (cd : Value) (p : Program) (loose : List Str) (mean : ExcName → Option Value) (mg mb : Str → Option Value) (dp un : Nat) (gd : Option (List Code)) (outer : List Env) (A₀ : Around) (base g : Heap) (L : Addr) (s : Shared) (h : Heap) (tk : Nat),
      Below A₀ base outer g → (hd.heap_1 w.params).In g → Top p loose mean mg mb g → scope.kind = .function → SlotsOk scope ns → GlobOk scope gs → dp + k < recursionLimit + 1 → un + 8 * k < cLine + 3 → St g L h →
      ∀ Q : Flow → Shared → Prop, (∀ fl s', Done g s Out (match fl with | .ret v => v | _ => .none) s' → Q fl s') →
      wpAny (model PR w) (ktrTop dp un gd qual scope L fa cd [] outer) (execs (body.drop j) (envOf qual scope L fa cd)) Q (fun _ _ => False) { s with heap := h, toks := tk }) : RestOk w f j k St Out :=
  RestOk.of ns gs ho hk hS hG (h (hrest _ _ _ _ _ _ _ _ _ _ _ _ _ _ _ ho))

section

local macro_rules | `(tactic| walk_at "call ref") => callLine 142 `use_res `signed_rest_ok "aannnn" "t" (res := true)
local macro_rules | `(tactic| walk_at "call ref") => callLine 198 `use_tri2 `lucas_rows_ok "aannnananananna" "rttttt" (many := true)
local macro_rules | `(tactic| walk_at "call ref") => both (isCall 187) (rule 'd' `call_cls "yyyIII" 1 "ring made")
local macro_rules | `(tactic| walk_at "ring made") => `(tactic| k_dflt (k_whole; (intro x' d' h' F' N' l1 l2); (try k_lt l1); (try k_lt2 l2); (try k_sweep); ktr_enter))

local macro_rules | `(tactic| walk_at "mine two") => alts [closer 'a', rule 'p' `Ne.symm "a" 0]
local macro_rules | `(tactic| walk_at "mine three") => alts [rule 'p' `it_off "a" 0, rule 'p' `lm_ne_reel "a" 0, rule 'p' `ints_ne_reel "a" 0, rule 'p' `lm_ne_refs "aa" 0, rule 'p' `ints_ne_refs "aa" 0]
local macro_rules | `(tactic| walk_at "mine one") => rule 'p' `apart_of "aMM" 0
local macro_rules | `(tactic| walk_at "mine off") => alts [rule 'p' `Or.inl "2" 0, rule 'p' `off_cls "Q" 0, rule 'p' `Or.inr "3" 0, rule 'p' `Or.inl "1" 0]
local macro_rules | `(tactic| walk_at "mine rest") => `(tactic| repeat (first | exact CRest.nil | apply CRest.self | (apply CRest.keep; (focus walk_at "mine off")) | apply CRest.drop))
local macro_rules | `(tactic| walk_at "spun use") => `(tactic| k_dflt (refine' use_spun ?cB ?cF ?cX ?cN ?cT ?ck ?cm ?cp ?cr ?cd ?cu (spun_ok ?h0 ?h1 ?h2 ?h3 ?h4 ?h5) ?_))
local macro_rules | `(tactic| walk_at "mine length") => `(tactic| first | with_reducible assumption | (simp only [List.length_map, List.length_take]; omega))
local macro_rules | `(tactic| walk_at "call ref") => thenLine (sides "cB:a cF:a cX:a cN:a cT:a ck:k cm:M cp:t h0:a h1:4 h2:x h3:x h4:5 h5:5 cr:R cd:d cu:u" (both (isCall 275) (lineOf "spun use"))) "mine tail"

section

local macro_rules | `(tactic| walk_at "call ref") => callLine 289 `use_pairlmK `law_rows_ok "ann" "t"

set_option maxHeartbeats 4000000 in
theorem law_body {wd : World} {sc : Addr} {ns : List Int} {vs : List Value} (hi : IntsAre vs ns) (hlen : ns.length < 64)
    (hrest : RestOk wd 327 9 40 (LawSt2 sc) (OutBool true)) :
    BodyOk wd 327 40 [Str.ofString "script", Str.ofString "reel", Str.ofString "w", Str.ofString "n", Str.ofString "p", Str.ofString "q", Str.ofString "told", Str.ofString "row", Str.ofString "ring", Str.ofString "rests", Str.ofString "pairs", Str.ofString "norms", Str.ofString "moments", Str.ofString "turn", Str.ofString "form", Str.ofString "spot", Str.ofString "at", Str.ofString "e", Str.ofString "norm", Str.ofString "a", Str.ofString "b", Str.ofString "due"] [some (.ref sc), none, none, none, none, none, none, none, none, none, none, none, none, none, none, none, none, none, none, none, none, none]
      (fun g => g.IsList sc vs.toArray) (OutBool true) := by
  refine' BodyOk.of2 [Str.ofString "_law_spun", Str.ofString "_law_limbs", Str.ofString "Ring", Str.ofString "mul_school", Str.ofString "divrem_school", Str.ofString "signed_rest", Str.ofString "_law_norm", Str.ofString "_law_rows", Str.ofString "range", Str.ofString "len", Str.ofString "_law_due", Str.ofString "_law_done", Str.ofString "_law_ends_right", Str.ofString "pair_power", Str.ofString "lucas_rests", Str.ofString "list"] hrest ?ho ?hk ?hS ?hG ?_
  case ho => k_is
  case hk => exact rfl
  case hS => exact slotsOk_of (by decide +kernel)
  case hG => exact globOk_of (by decide +kernel)
  intro hR9 fa cd p' loose mean mg mb dp un gd outer A₀ base g L s B F X N T hcs hS hG hl hd hu Q hQ
  clear hrest
  refine execs_split 3 (fun s' => ∃ (rl dl : Addr) (k w n p q : Int) (t0 tw tn tp tq : Tok) (ep n0 : Nat) (ys : List Value) (ds : List Int) (h' : Heap) (tk' : Nat), s' = { s with heap := h', toks := tk' } ∧
    Fr g L h' (slots [Str.ofString "script", Str.ofString "reel", Str.ofString "w", Str.ofString "n", Str.ofString "p", Str.ofString "q", Str.ofString "told", Str.ofString "row", Str.ofString "ring", Str.ofString "rests", Str.ofString "pairs", Str.ofString "norms", Str.ofString "moments", Str.ofString "turn", Str.ofString "form", Str.ofString "spot", Str.ofString "at", Str.ofString "e", Str.ofString "norm", Str.ofString "a", Str.ofString "b", Str.ofString "due"] [some (.ref sc), some (.ref rl), some (.int w tw), some (.int n tn), some (.int p tp), some (.int q tq), none, none, none, none, none, none, none, none, none, none, none, none, none, none, none, none]) ∧
    News g L h' [(rl, reelO k t0 dl ep), (dl, listOf ys.toArray n0)] ∧ IntsAre ys ds ∧ ds.length < 100 ∧ 0 ≤ k ∧ k ≤ 4 ∧ WOk w ∧ n % 2 = 1 ∧ 3 ≤ n ∧ n ≤ 61 ∧ -9 ≤ p ∧ p ≤ 9 ∧ -9 ≤ q ∧ q ≤ 9 ∧ dl ≠ rl) ?_ ?_
  · clear hR9
    intro R hR _
    show wpAny _ _ (execs [_, _, _] _) _ _ _
    k_steps
    try dsimp only
    refine hR _ ?_
    refine' ⟨_, _, _, _, _, _, _, _, _, _, _, _, _, _, _, _, _, _, rfl, by assumption, news_sub (by assumption) ?sub, ?hi, ?hl, ?a1, ?a2, ⟨?a3, ?a4⟩, ?a5, ?a6, ?a7, ?a8, ?a9, ?b1, ?b2, ?ne⟩
    case sub => k_subL
    case hi => assumption
    case hl => simp only [List.length_map, List.length_take]; omega
    case ne => exact Nat.ne_of_lt (by omega)
    all_goals omega
  · rintro s9 h9
    refine ex18 h9 fun rl dl k w n p q t0 tw tn tp tq ep n0 ys ds h' tk' h8 => ?_
    refine and16 h8 fun e9 F1 N1 hys hds hk0 hk1 hw hod hn3 hn61 hp0 hp1 hq0 hq1 hne => ?_
    subst e9
    clear h9 h8
    clear F N
    have hBB := base_le hw
    have hB1 := hBB.2
    have h00 : 0 < n := by omega
    have hnB : n < 2 ^ w.toNat := by omega
    refine execs_split 6 (fun s' => ∃ (h' : Heap) (tk' : Nat), s' = { s with heap := h', toks := tk' } ∧ LawSt2 sc g L h') ?_ ?_
    · clear hR9
      intro R hR _
      show wpAny _ _ (execs [_, _, _, _, _, _] _) _ _ _
      k_steps
      try dsimp only
      refine hR _ ⟨_, _, rfl, ?_⟩
      refine' ⟨_, _, _, _, _, _, _, _, _, _, _, _, _, _, _, _, _, _, _, _, _, _, _, _, _, _, _, _, _, _, _, _, _, _, _, _, _, _, _, _, _, _, _, _, _, _, _, (_, _), _, _, _, _, _, _, _, _, _, _, _, by assumption, news_sub (by assumption) ?sub, by assumption, by assumption, by assumption, by assumption, by assumption, by assumption, by assumption, by assumption, by assumption, by assumption, by assumption, by assumption, by assumption, ?m4, ?m5, ?f1, ?f2, ?f3, ?f4, ?f5, ?f6, ?g1, ?g2, ?g3, ?g4, ?g5, ?g6, ?c1, ?c2, ?c3, ?c4, ?c5, ?c6⟩
      case sub => k_subL
      case m4 => exact lm_mod (by assumption) (by assumption) (by assumption)
      case m5 => exact lm_mod (by assumption) (by assumption) (by assumption)
      case c5 => exact apart_of (by assumption) (by k_mem) (by k_mem)
      case c6 => exact apart_of (by assumption) (by k_mem) (by k_mem)
      all_goals first | omega | exact Nat.ne_of_lt (by omega) | exact Nat.ne_of_gt (by omega)
    · rintro _ ⟨h', tk', rfl, hSt⟩
      rw [List.drop_drop]
      exact hR9 fa cd p' loose mean mg mb dp un gd outer A₀ base g L s h' tk' B X T hd hu hSt Q hQ

end

local macro_rules | `(tactic| walk_at "call ref") => callLine 289 `use_pairlm `law_rows_ok "ann" "t"

local macro_rules | `(tactic| walk_at "call ref") => callLine 303 `use_pairc `law_due_ok "nnnnnnnnnnnnnnnnnn" "ttt"
local macro_rules | `(tactic| walk_at "call ref") => callLine 310 `use_pairlmK `law_done_ok "aannlnlnlnlnanannnnn" "rtttttttttt"
local macro_rules | `(tactic| walk_at "call ref") => callLine 322 `use_bool `ends_right_ok "aannnnnnnnnnnaa" "rtttttt"

local macro_rules | `(tactic| walk_at "mine one") => alts [closer 'a', rule 'p' `List.getLast?_concat "" 0]
local macro_rules | `(tactic| walk_at "subscriptTail Name UnaryOp ref int") => rule 'd' `item_last "tf1"
local macro_rules | `(tactic| walk_at "mine idx") => rule 'd' `item_idx "txxa"
local macro_rules | `(tactic| walk_at "mine item") => rule 'd' `item_sel "taa" 1 "mine intros"
local macro_rules | `(tactic| walk_at "mine intros") => `(tactic| intros)
local macro_rules | `(tactic| walk_at "mine item") => lineOf "mine idx"
local macro_rules | `(tactic| walk_at "subscriptTail List Name ref int") => lineOf "mine item"
local macro_rules | `(tactic| walk_at "call builtin:len") => rule 'd' `len_list "taw" 1 "mine tail"
local macro_rules | `(tactic| walk_at "call builtin:list.append") => rule 'd' `append_own "aaMRw" 1 "mine tail"
local macro_rules | `(tactic| walk_at "binaryOp Pow int int") => rule 'r' `r_powE "xwnn"
local macro_rules | `(tactic| walk_at "mine eq") => rule 'p' `done_due "a" 0
local macro_rules | `(tactic| walk_at "compareOp NotEq ref ref") => rule 'd' `nePair "ttttttllllqU"

local macro_rules | `(tactic| walk_at "ite") => rule 'd' `ite_no "A"

section

local macro_rules | `(tactic| walk_at "pyIter ref") => rule 'd' `stop_here ""

local macro_rules | `(tactic| walk_at "UnrPost") => rule 'd' `stop_here ""
local macro_rules | `(tactic| walk_at "UnrEnd") => rule 'd' `stop_here ""

set_option maxHeartbeats 4000000 in
theorem law_loop {wd : World} {sc : Addr} (hrest : RestOk wd 327 10 40 (LawSt3 sc) (OutBool true)) : RestOk wd 327 9 40 (LawSt2 sc) (OutBool true) := by
  refine' RestOk.of2 [Str.ofString "script", Str.ofString "reel", Str.ofString "w", Str.ofString "n", Str.ofString "p", Str.ofString "q", Str.ofString "told", Str.ofString "row", Str.ofString "ring", Str.ofString "rests", Str.ofString "pairs", Str.ofString "norms", Str.ofString "moments", Str.ofString "turn", Str.ofString "form", Str.ofString "spot", Str.ofString "at", Str.ofString "e", Str.ofString "norm", Str.ofString "a", Str.ofString "b", Str.ofString "due"] [Str.ofString "_law_spun", Str.ofString "_law_limbs", Str.ofString "Ring", Str.ofString "mul_school", Str.ofString "divrem_school", Str.ofString "signed_rest", Str.ofString "_law_norm", Str.ofString "_law_rows", Str.ofString "range", Str.ofString "len", Str.ofString "_law_due", Str.ofString "_law_done", Str.ofString "_law_ends_right", Str.ofString "pair_power", Str.ofString "lucas_rests", Str.ofString "list"] hrest ?ho ?hk ?hS ?hG ?_
  case ho => k_is
  case hk => exact rfl
  case hS => exact slotsOk_of (by decide +kernel)
  case hG => exact globOk_of (by decide +kernel)
  intro hR9 fa cd p' loose mean mg mb dp un gd outer A₀ base g L s h9 tk9 B X T hcs hS hG hd hu hSt Q hQ
  clear hrest
  obtain ⟨rl, dl, tt, ro, rg, rd, tr, PL, NL, ML, xp, xq, w, n, p, q, tw, tn, tp, tq, t4, t5, t6, n0, e6, e7, ys, ds, on, op, oq, h1, h2, h3, h4, s1, s2, s3, s4, sw, ed, pf, mf, xf, yf, ox, oy, z, k, t0, t1, t2, t3, e0, e1, e2, e3, e4, e5, F2, N2, hys, hds, hw, hod, hn3, hn61, hp0, hp1, hq0, hq1, lon, lop, loq, lox, loy, hk2, hk3, hz1, hz2, hz3, hz4, d1, d2, d3, d4, d5, d6, c1, c2, c3, c4, c5, c6⟩ := hSt
  have hBB := base_le hw
  have hB1 := hBB.2
  have h00 : 0 < n := by omega
  have h1n : 1 < n := by omega
  have hnB : n < 2 ^ w.toNat := by omega
  have hpn : p % n < n := Int.emod_lt_of_pos _ h00
  have hqn : q % n < n := Int.emod_lt_of_pos _ h00
  show wpAny _ _ (execs [_, _, _, _, _, _] _) _ _ _
  refine execs_split 1 (fun s' => ∃ (h' : Heap) (tk' : Nat), s' = { s with heap := h', toks := tk' } ∧ LawSt3 sc g L h') ?_ ?_
  · clear hR9
    intro R hR _
    show wpAny _ _ (execs [_] _) _ _ _
    k_steps
    unfold Stop
    refine krs_iter (by rfl) (by assumption) (small_one (by omega) (by omega) (by omega) (by omega)) (rangeSize_nat _ _) (by assumption) (by assumption) fun I hI => ?_
    refine krs_ind (J := fun i m news => ∃ (k : Int) (t0 : Tok) (e0 e1 e2 e3 : Nat) (ps nv ms : List Value) (u1 u2 u3 u4 u5 u6 : Option Value), m = slots [Str.ofString "script", Str.ofString "reel", Str.ofString "w", Str.ofString "n", Str.ofString "p", Str.ofString "q", Str.ofString "told", Str.ofString "row", Str.ofString "ring", Str.ofString "rests", Str.ofString "pairs", Str.ofString "norms", Str.ofString "moments", Str.ofString "turn", Str.ofString "form", Str.ofString "spot", Str.ofString "at", Str.ofString "e", Str.ofString "norm", Str.ofString "a", Str.ofString "b", Str.ofString "due"] [some (.ref sc), some (.ref rl), some (.int w tw), some (.int n tn), some (.int p tp), some (.int q tq), some (.ref tt), some (.ref ro), some (.ref rg), some (.ref tr), some (.ref PL), some (.ref NL), some (.ref ML), u1, u2, u3, u4, u5, u6, none, none, none] ∧
      (rl, reelO k t0 dl e0) ∈ news ∧ (PL, listOf ps.toArray e1) ∈ news ∧ (NL, listOf nv.toArray e2) ∈ news ∧ (ML, listOf ms.toArray e3) ∈ news ∧ SubL [(tt, tupO #[.int p t4, .int q t5, .int n t6] e6), (ro, on), (rg, instObj 187 rd), (rd, ringD h1 h2 h3 h4 s1 s2 s3 s4 sw ro w ed), (tr, tupO #[.ref xp, .ref xq] e7), (xp, op), (xq, oq), (dl, listOf ys.toArray n0)] news ∧ 0 ≤ k ∧ k ≤ 7 + 2 * (i : Int) ∧ ps.length = i + 1 ∧ nv.length = i + 1 ∧ ms.length = i + 1 ∧ ∀ j, j ≤ i → Ent w n p q NL news ps nv ms j)
      ?_ (fun i v t m news it h tk hi hv hc hJ F N R2 hR2 => ?_) (fun m news h tk hJ F N => ?_)
    · refine' ⟨_, _, _, _, _, _, [_], [_], [_], _, _, _, _, _, _, rfl, ?j1, ?j2, ?j3, ?j4, ?j5, ?k0, ?k1, rfl, rfl, rfl, fun j hj => ?jE⟩
      case j1 => k_mem
      case j2 => k_mem
      case j3 => k_mem
      case j4 => k_mem
      case j5 => k_subL
      case k0 => omega
      case k1 => omega
      case jE =>
        obtain rfl : j = 0 := by omega
        refine' ⟨_, _, _, _, z, _, _, _, _, _, _, _, rfl, rfl, rfl, ?q1, ?q2, ?q3, ?q4, lox, loy, hz1, hz2, hz3, hz4, c5, c6⟩
        case q1 => k_mem
        case q2 => k_mem
        case q3 => k_mem
        case q4 => k_mem
    · refine ex15 hJ fun k t0 e0 e1 e2 e3 ps nv ms u1 u2 u3 u4 u5 u6 h8 => ?_
      clear hJ
      refine and12 h8 fun hm m1 m2 m3 m4 m5 k0 k1 l1 l2 l3 hE => ?_
      clear h8
      subst hm
      refine' fr_goal F hS ?hs ?_
      case hs => walk_at "mine set"
      clear F
      intro F
      obtain ⟨pf, mf, xf, yf, zf, w1, w2, w3, f3, f4, oc, od, gf1, gf2, gf3, gf4, gf5, gf6, gf7, gf8, gf9, bf1, bf2, bf3, bf4, gf10, gf11⟩ := hE 0 (Nat.zero_le _)
      obtain ⟨pl, ml, xl, yl, zl, v1, v2, v3, f1, f2, oa, ob, g1, g2, g3, g4, g5, g6, g7, g8, g9, b1, b2, b3, b4, g10, g11⟩ := hE i (Nat.le_refl _)
      have N1 := news_locals (news_sub N (l := [(I, it), (rl, reelO k t0 dl e0), (PL, listOf ps.toArray e1), (NL, listOf nv.toArray e2), (ML, listOf ms.toArray e3), (pf, tupO #[.int zf.1 w1, .int zf.2 w2] f3), (mf, tupO #[.ref xf, .ref yf] f4), (xf, oc), (yf, od), (pl, tupO #[.int zl.1 v1, .int zl.2 v2] f1), (ml, tupO #[.ref xl, .ref yl] f2), (xl, oa), (yl, ob), (tt, tupO #[.int p t4, .int q t5, .int n t6] e6), (ro, on), (rg, instObj 187 rd), (rd, ringD h1 h2 h3 h4 s1 s2 s3 s4 sw ro w ed), (tr, tupO #[.ref xp, .ref xq] e7), (xp, op), (xq, oq), (dl, listOf ys.toArray n0)])
        (by
          obtain ⟨q1, q2, q3, q4, q5, q6, q7, q8, _⟩ := m5
          exact ⟨.head _, .tail _ m1, .tail _ m2, .tail _ m3, .tail _ m4, .tail _ gf4, .tail _ gf5, .tail _ gf6, .tail _ gf7, .tail _ g4, .tail _ g5, .tail _ g6, .tail _ g7, .tail _ q1, .tail _ q2, .tail _ q3, .tail _ q4, .tail _ q5, .tail _ q6, .tail _ q7, .tail _ q8, trivial⟩))
      clear N hE m1 m2 m3 m4 m5 gf4 gf5 gf6 gf7 g4 g5 g6 g7
      have hi2 := turn_two hi (by assumption)
      have hk9 := k_turn k1 hi2
      have h100 : n < 100 := Int.lt_of_le_of_lt hn61 (by decide)
      clear hi hv
      have hl1 := last_of l1 g1
      have hl2 := last_of l2 g2
      have hl3 := last_of l3 g3
      refine execs_split 2 (fun s' => ∃ (f sp a e k' : Int) (tf ts ta te t0 : Tok) (e0 : Nat) (h' : Heap) (tk' : Nat), s' = { s with heap := h', toks := tk' } ∧
        Fr g L h' (slots [Str.ofString "script", Str.ofString "reel", Str.ofString "w", Str.ofString "n", Str.ofString "p", Str.ofString "q", Str.ofString "told", Str.ofString "row", Str.ofString "ring", Str.ofString "rests", Str.ofString "pairs", Str.ofString "norms", Str.ofString "moments", Str.ofString "turn", Str.ofString "form", Str.ofString "spot", Str.ofString "at", Str.ofString "e", Str.ofString "norm", Str.ofString "a", Str.ofString "b", Str.ofString "due"] [some (.ref sc), some (.ref rl), some (.int w tw), some (.int n tn), some (.int p tp), some (.int q tq), some (.ref tt), some (.ref ro), some (.ref rg), some (.ref tr), some (.ref PL), some (.ref NL), some (.ref ML), some (.int v t), some (.int f tf), some (.int sp ts), some (.int a ta), some (.int e te), u6, none, none, none]) ∧
        News g L h' [(I, it), (rl, reelO k' t0 dl e0), (PL, listOf ps.toArray e1), (NL, listOf nv.toArray e2), (ML, listOf ms.toArray e3), (pf, tupO #[.int zf.1 w1, .int zf.2 w2] f3), (mf, tupO #[.ref xf, .ref yf] f4), (xf, oc), (yf, od), (pl, tupO #[.int zl.1 v1, .int zl.2 v2] f1), (ml, tupO #[.ref xl, .ref yl] f2), (xl, oa), (yl, ob), (tt, tupO #[.int p t4, .int q t5, .int n t6] e6), (ro, on), (rg, instObj 187 rd), (rd, ringD h1 h2 h3 h4 s1 s2 s3 s4 sw ro w ed), (tr, tupO #[.ref xp, .ref xq] e7), (xp, op), (xq, oq), (dl, listOf ys.toArray n0)] ∧
        0 ≤ f ∧ f < 5 ∧ 0 ≤ a ∧ a < ((i + 1 : Nat) : Int) ∧ 0 ≤ e ∧ e < 4 ∧ 0 ≤ k' ∧ k' ≤ k + 2) ?_ ?_
      · intro R3 hR3 _
        show wpAny _ _ (execs [_, _] _) _ _ _
        k_steps
        try dsimp only
        refine hR3 _ ?_
        refine' ⟨_, _, _, _, _, _, _, _, _, _, _, _, _, rfl, by assumption, news_sub (by assumption) ?sub, ?a1, ?a2, ?a3, ?a4, ?a5, ?a6, ?a7, ?a8⟩
        case sub => k_subL
        case a3 => exact Int.emod_nonneg _ (by omega)
        case a4 => exact Int.emod_lt_of_pos _ (by omega)
        all_goals omega
      · rintro s9 h9
        refine ex13 h9 fun f sp a e k' tf ts ta te t0' e0' h' tk' h8 => ?_
        refine and11 h8 fun e9 F4 N4 hf0 hf1 ha0 ha1 he0 he1 hk0 hk1 => ?_
        subst e9
        clear h9 h8
        show wpAny _ _ (execs [_, _, _, _, _] _) _ _ _
        clear F N1
        have hA : Ent w n p q NL [(I, it), (rl, reelO k' t0' dl e0'), (PL, listOf ps.toArray e1), (NL, listOf nv.toArray e2), (ML, listOf ms.toArray e3), (pf, tupO #[.int zf.1 w1, .int zf.2 w2] f3), (mf, tupO #[.ref xf, .ref yf] f4), (xf, oc), (yf, od), (pl, tupO #[.int zl.1 v1, .int zl.2 v2] f1), (ml, tupO #[.ref xl, .ref yl] f2), (xl, oa), (yl, ob), (tt, tupO #[.int p t4, .int q t5, .int n t6] e6), (ro, on), (rg, instObj 187 rd), (rd, ringD h1 h2 h3 h4 s1 s2 s3 s4 sw ro w ed), (tr, tupO #[.ref xp, .ref xq] e7), (xp, op), (xq, oq), (dl, listOf ys.toArray n0)] ps nv ms a.toNat := by
          rcases at_two ha0 ha1 hi2 with h | h
          · rw [h]; exact ⟨pf, mf, xf, yf, zf, w1, w2, w3, f3, f4, oc, od, gf1, gf2, gf3, by k_mem, by k_mem, by k_mem, by k_mem, gf8, gf9, bf1, bf2, bf3, bf4, gf10, gf11⟩
          · rw [h]; exact ⟨pl, ml, xl, yl, zl, v1, v2, v3, f1, f2, oa, ob, g1, g2, g3, by k_mem, by k_mem, by k_mem, by k_mem, g8, g9, b1, b2, b3, b4, g10, g11⟩
        obtain ⟨pa, ma, xa, ya, za, r1, r2, r3, f7, f8, oe, of, q1, q2, q3, q4, q5, q6, q7, q8, q9, q10, q11, q12, q13, q14, q15⟩ := hA
        have key : ∀ (pn mn xn yn : Addr) (y1 y2 tn' : Tok) (e1' e2' e3' f5 f6 : Nat) (oxn oyn : Obj) (vv : Option Value) (h6 : Heap) (tk6 : Nat) (all : List (Addr × Obj)),
            Fr g L h6 (slots [Str.ofString "script", Str.ofString "reel", Str.ofString "w", Str.ofString "n", Str.ofString "p", Str.ofString "q", Str.ofString "told", Str.ofString "row", Str.ofString "ring", Str.ofString "rests", Str.ofString "pairs", Str.ofString "norms", Str.ofString "moments", Str.ofString "turn", Str.ofString "form", Str.ofString "spot", Str.ofString "at", Str.ofString "e", Str.ofString "norm", Str.ofString "a", Str.ofString "b", Str.ofString "due"] [some (.ref sc), some (.ref rl), some (.int w tw), some (.int n tn), some (.int p tp), some (.int q tq), some (.ref tt), some (.ref ro), some (.ref rg), some (.ref tr), some (.ref PL), some (.ref NL), some (.ref ML), some (.int v t), some (.int f tf), some (.int sp ts), some (.int a ta), some (.int e te), vv, none, none, none]) → News g L h6 all → SubL [(rl, reelO k' t0' dl e0'), (PL, listOf (ps ++ [Value.ref pn]).toArray e1'), (NL, listOf (nv ++ [Value.int (sel5 f (nrm n p q zl * nrm n p q za) (nrm n p q zl * nrm n p q zl) (nrm n p q zl ^ e.toNat) (nrm n p q zl * q) (nrm n p q zl) % n) tn']).toArray e2'), (ML, listOf (ms ++ [Value.ref mn]).toArray e3'), (pn, tupO #[.int (due n p q f zl za e).1 y1, .int (due n p q f zl za e).2 y2] f5), (mn, tupO #[.ref xn, .ref yn] f6), (xn, oxn), (yn, oyn)] all → SubL [(pf, tupO #[.int zf.1 w1, .int zf.2 w2] f3), (mf, tupO #[.ref xf, .ref yf] f4), (xf, oc), (yf, od), (pl, tupO #[.int zl.1 v1, .int zl.2 v2] f1), (ml, tupO #[.ref xl, .ref yl] f2), (xl, oa), (yl, ob)] all → SubL [(tt, tupO #[.int p t4, .int q t5, .int n t6] e6), (ro, on), (rg, instObj 187 rd), (rd, ringD h1 h2 h3 h4 s1 s2 s3 s4 sw ro w ed), (tr, tupO #[.ref xp, .ref xq] e7), (xp, op), (xq, oq), (dl, listOf ys.toArray n0)] all → (I, it) ∈ all →
            Lm w (done n (p % n) (q % n) f zl za e).1 oxn → Lm w (done n (p % n) (q % n) f zl za e).2 oyn → xn ≠ NL → yn ≠ NL → R2 .next { s with heap := h6, toks := tk6 } := by
          intro pn mn xn yn y1 y2 tn' e1' e2' e3' f5 f6 oxn oyn vv h6 tk6 all F6 N6 u1 u2 u3 u4 u5 u6 u7 u8
          have hbd := @due_bd n p q f zl za e h1n
          rw [done_due h1n] at u5 u6
          have hS := @nrm_due n p q f zl za e h1n hf0 hf1
          rw [← hS] at u1
          have w5 := lm_mod u5 hbd.1 hbd.2.1
          have w6 := lm_mod u6 hbd.2.2.1 hbd.2.2.2
          refine hR2 _ _ ?_
          obtain ⟨s1', s2', s3', s4', s5', s6', s7', s8', _⟩ := u1
          obtain ⟨x1, x2, x3, x4, x5, x6, x7, x8, _⟩ := u2
          obtain ⟨z1, z2, z3, z4, z5, z6, z7, z8, _⟩ := u3
          refine unr_end ([(rl, reelO k' t0' dl e0'), (PL, listOf (ps ++ [Value.ref pn]).toArray e1'), (NL, listOf (nv ++ [Value.int (nrm n p q (due n p q f zl za e)) tn']).toArray e2'), (ML, listOf (ms ++ [Value.ref mn]).toArray e3'), (pn, tupO #[.int (due n p q f zl za e).1 y1, .int (due n p q f zl za e).2 y2] f5), (mn, tupO #[.ref xn, .ref yn] f6), (xn, oxn), (yn, oyn)] ++ ([(pf, tupO #[.int zf.1 w1, .int zf.2 w2] f3), (mf, tupO #[.ref xf, .ref yf] f4), (xf, oc), (yf, od), (pl, tupO #[.int zl.1 v1, .int zl.2 v2] f1), (ml, tupO #[.ref xl, .ref yl] f2), (xl, oa), (yl, ob)] ++ [(tt, tupO #[.int p t4, .int q t5, .int n t6] e6), (ro, on), (rg, instObj 187 rd), (rd, ringD h1 h2 h3 h4 s1 s2 s3 s4 sw ro w ed), (tr, tupO #[.ref xp, .ref xq] e7), (xp, op), (xq, oq), (dl, listOf ys.toArray n0)])) F6 N6 u4 ⟨s1', s2', s3', s4', s5', s6', s7', s8', x1, x2, x3, x4, x5, x6, x7, x8, z1, z2, z3, z4, z5, z6, z7, z8, trivial⟩ ?_ ⟨k', t0', e0', e1', e2', e3', ps ++ [Value.ref pn], nv ++ [Value.int (nrm n p q (due n p q f zl za e)) tn'], ms ++ [Value.ref mn], _, _, _, _, _, _, rfl, .head _, .tail _ (.head _), .tail _ (.tail _ (.head _)), .tail _ (.tail _ (.tail _ (.head _))), ?_, hk0, by omega, by simp [l1], by simp [l2], by simp [l3], fun j hj => ?_⟩
          · refine ⟨?_, ?_, ?_, ?_, ?_, ?_, ?_, ?_, ?_, ?_, ?_, ?_, ?_, ?_, ?_, ?_, ?_, ?_, ?_, ?_, ?_, ?_, ?_, ?_, trivial⟩
            all_goals first
              | (rw [hc]; k_cls)
              | exact lm_cls_ne (by assumption) hc
          · k_subL
          · rcases j_two hi2 hj with h | h | h
            · rw [h]; exact ⟨pf, mf, xf, yf, zf, w1, w2, w3, f3, f4, oc, od, get_app gf1, get_app gf2, get_app gf3, by k_mem, by k_mem, by k_mem, by k_mem, gf8, gf9, bf1, bf2, bf3, bf4, gf10, gf11⟩
            · rw [h]; exact ⟨pl, ml, xl, yl, zl, v1, v2, v3, f1, f2, oa, ob, get_app g1, get_app g2, get_app g3, by k_mem, by k_mem, by k_mem, by k_mem, g8, g9, b1, b2, b3, b4, g10, g11⟩
            · rw [h]; exact ⟨pn, mn, xn, yn, due n p q f zl za e, y1, y2, tn', f5, f6, oxn, oyn, get_end l1, get_end l2, get_end l3, by k_mem, by k_mem, by k_mem, by k_mem, w5, w6, hbd.1, hbd.2.1, hbd.2.2.1, hbd.2.2.2, u7, u8⟩
        have N5 := news_dup (news_dup (news_dup (news_dup N4 q4) (.tail _ q5)) (.tail _ (.tail _ q6))) (.tail _ (.tail _ (.tail _ q7)))
        obtain ⟨nb1, nb3⟩ := @nrm_bd n p q zl.1 zl.2 h00
        obtain ⟨nb2, nb4⟩ := @nrm_bd n p q za.1 za.2 h00
        replace nb1 : 0 ≤ nrm n p q zl := nb1
        replace nb3 : nrm n p q zl < n := nb3
        replace nb2 : 0 ≤ nrm n p q za := nb2
        replace nb4 : nrm n p q za < n := nb4
        have ha2 := a_th ha1 hi2
        have he2 := e_ten he1
        clear k1 hk1 hk0 hk9 k0 hn3 hn61 hod hds hk2 hk3 bf1 bf2 bf3 bf4
        have hE2 : ¬ nrm n p q (due n p q f zl za e) ≠ sel5 f (nrm n p q zl * nrm n p q za) (nrm n p q zl * nrm n p q zl) (nrm n p q zl ^ e.toNat) (nrm n p q zl * q) (nrm n p q zl) % n := fun h => h (nrm_due h1n hf0 hf1)
        clear N4 q4 q5 q6 q7
        k_steps
        · exact absurd (by assumption) hE2
        · refine' key _ _ _ _ _ _ _ _ _ _ _ _ _ _ _ _ _ _ (by assumption) (by assumption) ?p1 ?p2 ?p3 ?p4 ?p5 ?p6 ?p7 ?p8
          case p1 => k_subL
          case p2 => k_subL
          case p3 => k_subL
          case p4 => k_mem
          case p5 => assumption
          case p6 => assumption
          case p7 => exact apart_of (by assumption) (by k_mem) (by k_mem)
          case p8 => exact apart_of (by assumption) (by k_mem) (by k_mem)
    · refine ex15 hJ fun k t0 e0 e1 e2 e3 ps nv ms u1 u2 u3 u4 u5 u6 h8 => ?_
      clear hJ
      refine and12 h8 fun hm m1 m2 m3 m4 m5 k0 k1 l1 l2 l3 hE => ?_
      clear h8
      subst hm
      replace F := fr_locals F
      replace N := news_locals N
      obtain ⟨pl, ml, xl, yl, zl, v1, v2, v3, f1, f2, oa, ob, g1, g2, g3, g4, g5, g6, g7, g8, g9, b1, b2, b3, b4, g10, g11⟩ := hE _ (Nat.le_refl _)
      k_steps
      try dsimp only
      refine hR _ ⟨_, _, rfl, ?_⟩
      have N3 := news_sub N (l := [(rl, reelO k t0 dl e0), (PL, listOf ps.toArray e1), (pl, tupO #[.int zl.1 v1, .int zl.2 v2] f1), (tt, tupO #[.int p t4, .int q t5, .int n t6] e6), (ro, on), (rg, instObj 187 rd), (rd, ringD h1 h2 h3 h4 s1 s2 s3 s4 sw ro w ed), (tr, tupO #[.ref xp, .ref xq] e7), (xp, op), (xq, oq), (dl, listOf ys.toArray n0)]) ⟨m1, m2, g4, m5⟩
      exact ⟨_, _, _, _, _, _, _, _, _, _, _, _, _, _, _, _, _, _, _, _, _, _, _, _, _, _, _, _, _, _, _, _, _, _, _, _, _, _, _, _, _, pl, zl, _, _, _, _, _, _, _, _, _, _, _, _, _, _, F, N3, hys, hds, hw, hod, hn3, hn61, hp0, hp1, hq0, hq1, lon, lop, loq, last_of l1 g1, k0, by omega, b1, b2, b3, b4⟩
  · rintro _ ⟨h', tk', rfl, hSt⟩
    exact hR9 fa cd p' loose mean mg mb dp un gd outer A₀ base g L s h' tk' B X T hd hu hSt Q hQ

end

section

local macro_rules | `(tactic| walk_at "call ref") => callLine 219 `use_pairlm `pair_power_ok "aannlnlnlnnanan" "rttttttt"
local macro_rules | `(tactic| walk_at "call ref") => callLine 170 `use_res `minus_ok "aannlnln" "rttt" (res := true)

local macro_rules | `(tactic| walk_at "eval ListComp") => rule 'd' `ListComp_tup "aFcfcf"
local macro_rules | `(tactic| walk_at "call builtin:sum") => rule 'd' `stop_here ""
local macro_rules | `(tactic| walk_at "eval IfExp") => rule 'd' `mark_stop "a"

local macro_rules | `(tactic| walk_at "call ref") => callLine 205 `use_tri `lucas_rests_ok "aannnnnnnlnn" "tt"

set_option maxHeartbeats 4000000 in
theorem law_tail {wd : World} {sc : Addr} : RestOk wd 327 10 40 (LawSt3 sc) (OutBool true) := by
  refine' RestOk.of [Str.ofString "script", Str.ofString "reel", Str.ofString "w", Str.ofString "n", Str.ofString "p", Str.ofString "q", Str.ofString "told", Str.ofString "row", Str.ofString "ring", Str.ofString "rests", Str.ofString "pairs", Str.ofString "norms", Str.ofString "moments", Str.ofString "turn", Str.ofString "form", Str.ofString "spot", Str.ofString "at", Str.ofString "e", Str.ofString "norm", Str.ofString "a", Str.ofString "b", Str.ofString "due"] [Str.ofString "_law_spun", Str.ofString "_law_limbs", Str.ofString "Ring", Str.ofString "mul_school", Str.ofString "divrem_school", Str.ofString "signed_rest", Str.ofString "_law_norm", Str.ofString "_law_rows", Str.ofString "range", Str.ofString "len", Str.ofString "_law_due", Str.ofString "_law_done", Str.ofString "_law_ends_right", Str.ofString "pair_power", Str.ofString "lucas_rests", Str.ofString "list"] ?ho ?hk ?hS ?hG ?_
  case ho => k_is
  case hk => exact rfl
  case hS => exact slotsOk_of (by decide +kernel)
  case hG => exact globOk_of (by decide +kernel)
  intro fa cd p' loose mean mg mb dp un gd outer A₀ base g L s h9 tk9 B X T hcs hS hG hd hu hSt Q hQ
  obtain ⟨rl, dl, tt, ro, rg, rd, tr, PL, NL, ML, xp, xq, w, n, p, q, tw, tn, tp, tq, t4, t5, t6, n0, e6, e7, ys, ds, on, op, oq, h1, h2, h3, h4, s1, s2, s3, s4, sw, ed, pl, z, k, t0, t2, t3, e0, e1, e4, ps, u1, u2, u3, u4, u5, u6, F2, N2, hys, hds, hw, hod, hn3, hn61, hp0, hp1, hq0, hq1, lon, lop, loq, hps, hk2, hk3, hz1, hz2, hz3, hz4⟩ := hSt
  have hBB := base_le hw
  have hB1 := hBB.2
  have h00 : 0 < n := by omega
  have h1n : 1 < n := by omega
  have hnB : n < 2 ^ w.toNat := by omega
  have h100 : n < 100 := by omega
  have hpn : p % n < n := Int.emod_lt_of_pos _ h00
  have hqn : q % n < n := Int.emod_lt_of_pos _ h00
  show wpAny _ _ (execs [_, _, _, _, _] _) _ _ _
  refine execs_split 2 (fun s' => ∃ (e : Int) (te : Tok) (h' : Heap) (tk' : Nat), s' = { s with heap := h', toks := tk' } ∧
    Fr g L h' (slots [Str.ofString "script", Str.ofString "reel", Str.ofString "w", Str.ofString "n", Str.ofString "p", Str.ofString "q", Str.ofString "told", Str.ofString "row", Str.ofString "ring", Str.ofString "rests", Str.ofString "pairs", Str.ofString "norms", Str.ofString "moments", Str.ofString "turn", Str.ofString "form", Str.ofString "spot", Str.ofString "at", Str.ofString "e", Str.ofString "norm", Str.ofString "a", Str.ofString "b", Str.ofString "due"] [some (.ref sc), some (.ref rl), some (.int w tw), some (.int n tn), some (.int p tp), some (.int q tq), some (.ref tt), some (.ref ro), some (.ref rg), some (.ref tr), some (.ref PL), some (.ref NL), some (.ref ML), u1, u2, u3, u4, some (.int e te), u6, none, none, none]) ∧ News g L h' [(tt, tupO #[.int p t4, .int q t5, .int n t6] e6), (ro, on), (rg, instObj 187 rd), (rd, ringD h1 h2 h3 h4 s1 s2 s3 s4 sw ro w ed), (tr, tupO #[.ref xp, .ref xq] e7), (xp, op), (xq, oq), (dl, listOf ys.toArray n0)] ∧ 0 ≤ e ∧ e < 6) ?_ ?_
  · intro R hR _
    show wpAny _ _ (execs [_, _] _) _ _ _
    k_steps
    try dsimp only
    refine hR _ ?_
    refine' ⟨_, _, _, _, rfl, by assumption, news_sub (by assumption) ?sub, ?a1, ?a2⟩
    case sub => k_subL
    all_goals omega
  · rintro s9 h9
    refine ex4 h9 fun e te h' tk' h8 => ?_
    refine and5 h8 fun e9 F4 N4 he0 he1 => ?_
    subst e9
    clear h9 h8
    show wpAny _ _ (execs [_, _, _] _) _ _ _
    clear F2 N2
    have hx1 : (0 : Int) < n := h00
    refine execs_split 1 (fun s' => ∃ (ta tb : Tok) (h' : Heap) (tk' : Nat), s' = { s with heap := h', toks := tk' } ∧
      Fr g L h' (slots [Str.ofString "script", Str.ofString "reel", Str.ofString "w", Str.ofString "n", Str.ofString "p", Str.ofString "q", Str.ofString "told", Str.ofString "row", Str.ofString "ring", Str.ofString "rests", Str.ofString "pairs", Str.ofString "norms", Str.ofString "moments", Str.ofString "turn", Str.ofString "form", Str.ofString "spot", Str.ofString "at", Str.ofString "e", Str.ofString "norm", Str.ofString "a", Str.ofString "b", Str.ofString "due"] [some (.ref sc), some (.ref rl), some (.int w tw), some (.int n tn), some (.int p tp), some (.int q tq), some (.ref tt), some (.ref ro), some (.ref rg), some (.ref tr), some (.ref PL), some (.ref NL), some (.ref ML), u1, u2, u3, u4, some (.int e te), u6, some (.int (pw n (p % n) (q % n) (0, 1) e.toNat).1 ta), some (.int (pw n (p % n) (q % n) (0, 1) e.toNat).2 tb), none]) ∧ News g L h' [(tt, tupO #[.int p t4, .int q t5, .int n t6] e6), (ro, on), (rg, instObj 187 rd), (rd, ringD h1 h2 h3 h4 s1 s2 s3 s4 sw ro w ed), (tr, tupO #[.ref xp, .ref xq] e7), (xp, op), (xq, oq), (dl, listOf ys.toArray n0)]) ?_ ?_
    · intro R hR _
      show wpAny _ _ (execs [_] _) _ _ _
      have hm : Mark := trivial
      have B1 : (pw n (p % n) (q % n) (0, 1) e.toNat).1 < 2 ^ w.toNat := by have := (@pw_lt n (p % n) (q % n) (0, 1) h1n (e.toNat)).1; omega
      have B2 : (pw n (p % n) (q % n) (0, 1) e.toNat).2 < 2 ^ w.toNat := by have := (@pw_lt n (p % n) (q % n) (0, 1) h1n (e.toNat)).2; omega
      k_steps
      unfold Stop
      refine ifexp_cut (w := w) (e := e) (by assumption) (by assumption) (fun R5 hR5 => ?_) (fun d5 o5 h5 tk5 F5 N5 hle => ?_)
      · clear hm
        rcases (show e = 0 ∨ 0 < e by omega) with rfl | he2
        · k_steps
          try dsimp only
          exact hR5 _ _ _ _ (by assumption) (by assumption) (lm_nil rfl)
        · k_steps
          try dsimp only
          exact hR5 _ _ _ _ (by assumption) (by assumption) (lm_one rfl he2 (by omega))
      clear hm
      k_steps
      refine' ⟨_, [(_, (pw n (p % n) (q % n) (0, 1) e.toNat).1), (_, (pw n (p % n) (q % n) (0, 1) e.toNat).2)], _, w, _, rfl, rfl, by assumption, by assumption, ?mt, by simp, ?xs, ?el, ?fin⟩
      case mt => k_dflt k_mem
      case xs =>
        intro q hq
        simp only [List.mem_cons, List.not_mem_nil, or_false] at hq
        rcases hq with rfl | rfl
        · refine' ⟨_, ?ma, ?mb, ?mc⟩
          case ma => k_dflt k_mem
          case mb => assumption
          case mc => assumption
        · refine' ⟨_, ?ma, ?mb, ?mc⟩
          case ma => k_dflt k_mem
          case mb => assumption
          case mc => assumption
      case el =>
        intro l v o I oI C oC D m₂ ys h tk E' ho hl hv hC hx F N R hR
        k_steps
        unfold Stop
        refine sum_lm (by rfl) (by assumption) (by assumption) (News.get (by assumption) (.tail _ (.tail _ (.tail _ ho)))) hl hv fun h' tk t' F' N' => ?_
        exact hR _ _ _ F' N'
      case fin =>
        intro D ys h tk hi F N
        cases hi with
        | cons _ tt0 hi =>
          cases hi with
          | cons _ tt1 hi =>
            cases hi
            k_steps
            try dsimp only
            refine hR _ ?_
            refine' ⟨_, _, _, _, rfl, by assumption, news_sub (by assumption) ?sub⟩
            case sub => k_subL
    · rintro s9 h9
      refine ex4 h9 fun ta tb h' tk' h8 => ?_
      refine and3 h8 fun e9 F5 N5 => ?_
      subst e9
      clear h9 h8
      show wpAny _ _ (execs [_, _] _) _ _ _
      clear F4 N4
      obtain ⟨za1, za2⟩ := @pw_lt n (p % n) (q % n) (0, 1) h1n e.toNat
      obtain ⟨za3, za4⟩ := @pw_nn n (p % n) (q % n) (0, 1) h1n e.toNat
      have hm : Mark := trivial
      have hlt := @luc_lt n (p % n) (q % n) (pw n (p % n) (q % n) (0, 1) (e.toNat)) h00 (pw_lt h1n _).2
      have B1 : (luc n (p % n) (q % n) (pw n (p % n) (q % n) (0, 1) e.toNat)).1 < 2 ^ w.toNat := by have := hlt.1; omega
      have B2 : (luc n (p % n) (q % n) (pw n (p % n) (q % n) (0, 1) e.toNat)).2.1 < 2 ^ w.toNat := by have := hlt.2.1; omega
      have B3 : (luc n (p % n) (q % n) (pw n (p % n) (q % n) (0, 1) e.toNat)).2.2 < 2 ^ w.toNat := by have := hlt.2.2; omega
      clear hlt
      k_steps
      unfold Stop
      refine ifexp_cut (w := w) (e := e) (by assumption) (by assumption) (fun R5 hR5 => ?_) (fun d5 o5 h5 tk5 F5 N5 hle => ?_)
      · clear hm
        rcases (show e = 0 ∨ 0 < e by omega) with rfl | he2
        · k_steps
          try dsimp only
          exact hR5 _ _ _ _ (by assumption) (by assumption) (lm_nil rfl)
        · k_steps
          try dsimp only
          exact hR5 _ _ _ _ (by assumption) (by assumption) (lm_one rfl he2 (by omega))
      clear hm
      k_steps
      refine' ⟨_, [(_, (luc n (p % n) (q % n) (pw n (p % n) (q % n) (0, 1) e.toNat)).1), (_, (luc n (p % n) (q % n) (pw n (p % n) (q % n) (0, 1) e.toNat)).2.1), (_, (luc n (p % n) (q % n) (pw n (p % n) (q % n) (0, 1) e.toNat)).2.2)], _, w, _, rfl, rfl, by assumption, by assumption, ?mt, by simp, ?xs, ?el, ?fin⟩
      case mt => k_dflt k_mem
      case xs =>
        intro q hq
        simp only [List.mem_cons, List.not_mem_nil, or_false] at hq
        rcases hq with rfl | rfl | rfl
        · refine' ⟨_, ?ma, ?mb, ?mc⟩
          case ma => k_dflt k_mem
          case mb => assumption
          case mc => assumption
        · refine' ⟨_, ?ma, ?mb, ?mc⟩
          case ma => k_dflt k_mem
          case mb => assumption
          case mc => assumption
        · refine' ⟨_, ?ma, ?mb, ?mc⟩
          case ma => k_dflt k_mem
          case mb => assumption
          case mc => assumption
      case el =>
        intro l v o I oI C oC D m₂ ys h tk E' ho hl hv hC hx F N R hR
        k_steps
        unfold Stop
        refine sum_lm (by rfl) (by assumption) (by assumption) (News.get (by assumption) (.tail _ (.tail _ (.tail _ ho)))) hl hv fun h' tk t' F' N' => ?_
        exact hR _ _ _ F' N'
      case fin =>
        intro D ys h tk hi F N
        cases hi with
        | cons _ tt0 hi =>
          cases hi with
          | cons _ tt1 hi =>
            cases hi with
            | cons _ tt2 hi =>
              cases hi
              k_steps
              refine hQ _ _ ?_
              exact done_bool rfl (by assumption) tail_eq

end

end

theorem law_at {wd : World} {g : Heap} {sc : Addr} {ns : List Int} {vs : List Value} (_ : (hd.heap_1 wd.params).In g) (_ : g.IsList sc vs.toArray) (hi : IntsAre vs ns) (hlen : ns.length < 64) :
    BodyOk wd 327 40 [Str.ofString "script", Str.ofString "reel", Str.ofString "w", Str.ofString "n", Str.ofString "p", Str.ofString "q", Str.ofString "told", Str.ofString "row", Str.ofString "ring", Str.ofString "rests", Str.ofString "pairs", Str.ofString "norms", Str.ofString "moments", Str.ofString "turn", Str.ofString "form", Str.ofString "spot", Str.ofString "at", Str.ofString "e", Str.ofString "norm", Str.ofString "a", Str.ofString "b", Str.ofString "due"] [some (.ref sc), none, none, none, none, none, none, none, none, none, none, none, none, none, none, none, none, none, none, none, none, none]
      (fun g => g.IsList sc vs.toArray) (OutBool true) := law_body hi hlen (law_loop law_tail)
theorem law_slots {x : Str} {v : Value} {r : List Str} (hn : (x :: r).Nodup) : (fun y => List.lookup y [(x, v)].reverse) = slots (x :: r) (some v :: r.map fun _ => none) := by
  funext y
  exact slots_binds [(x, v)] r hn y

end Mine
local macro_rules | `(tactic| k_qdec) => `(tactic| decide +kernel)
set_option maxHeartbeats 8000000 in
theorem PySem.Challenge.cw_sj0084_01_holds : PySem.Challenge.rw_sj0084_01.Holds := by
  refine Mine.hd ?_
  k_go0
  have H := Mine.law_at ‹(Mine.hd.heap_1 _).In _› ‹Heap.IsList _ _ _› ‹IntsAre _ _› (by omega) _ _ _ _ _ _ _ _ _ _ _ _ _ _ _ (by k_is)
  refine' wpAny_mono (H _ _ _ _ _ _ _ (1 + claimMargin + 1) (4 + 3) (some []) [] _ _ _ _ _ ?zB ?zF ?zX ?zN ?zT ?zP ?zd ?zu _ (fun _ _ h => h)) ?zq ?ze
  case zB => assumption
  case zX => assumption
  case zN => assumption
  case zT => assumption
  case zP => assumption
  case zd => decide
  case zu => decide
  case ze => exact fun _ _ h => h.elim
  case zF => exact Eq.mp (congrArg (Fr _ _ _) (Mine.law_slots (by decide +kernel))) ‹Fr _ _ _ _›
  case zq =>
    rintro fl s' ⟨L', m', tl, h', tk', rfl, F', N', htl, hv⟩
    cases fl with
    | ret v =>
      have hv' : v = .bool true := hv
      subst hv'
      dsimp only
      clear H hv
      k_steps
    | next => cases hv
    | brk => cases hv
    | cont => cases hv
