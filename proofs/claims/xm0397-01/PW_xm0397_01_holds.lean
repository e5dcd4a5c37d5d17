import PyProof.Rows.All
import Wide.All
import OpenK.AllK
import Wide.FinOn
import Lean
import PySem.Challenge.RW_xm0397_01
open PySem PySem.W PyProof.Rows
set_option Elab.async false
set_option rowWalk.seconds 0
namespace Mine
set_option maxRecDepth 100000 in
set_option maxHeartbeats 8000000 in
open_top hd for PySem.Challenge.rw_xm0397_01
end Mine
open PySem PySem.W PyProof.Rows PySem.Spec PySem.Calls
set_option Elab.async false
set_option maxRecDepth 100000
theorem Mine.filled : ((fun P : Params => Mine.hd.heap_39 P) = fun P => Mine.hd.heap_39 P) ∧ PySem.Challenge.rw_xm0397_01 = PySem.Challenge.rw_xm0397_01 := by
  w_top off
  k_fill
  exact ⟨rfl, rfl⟩
namespace Mine

abbrev ar (dp un : Nat) (gd : Option (List Code)) (outer : List Env) : Around := { handled := none, depth := dp, frames := some outer, guards := gd, units := un }

/-- the heap goes on -/
def Keep (h h' : Heap) : Prop := ∀ b o, h.get? b = some o → h'.get? b = some o

def Does (w : World) (f k : Nat) (vs : List Value) (s : Shared) (Out : Heap → Value → Prop) : Prop :=
  ∀ (dp un : Nat) (gd : Option (List Code)) (A₀ : Around) (base : Heap) (outer : List Env) (Q E : Value → Shared → Prop),
    Below A₀ base outer s.heap → dp + k < recursionLimit → un + 8 * k < cLine →
    (∀ r h' tk', Keep s.heap h' → Out h' r → Q r { s with heap := h', toks := tk' }) →
    wpAny (model PySem.Challenge.rw_xm0397_01.row.prog w) (ar dp un gd outer) (call (.ref f) vs) Q E s

/-- a list of ints that is new -/
def LOut (h : Heap) (P : List Int → Prop) (h' : Heap) (r : Value) : Prop :=
  ∃ l vs n ns, r = .ref l ∧ h'.get? l = some (listOf (List.toArray vs) n) ∧ h.get? l = none ∧ IntsAre vs ns ∧ P ns
def IOut (P : Int → Prop) (_ : Heap) (r : Value) : Prop := ∃ x t, r = .int x t ∧ P x
def BOut (P : Bool → Prop) (_ : Heap) (r : Value) : Prop := ∃ x, r = .bool x ∧ P x
def NOut (_ : Heap) (r : Value) : Prop := r = .none

theorem enterB {w : World} {A : Around} {base : Heap} {outer : List Env} {s : Shared} {R : Result → Shared → Prop} {name qual : Str} {params : Arguments} {body : List Stmt} {scope : Scope} {dV kV doc pm cdv ct oc : Value} {an od : Option Addr} {osl : Array (Option Value)} {f : Addr} {args : Args} {binds : List (Str × Value)}
    {K : Frag} {p : Program} {loose : List Str} {mean : ExcName → Option Value} {mg mb : Str → Option Value} {A₀ : Around}
    (_B : Below A₀ base outer s.heap) (X : K.In s.heap) (T : Top p loose mean mg mb s.heap)
    (ho : K.lookup f = some ⟨oc, od, .func (fnOf name qual params body scope dV kV doc pm an cdv ct), osl⟩) (hcd : codeIn K cdv qual = true) (hroom : A.depth < recursionLimit)
    (hbind : BindsTo s (fnOf name qual params body scope dV kV doc pm an cdv ct) args binds) (hloc : ∀ y ∈ binds, scope.names.lookup y.1 = some .local)
    (h : ∀ L' h₁, Fr s.heap L' h₁ (fun y => binds.reverse.lookup y) → News s.heap L' h₁ [] →
      wpAny (model PySem.Challenge.rw_xm0397_01.row.prog w) (A.deeper (envOf qual scope L' f cdv)) (execs body (envOf qual scope L' f cdv))
        (fun fl s' => R (.ok (.ret (match fl with | .ret v => v | _ => .none))) s')
        (fun e s' => wpAny (model PySem.Challenge.rw_xm0397_01.row.prog w) (A.deeper (envOf qual scope L' f cdv)) (leaving (envOf qual scope L' f cdv) e) (fun _ s'' => R (.error e) s'') (fun e' s'' => R (.error e') s'') s')
        { s with heap := h₁, toks := s.toks + binds.length })
    (hco : scope.isCoroutine = false) (hgen : scope.isGenerator = false) (hk : scope.kind = .function)
    (hcell : ∀ x ∈ scope.names, x.2 ≠ .cell) : codeAny (model PySem.Challenge.rw_xm0397_01.row.prog w) A (.call (.ref f) args) R s := by
  refine codeAny_call_def (fd := fnOf name qual params body scope dV kV doc pm an cdv ct) (body := body) (binds := binds) hroom (X _ _ ho) rfl T.nolimit (codeRec_of X hcd) rfl hbind hcell hloc (fun h₁ hns hk₁ => ?_) hco hgen hk
  exact h _ h₁ ⟨hns, hk₁, Nat.le_refl _⟩ News.nil

theorem does_use {w : World} {f k : Nat} {vs : List Value} {s : Shared} {Out : Heap → Value → Prop} (D : Does w f k vs s Out)
    {dp un : Nat} {gd : Option (List Code)} {A₀ : Around} {base h₀ : Heap} {outer : List Env} {L a : Addr} {cn : Str} {cs : Scope} {ccd : Value} {cl : List (Str × Addr)} {m : Str → Option Value} {news : List (Addr × Obj)} {Q E : Value → Shared → Prop}
    (B : Below A₀ base outer h₀) (F : Fr h₀ L s.heap m) (N : News h₀ L s.heap news) (hk : cs.kind = .function)
    (hd : dp + k < recursionLimit) (hu : un + 8 * k < cLine)
    (ret : ∀ r h' tk', Fr h₀ L h' m → News h₀ L h' news → (∀ l o, s.heap.get? l = none → h'.get? l = some o → News h₀ L h' ((l, o) :: news) ∧ ∀ p ∈ news, p.1 ≠ l) → Out h' r → Q r { s with heap := h', toks := tk' }) :
    wpAny (model PySem.Challenge.rw_xm0397_01.row.prog w) (ar dp un gd (envX cn cs L a ccd cl :: outer)) (call (.ref f) vs) Q E s := by
  refine D dp un gd _ base _ Q E (pushX B F rfl hk) hd hu fun r h' tk' hkp ho => ?_
  obtain ⟨oL, es, ep, hL, hLd, hLk, hLf⟩ := F.ns
  have N' : News h₀ L h' news := fun p hp => ⟨hkp _ _ (N p hp).1, (N p hp).2⟩
  refine ret r h' tk' ⟨⟨oL, es, ep, hkp _ _ hL, hLd, hLk, hLf⟩, fun b o e => hkp _ _ (F.keep b o e), F.above⟩ N' (fun l o hl ho => ⟨fun p hp => ?_, fun p hp e => ?_⟩) ho
  · rcases List.mem_cons.mp hp with rfl | hp
    · refine ⟨ho, fun e => ?_, ?_⟩
      · have e' : l = L := e
        rw [e', hL] at hl; cases hl
      · cases q : h₀.get? l with
        | none => rfl
        | some o => rw [F.keep _ _ q] at hl; cases hl
    · exact N' p hp
  · have := (N p hp).1
    rw [e, hl] at this; cases this

theorem lout {h h' : Heap} {L l : Addr} {news : List (Addr × Obj)} {vs : List Value} {ns : List Int} {n : Nat} {P : List Int → Prop} (N : News h L h' news) (hm : (l, listOf (List.toArray vs) n) ∈ news) (hI : IntsAre vs ns) (hP : P ns) : LOut h P h' (.ref l) :=
  ⟨l, vs, n, ns, rfl, (N _ hm).1, (N _ hm).2.2, hI, hP⟩
end Mine
local macro_rules | `(tactic| walk_at "sp_enter") => `(tactic| (
  refine wpAny_call ?_;
  k_dflt (refine' Mine.enterB ?k2 ?k3 ?k5 ?k6 ?k7 ?k8 ?k9 ?kB ?_ ?c2 ?c3 ?c4 ?c5);
  (case k2 => k_asm); (case k3 => k_asm); (case k5 => k_asm); (case k6 => k_is); (case k7 => k_is); (case k8 => first | omega | ktr_room); (case k9 => exact BindsTo.of_eq rfl); (case c5 => decide); (case kB => exact locs rfl); (case c2 => exact rfl); (case c3 => exact rfl); (case c4 => exact rfl); k_whole; intro L' h' F' N'; (try dsimp only); (try k_fold)))
local macro_rules | `(tactic| k_intsEnd) => `(tactic| first | with_reducible assumption | with_reducible exact PyProof.Rows.IntsAre.nil)
local macro_rules | `(tactic| walk_at "sp_lret") => `(tactic| (
  intro r9 h9 tk9 F9 N9 hn9 ho9;
  obtain ⟨l9, vs9, n9, ns9, he9, hg9, hf9, hI9, hP9⟩ := ho9; subst he9;
  (have N9' := (hn9 _ _ hf9 hg9).1);
  (have hlt9 := (hn9 _ _ hf9 hg9).2);
  clear hn9 N9 hg9 hf9; (try k_fold)))
local macro_rules | `(tactic| walk_at "sp_iret") => `(tactic| (
  intro r9 h9 tk9 F9 N9 hn9 ho9;
  obtain ⟨x9, t9, he9, hP9⟩ := ho9; subst he9;
  clear hn9; (try k_fold)))
local macro_rules | `(tactic| walk_at "sp_nret") => `(tactic| (
  intro r9 h9 tk9 F9 N9 hn9 ho9;
  (have he9 := ho9); (unfold Mine.NOut at he9); subst he9;
  clear hn9; (try k_fold)))
local macro_rules | `(tactic| walk_at "sp_d") => `(tactic| ((try dsimp only [Around.deeper]); omega))
local macro_rules | `(tactic| walk_at "call ref") => `(tactic| k_dflt (k_extra "my call"))
local macro_rules | `(tactic| walk_at "subscriptTail Name Slice ref ref") => `(tactic| k_dflt (k_extra "my slice"))
local macro_rules | `(tactic| walk_at "pyIter ref") => `(tactic| k_dflt (k_extra "my iter"))
local macro_rules | `(tactic| walk_at "exec While Compare cons nil") => `(tactic| k_dflt (k_extra "my while"))
local macro_rules | `(tactic| walk_at "call builtin:len") => `(tactic| k_dflt (k_extra "my len"))
local macro_rules | `(tactic| walk_at "subscriptTail Name Constant ref int") => `(tactic| k_dflt (k_extra "my item"))
local macro_rules | `(tactic| walk_at "binaryOp Mult ref int") => `(tactic| k_dflt (k_extra "my lmul"))
local macro_rules | `(tactic| walk_at "binaryOp Mult int int") => `(tactic| k_dflt (k_extra "my mul"))
namespace Mine
theorem norm_step {ns : List Int} {e : Int} (h0 : 0 < e) (h2 : e ≤ ns.length) (h : ∀ i : Nat, e ≤ i → ns.getD i 0 = 0) (hz : ns.getD (e - 1).toNat 0 = 0) :
    0 ≤ e - 1 ∧ e - 1 ≤ (ns.length : Int) ∧ ∀ i : Nat, e - 1 ≤ i → ns.getD i 0 = 0 := by
  refine ⟨by omega, by omega, fun i hi => ?_⟩
  by_cases h1 : e ≤ i
  · exact h i h1
  · have : i = (e - 1).toNat := by omega
    rw [this]; exact hz
theorem norm_end {ns : List Int} {e : Int} (h1 : 0 ≤ e) (h2 : e ≤ ns.length) (h : ∀ i : Nat, e ≤ i → ns.getD i 0 = 0) (hz : ¬ 0 < e ∨ ns.getD (e - 1).toNat 0 ≠ 0) :
    ∃ k, k ≤ ns.length ∧ ns.take e.toNat = ns.take k ∧ (∀ i, k ≤ i → ns.getD i 0 = 0) ∧ (k = 0 ∨ ns.getD (k - 1) 0 ≠ 0) := by
  refine ⟨e.toNat, by omega, rfl, fun i hi => h i (by omega), ?_⟩
  rcases hz with hz | hz
  · exact .inl (by omega)
  · right
    have : (e - 1).toNat = e.toNat - 1 := by omega
    rwa [this] at hz
set_option maxHeartbeats 8000000 in
theorem sp_normal {w : World} {mean : ExcName → Option Value} {mg mb : Str → Option Value} (s : Shared) (l : Addr) (vs : List Value) (ns : List Int)
    (X : (Mine.hd.heap_39 w.params).In s.heap) (T : Top Mine.hd.view_39 (looseW Mine.hd.view_39 []) mean mg mb s.heap)
    (hL : s.heap.IsList l vs.toArray) (hI : IntsAre vs ns) (hlen : ns.length < 1000000) :
    Does w 46 2 [.ref l] s (LOut s.heap fun r => ∃ e, e ≤ ns.length ∧ r = ns.take e ∧ (∀ i, e ≤ i → ns.getD i 0 = 0) ∧ (e = 0 ∨ ns.getD (e - 1) 0 ≠ 0)) := by
  unfold Does
  intro dp un gd A₀ base outer Q E B hd hu hret
  k_with_none
  walk_at "sp_enter"
  (k_with "exec While BoolOp cons nil" => k_while (fun script e => 0 ≤ e ∧ e ≤ (script.length : Int) ∧ ∀ i : Nat, e ≤ i → script.getD i 0 = 0) (fun _ e => e.toNat) "end")
  (k_with "state" => exact norm_step (by assumption) (by assumption) (by assumption) (by assumption))
  k_steps
  all_goals exact hret _ _ _ (Fr.keep (by assumption)) (lout (by assumption) (by k_mem) (by assumption) (norm_end (by assumption) (by assumption) (by assumption) (by first | exact .inl (by assumption) | exact .inr (by assumption))))
end Mine
namespace Mine
theorem news_drop1 {h h' : Heap} {L : Addr} {p : Addr × Obj} {l : List (Addr × Obj)} (N : News h L h' (p :: l)) : News h L h' l := fun q hq => N q (.tail _ hq)
/-- a bound, hidden from the walk -/
structure Lim (x : Int) : Prop where
  out : x < 1000000000000
/-- value of a list of limbs, the least first -/
def val (B : Int) : List Int → Int
  | [] => 0
  | x :: r => x + B * val B r
def Dig (B : Int) (ns : List Int) : Prop := ∀ v ∈ ns, 0 ≤ v ∧ v < B
def IsL (B : Int) (ns : List Int) (x : Int) : Prop := Dig B ns ∧ val B ns = x ∧ (ns = [] ∨ ns.getD (ns.length - 1) 0 ≠ 0)

theorem base_ge {k : Nat} (h : 3 ≤ k) : (8 : Int) ≤ 2 ^ k := by
  have : k = 3 + (k - 3) := by omega
  rw [this, Int.pow_add]
  have h1 : (0 : Int) < 2 ^ (k - 3) := Int.pow_pos (by decide)
  have : (2 : Int) ^ 3 = 8 := by decide
  rw [this]; omega
theorem base_le {k : Nat} (h : k ≤ 8) : (2 : Int) ^ k ≤ 256 := by
  have : k = 0 ∨ k = 1 ∨ k = 2 ∨ k = 3 ∨ k = 4 ∨ k = 5 ∨ k = 6 ∨ k = 7 ∨ k = 8 := by omega
  rcases this with h | h | h | h | h | h | h | h | h <;> subst h <;> decide
theorem pow_pos' {B : Int} (hB : 0 < B) (n : Nat) : 0 < B ^ n := Int.pow_pos hB
theorem val_append (B : Int) (a b : List Int) : val B (a ++ b) = val B a + B ^ a.length * val B b := by
  induction a with
  | nil => simp [val]
  | cons x r ih => simp only [List.cons_append, val, ih, List.length_cons, Int.pow_succ]; grind
theorem val_snoc (B : Int) (a : List Int) (d : Int) : val B (a ++ [d]) = val B a + B ^ a.length * d := by
  rw [val_append]; simp [val]
theorem dig_snoc {B : Int} {a : List Int} {d : Int} (h : Dig B a) (h0 : 0 ≤ d) (h1 : d < B) : Dig B (a ++ [d]) := by
  intro v hv
  rcases List.mem_append.mp hv with h' | h'
  · exact h v h'
  · rw [List.mem_singleton.mp h']; exact ⟨h0, h1⟩
theorem val_nonneg {B : Int} (hB : 0 < B) {a : List Int} (h : Dig B a) : 0 ≤ val B a := by
  induction a with
  | nil => simp [val]
  | cons x r ih =>
    have h1 := ih fun v hv => h v (.tail _ hv)
    have h2 := (h x (.head _)).1
    have h3 := Int.mul_nonneg (Int.le_of_lt hB) h1
    simp only [val]; omega
theorem val_lt {B : Int} (hB : 0 < B) {a : List Int} (h : Dig B a) : val B a < B ^ a.length := by
  induction a with
  | nil => simp [val]
  | cons x r ih =>
    have h1 := ih fun v hv => h v (.tail _ hv)
    have h2 := (h x (.head _)).2
    have h3 : B * (val B r + 1) ≤ B * B ^ r.length := Int.mul_le_mul_of_nonneg_left (by omega) (Int.le_of_lt hB)
    have h4 : B * (val B r + 1) = B * val B r + B := by grind
    simp only [val, List.length_cons, Int.pow_succ]
    have h5 : B ^ r.length * B = B * B ^ r.length := Int.mul_comm _ _
    omega
theorem val_pos {B : Int} (hB : 0 < B) : ∀ {a : List Int}, Dig B a → a ≠ [] → a.getD (a.length - 1) 0 ≠ 0 → B ^ (a.length - 1) ≤ val B a
  | [], _, h, _ => absurd rfl h
  | [x], h, _, hl => by
    have := h x (.head _)
    simp at hl
    simp [val]; omega
  | x :: y :: r, h, _, hl => by
    have ih := val_pos hB (a := y :: r) (fun v hv => h v (.tail _ hv)) (by simp) (by simpa using hl)
    have h2 := (h x (.head _)).1
    have h3 : B * B ^ ((y :: r).length - 1) ≤ B * val B (y :: r) := Int.mul_le_mul_of_nonneg_left ih (Int.le_of_lt hB)
    have h4 : (x :: y :: r).length - 1 = ((y :: r).length - 1) + 1 := by simp
    have h5 : val B (x :: y :: r) = x + B * val B (y :: r) := rfl
    rw [h4, Int.pow_succ, h5, Int.mul_comm]
    omega
theorem isL_pos {B : Int} (hB : 0 < B) {a : List Int} {x : Int} (h : IsL B a x) (hn : a ≠ []) : 0 < x := by
  have h1 := val_pos hB h.1 hn (h.2.2.resolve_left hn)
  have h2 := pow_pos' hB (a.length - 1)
  rw [h.2.1] at h1; omega
theorem isL_tail {B d : Int} (hB : 0 < B) {r : List Int} {x : Int} (h : IsL B (d :: r) x) : d = x % B ∧ IsL B r (x / B) := by
  obtain ⟨h1, h2, h3⟩ := h
  have hd := h1 d (.head _)
  simp only [val] at h2
  have e : x / B = val B r ∧ x % B = d := (Int.ediv_emod_unique hB).mpr ⟨by omega, hd.1, hd.2⟩
  refine ⟨e.2.symm, fun v hv => h1 v (.tail _ hv), e.1.symm, ?_⟩
  cases r with
  | nil => exact .inl rfl
  | cons y q => right; simpa using h3.resolve_left (by simp)
theorem isL_unique {B : Int} (hB : 0 < B) : ∀ {a b : List Int} {x : Int}, IsL B a x → IsL B b x → a = b
  | [], [], _, _, _ => rfl
  | [], e :: q, x, ha, hb => by
    have := isL_pos hB hb (by simp)
    have h0 : val B [] = x := ha.2.1
    simp [val] at h0; omega
  | d :: r, [], x, ha, hb => by
    have := isL_pos hB ha (by simp)
    have h0 : val B [] = x := hb.2.1
    simp [val] at h0; omega
  | d :: r, e :: q, x, ha, hb => by
    obtain ⟨h1, h2⟩ := isL_tail hB ha
    obtain ⟨h3, h4⟩ := isL_tail hB hb
    rw [h1, h3, isL_unique hB h2 h4]

/-- the loop of nat_of -/
def NatI (B x n : Int) (f : List Int) : Prop := Dig B f ∧ val B f + B ^ f.length * n = x ∧ (0 < n ∨ f = [] ∨ f.getD (f.length - 1) 0 ≠ 0)
theorem two_pow_le {B : Int} (hB : 2 ≤ B) (n : Nat) : (2 : Int) ^ n ≤ B ^ n := by
  induction n with
  | zero => simp
  | succ n ih =>
    rw [Int.pow_succ, Int.pow_succ]
    have h1 : (2 : Int) ^ n * 2 ≤ B ^ n * 2 := Int.mul_le_mul_of_nonneg_right ih (by decide)
    have h2 : B ^ n * 2 ≤ B ^ n * B := Int.mul_le_mul_of_nonneg_left hB (Int.le_of_lt (pow_pos' (by omega) n))
    omega
theorem nat_len {B x n : Int} {f : List Int} (hB : 2 ≤ B) (hn : 0 < n) (hx : Lim x) (h : NatI B x n f) : f.length + 1 ≤ 60 := by
  obtain ⟨h1, h2, _⟩ := h
  have hx := hx.out
  have h3 := val_nonneg (by omega) h1
  have h4 := two_pow_le hB f.length
  have h5 : B ^ f.length * 1 ≤ B ^ f.length * n := Int.mul_le_mul_of_nonneg_left (by omega) (Int.le_of_lt (pow_pos' (by omega) _))
  have h6 : (2 : Int) ^ f.length < 2 ^ 60 := by omega
  have h7 : (2 : Nat) ^ f.length < 2 ^ 60 := by exact_mod_cast h6
  have := (Nat.pow_lt_pow_iff_right (by decide : 1 < 2)).mp h7
  omega
theorem nat_start {B x : Int} (hx : 0 ≤ x) : 0 ≤ x ∧ ([] : List Int).length ≤ 60 ∧ NatI B x x [] := by
  refine ⟨hx, by simp, fun v hv => (nomatch hv), by simp [val], .inr (.inl rfl)⟩
theorem getD_snoc (f : List Int) (d : Int) : (f ++ [d]).getD ((f ++ [d]).length - 1) 0 = d := by simp
theorem nat_stepE {B x n : Int} {f : List Int} (hB : 2 ≤ B) (hx : Lim x) (hn : 0 < n) (h : NatI B x n f) :
    0 ≤ n / B ∧ (f ++ [n % B]).length ≤ 60 ∧ NatI B x (n / B) (f ++ [n % B]) := by
  have hl := nat_len hB hn hx h
  obtain ⟨h1, h2, h3⟩ := h
  have hm := Int.emod_nonneg n (show B ≠ 0 by omega)
  have hm2 := Int.emod_lt_of_pos n (show 0 < B by omega)
  have hd := Int.emod_add_mul_ediv n B
  refine ⟨Int.ediv_nonneg (by omega) (by omega), by simp; omega, dig_snoc h1 hm hm2, ?_, ?_⟩
  · rw [val_snoc, List.length_append, List.length_singleton, Int.pow_succ, ← h2]
    have : B ^ f.length * n = B ^ f.length * (n % B + B * (n / B)) := by rw [hd]
    rw [this]; grind
  · by_cases h0 : 0 < n / B
    · exact .inl h0
    · right; right
      rw [getD_snoc]
      intro he
      have h5 : 0 ≤ n / B := Int.ediv_nonneg (by omega) (by omega)
      have h6 : n / B = 0 := by omega
      rw [h6, he] at hd; omega
theorem nat_end {B x n : Int} {f : List Int} (h0 : 0 ≤ n) (hn : ¬ 0 < n) (h : NatI B x n f) : IsL B f x := by
  obtain ⟨h1, h2, h3⟩ := h
  have : n = 0 := by omega
  subst this
  exact ⟨h1, by simpa using h2, h3.resolve_left hn⟩
theorem nat_step1 {x n : Int} {k : Nat} {f : List Int} (hk : 3 ≤ k) (hx : Lim x) (hn : 0 < n) (h : NatI (2 ^ k) x n f) :
    0 ≤ n.fdiv (2 ^ k) ∧ (f ++ [Builtin.bitAnd n (1 * 2 ^ k - 1)]).length ≤ 60 ∧ NatI (2 ^ k) x (n.fdiv (2 ^ k)) (f ++ [Builtin.bitAnd n (1 * 2 ^ k - 1)]) := by
  have hB := base_ge hk
  rw [Int.one_mul, kbt_mask, Int.fdiv_eq_ediv_of_nonneg _ (by omega)]
  exact nat_stepE (by omega) hx hn h
theorem nat_step2 {x n : Int} {k : Nat} {f : List Int} (hk : 3 ≤ k) (hx : Lim x) (hn : 0 < n) (h : NatI (2 ^ k) x n f) :
    0 ≤ n.fdiv (2 ^ k) ∧ (f ++ [n.fmod (2 ^ k)]).length ≤ 60 ∧ NatI (2 ^ k) x (n.fdiv (2 ^ k)) (f ++ [n.fmod (2 ^ k)]) := by
  have hB := base_ge hk
  rw [Int.fdiv_eq_ediv_of_nonneg _ (by omega), Int.fmod_eq_emod_of_nonneg _ (by omega)]
  exact nat_stepE (by omega) hx hn h
theorem nat_less {n : Int} {k : Nat} (hk : 3 ≤ k) (hn : 0 < n) : (n.fdiv (2 ^ k)).toNat < n.toNat := by
  have hB := base_ge hk
  rw [Int.fdiv_eq_ediv_of_nonneg _ (by omega)]
  have h1 : n / 2 ^ k < n := Int.ediv_lt_self_of_pos_of_ne_one hn (by omega)
  omega
end Mine
namespace Mine
/-- what a turn over pairs leaves behind -/
def PrS {σ : Type} (Led : σ → List (Addr × Obj)) (ps : σ → List (Str × Value)) (Facts : σ → Prop) (xi xc : Str) (stored : List Str) (m₀ : Str → Option Value) (P : σ → Prop) (m : Str → Option Value) (nx : List (Addr × Obj)) : Prop :=
  ∃ c : σ, nx = Led c ∧ Facts c ∧ (∀ p ∈ ps c, m p.1 = some p.2) ∧ (∀ z, z ≠ xi → z ≠ xc → (∀ p ∈ ps c, z ≠ p.1) → stored.contains z = false → m z = m₀ z) ∧ P c
theorem pr_em {xi xc : Str} {ps : List (Str × Value)} {stored : List Str} {m₀ m₁ : Str → Option Value} {a b : Option Value} (h1 : ∀ p ∈ ps, m₁ p.1 = some p.2) (h2 : ∀ z, z ≠ xi → z ≠ xc → (∀ p ∈ ps, z ≠ p.1) → stored.contains z = false → m₁ z = m₀ z) :
    (fun y => if y = xc then a else if y = xi then b else kstB (fun z => if stored.contains z then m₁ z else m₀ z) ps y) = fun y => if y = xc then a else if y = xi then b else m₁ y := by
  funext y
  by_cases hy : y = xc
  · rw [if_pos hy, if_pos hy]
  · rw [if_neg hy, if_neg hy]
    by_cases hz : y = xi
    · rw [if_pos hz, if_pos hz]
    · rw [if_neg hz, if_neg hz]
      refine kstB_eq h1 fun hn => ?_
      show (if stored.contains y = true then m₁ y else m₀ y) = m₁ y
      cases h3 : stored.contains y with
      | true => simp
      | false => simp only [Bool.false_eq_true, if_false]; exact (h2 y hz hy hn h3).symm
theorem pr_em2 {xi xc : Str} {ps : List (Str × Value)} {stored : List Str} {m₀ m₁ : Str → Option Value} (h1 : ∀ p ∈ ps, m₁ p.1 = some p.2) (h2 : ∀ z, z ≠ xi → z ≠ xc → (∀ p ∈ ps, z ≠ p.1) → stored.contains z = false → m₁ z = m₀ z) :
    (fun y => if y = xc then m₁ y else if y = xi then m₁ y else kstB (fun z => if stored.contains z then m₁ z else m₀ z) ps y) = m₁ := by
  funext y
  by_cases hy : y = xc
  · rw [if_pos hy]
  · rw [if_neg hy]
    by_cases hz : y = xi
    · rw [if_pos hz]
    · rw [if_neg hz]
      refine kstB_eq h1 fun hn => ?_
      show (if stored.contains y = true then m₁ y else m₀ y) = m₁ y
      cases h3 : stored.contains y with
      | true => simp
      | false => simp only [Bool.false_eq_true, if_false]; exact (h2 y hz hy hn h3).symm
theorem kst_pairs {prog : Program} {w : World} {A : Around} {E : Value → Shared → Prop} {s : Shared} {env : Env} {h₀ : Heap} {xi xc : Str} {body : List Stmt} {Q : Flow → Shared → Prop} {xv : Value} {ns : List Int} {m₀ : Str → Option Value} {news : List (Addr × Obj)}
    {σ : Type} (Led : σ → List (Addr × Obj)) (ps : σ → List (Str × Value)) (Facts : σ → Prop) (stored : List Str) (P : Nat → σ → Prop) (c₀ : σ)
    (S : PairSrc prog w A E h₀ env ItemKind.int ns xv s m₀ news) (hn : news = Led c₀) (hf : Facts c₀) (hk : ∀ p ∈ ps c₀, m₀ p.1 = some p.2) (hp : P 0 c₀)
    (turn : ∀ (c : σ) (i : Nat) (ti t : Tok) (u : Str → Option Value) h tk own, i < ns.length → OwnOff own ((Led c₀).map (·.1)) → (Led c).map (·.1) = (Led c₀).map (·.1) → Facts c → P i c →
      Fr h₀ env.locals h (fun y => if y = xc then some (.int (ns.getD i 0) t) else if y = xi then some (.int i ti) else kstB (fun z => if stored.contains z then u z else m₀ z) (ps c) y) → News h₀ env.locals h (Led c ++ own) →
      wpAny (model prog w) A (execs body env) (InvPostN h₀ env.locals (PrS Led ps Facts xi xc stored m₀ (P (i + 1))) own ((Led c₀).map (·.1)) { s with heap := h, toks := tk } Q) E { s with heap := h, toks := tk })
    (done : ∀ (c : σ) (u : Str → Option Value) h tk, Facts c → P ns.length c → Fr h₀ env.locals h (fun y => if y = xc then u y else if y = xi then u y else kstB (fun z => if stored.contains z then u z else m₀ z) (ps c) y) → News h₀ env.locals h (Led c) → Q .next { s with heap := h, toks := tk }) :
    wpAny (model prog w) A (pyIter xv) (fun it s₂ => PairAt3 prog w A h₀ env xi xc body Q E it s₂) E s := by
  subst hn
  refine S xi xc body Q (fun i m nx => PrS Led ps Facts xi xc stored m₀ (P i) m nx) ⟨c₀, rfl, hf, hk, fun _ _ _ _ _ => rfl, hp⟩ ?_ ?_
  · rintro i n ti v m₁ news₁ s₁ own ⟨h, tk, rfl⟩ hi ⟨t, rfl⟩ ⟨c, rfl, hf', h1, h2, hp'⟩ hadr hsep F₁ N₁
    have hlt : i < ns.length := (List.getElem?_eq_some_iff.mp hi).1
    have hg : ns.getD i 0 = n := by rw [List.getD_eq_getElem?_getD, hi]; rfl
    have hoff : OwnOff own ((Led c₀).map (·.1)) := fun p hp b hb => by
      obtain ⟨q, hq, rfl⟩ := List.mem_map.mp hb
      exact hsep p hp q hq
    rw [← pr_em (xi := xi) (xc := xc) (stored := stored) h1 h2, ← hg] at F₁
    refine wpAny_mono (turn c i ti t m₁ h tk own hlt hoff hadr hf' hp' F₁ fun p hp => N₁ p ((List.mem_append.mp hp).elim (fun h => List.mem_append.mpr (.inr h)) fun h => List.mem_append.mpr (.inl h))) (fun f s₂ q => ?_) fun _ _ e => e
    have fin : InvEndN h₀ env.locals (PrS Led ps Facts xi xc stored m₀ (P (i + 1))) own ((Led c₀).map (·.1)) { s with heap := h, toks := tk } s₂ → LoopStep2 h₀ env.locals own (Led c) (PrS Led ps Facts xi xc stored m₀ (P (i + 1))) { s with heap := h, toks := tk } .next s₂ := by
      rintro ⟨h', tk', m', news', nx, e, F', N', hn, ho, ha, hm⟩
      exact ⟨rfl, h', tk', m', nx, e, F', fun p hp => N' p ((List.mem_append.mp hp).elim (ho p) (hn p)), ha.trans hadr.symm, hm⟩
    cases f with
    | ret v => exact q
    | brk => exact q
    | next => exact fin q
    | cont => exact fin q
  · rintro h' tk m' news' F' N' _ ⟨c, rfl, hf', h1, h2, hp'⟩
    refine done c m' h' tk hf' hp' ?_ N'
    rw [pr_em2 (xi := xi) (xc := xc) (stored := stored) h1 h2]
    exact F'
/-- one list of ints that the turns change, and what else (e) -/
theorem kst_pairs1 {prog : Program} {w : World} {A : Around} {E : Value → Shared → Prop} {s : Shared} {env : Env} {h₀ : Heap} {xi xc : Str} {body : List Stmt} {Q : Flow → Shared → Prop} {xv : Value} {ns : List Int} {m₀ : Str → Option Value} {news : List (Addr × Obj)}
    {τ : Type} {p : Addr × Obj} {D : Addr} {n : Nat} {r : List (Addr × Obj)} {vs₀ : List Value} {F₀ : List Int} (qs : τ → List (Str × Value)) (stored : List Str) (P : Nat → List Int → τ → Prop) (e₀ : τ)
    (S : PairSrcL prog w A E h₀ env.locals ItemKind.int ns xv s m₀ news) (hn : news = p :: (D, listOf (List.toArray vs₀) n) :: r) (hf : IntsAre vs₀ F₀) (hk : ∀ p ∈ qs e₀, m₀ p.1 = some p.2) (hp : P 0 F₀ e₀)
    (turn : ∀ (vs : List Value) (F : List Int) (e : τ) (i : Nat) (ti t : Tok) (u : Str → Option Value) h tk own, i < ns.length → OwnOff own (p.1 :: D :: r.map (·.1)) → IntsAre vs F → P i F e →
      Fr h₀ env.locals h (fun y => if y = xc then some (.int (ns.getD i 0) t) else if y = xi then some (.int i ti) else kstB (fun z => if stored.contains z then u z else m₀ z) (qs e) y) → News h₀ env.locals h (p :: (D, listOf (List.toArray vs) n) :: (r ++ own)) →
      wpAny (model prog w) A (execs body env) (InvPostN h₀ env.locals (PrS (fun c : List Value × List Int × τ => p :: (D, listOf (List.toArray c.1) n) :: r) (fun c => qs c.2.2) (fun c => IntsAre c.1 c.2.1) xi xc stored m₀ (fun c => P (i + 1) c.2.1 c.2.2)) own (p.1 :: D :: r.map (·.1)) { s with heap := h, toks := tk } Q) E { s with heap := h, toks := tk })
    (done : ∀ (vs : List Value) (F : List Int) (e : τ) (u : Str → Option Value) h tk, IntsAre vs F → P ns.length F e → Fr h₀ env.locals h (fun y => if y = xc then u y else if y = xi then u y else kstB (fun z => if stored.contains z then u z else m₀ z) (qs e) y) → News h₀ env.locals h (p :: (D, listOf (List.toArray vs) n) :: r) → Q .next { s with heap := h, toks := tk }) :
    wpAny (model prog w) A (pyIter xv) (fun it s₂ => PairAt3 prog w A h₀ env xi xc body Q E it s₂) E s :=
  kst_pairs (σ := List Value × List Int × τ) (fun c => p :: (D, listOf (List.toArray c.1) n) :: r) (fun c => qs c.2.2) (fun c => IntsAre c.1 c.2.1) stored (fun i c => P i c.2.1 c.2.2) (vs₀, F₀, e₀) (S.at env rfl) hn hf hk hp
    (fun c i ti t u h tk own hi ho _ hf hp F N => turn c.1 c.2.1 c.2.2 i ti t u h tk own hi ho hf hp F N)
    (fun c u h tk hf hp F N => done c.1 c.2.1 c.2.2 u h tk hf hp F N)
theorem isListN {h₀ h : Heap} {L D : Addr} {news : List (Addr × Obj)} {vs : List Value} {n : Nat} (N : News h₀ L h news) (hm : (D, listOf (List.toArray vs) n) ∈ news) : h.IsList D vs.toArray := ⟨_, (N _ hm).1, rfl, _, rfl⟩
theorem pr_end {σ : Type} {Led : σ → List (Addr × Obj)} {ps : σ → List (Str × Value)} {Facts : σ → Prop} {xi xc : Str} {stored : List Str} {h₀ : Heap} {m₀ : Str → Option Value} {P : σ → Prop} (c : σ) {L : Addr} {m' : Str → Option Value} {own news' : List (Addr × Obj)} {adr : List Addr} {s₁ : Shared} {h' : Heap} {tk : Nat}
    (F : Fr h₀ L h' m') (N : News h₀ L h' news') (hn : ∀ p ∈ Led c, p ∈ news') (ho : ∀ p ∈ own, p ∈ news') (ha : (Led c).map (·.1) = adr) (hf : Facts c) (hk : ∀ p ∈ ps c, m' p.1 = some p.2) (hr : ∀ z, z ≠ xi → z ≠ xc → (∀ p ∈ ps c, z ≠ p.1) → stored.contains z = false → m' z = m₀ z) (hp : P c) :
    InvEndN h₀ L (PrS Led ps Facts xi xc stored m₀ P) own adr s₁ { s₁ with heap := h', toks := tk } :=
  InvEndN.intro F N ⟨c, rfl, hf, hk, hr, hp⟩ ha hn ho
theorem pr_end1 {τ : Type} {p : Addr × Obj} {D : Addr} {n : Nat} {r : List (Addr × Obj)} {qs : τ → List (Str × Value)} {xi xc : Str} {stored : List Str} {h₀ : Heap} {m₀ : Str → Option Value} (P : List Int → τ → Prop) {L : Addr} {m' : Str → Option Value} {own : List (Addr × Obj)} {s₁ : Shared} {h' : Heap} {tk : Nat}
    {vs : List Value} {G : List Int} (e : τ) (F : Fr h₀ L h' m') (N : News h₀ L h' (p :: (D, listOf (List.toArray vs) n) :: (r ++ own))) (hf : IntsAre vs G) (hk : ∀ p ∈ qs e, m' p.1 = some p.2) (hr : ∀ z, z ≠ xi → z ≠ xc → (∀ p ∈ qs e, z ≠ p.1) → stored.contains z = false → m' z = m₀ z) (hp : P G e) :
    InvEndN h₀ L (PrS (fun c : List Value × List Int × τ => p :: (D, listOf (List.toArray c.1) n) :: r) (fun c => qs c.2.2) (fun c => IntsAre c.1 c.2.1) xi xc stored m₀ (fun c => P c.2.1 c.2.2)) own (p.1 :: D :: r.map (·.1)) s₁ { s₁ with heap := h', toks := tk } :=
  pr_end (vs, G, e) F N (fun x hx => by
    rcases List.mem_cons.mp hx with rfl | hx
    · exact .head _
    · rcases List.mem_cons.mp hx with rfl | hx
      · exact .tail _ (.head _)
      · exact .tail _ (.tail _ (List.mem_append_left _ hx)))
    (fun x hx => .tail _ (.tail _ (List.mem_append_right _ hx))) rfl hf hk hr hp
end Mine
namespace Mine
theorem val_set {B : Int} : ∀ {f : List Int} {i : Nat} {v : Int}, i < f.length → val B (f.set i v) = val B f + B ^ i * (v - f.getD i 0)
  | [], _, _, h => absurd h (Nat.not_lt_zero _)
  | x :: r, 0, v, _ => by simp [val]; omega
  | x :: r, i + 1, v, h => by
    have ih := val_set (B := B) (f := r) (i := i) (v := v) (by simpa using h)
    have e : (x :: r).getD (i + 1) 0 = r.getD i 0 := by simp
    rw [e]
    simp only [List.set_cons_succ, val, ih, Int.pow_succ]; grind
theorem dig_set {B : Int} {f : List Int} {i : Nat} {v : Int} (h : Dig B f) (h0 : 0 ≤ v) (h1 : v < B) : Dig B (f.set i v) := by
  intro z hz
  rcases List.mem_or_eq_of_mem_set hz with h' | h'
  · exact h z h'
  · rw [h']; exact ⟨h0, h1⟩
theorem dig_getD {B : Int} (hB : 0 < B) {f : List Int} (h : Dig B f) (i : Nat) : 0 ≤ f.getD i 0 ∧ f.getD i 0 < B := by
  by_cases hi : i < f.length
  · have : f.getD i 0 = f[i] := by rw [List.getD_eq_getElem?_getD, List.getElem?_eq_getElem hi]; rfl
    rw [this]; exact h _ (List.getElem_mem hi)
  · have : f.getD i 0 = 0 := by rw [List.getD_eq_getElem?_getD, List.getElem?_eq_none (by omega)]; rfl
    rw [this]; omega
theorem val_take {B : Int} : ∀ {f : List Int} {j : Nat}, j < f.length → val B (f.take (j + 1)) = val B (f.take j) + B ^ j * f.getD j 0
  | [], _, h => absurd h (Nat.not_lt_zero _)
  | x :: r, 0, _ => by simp [val]
  | x :: r, j + 1, h => by
    have ih := val_take (B := B) (f := r) (j := j) (by simpa using h)
    have e : (x :: r).getD (j + 1) 0 = r.getD j 0 := by simp
    have e2 : (x :: r).take (j + 1 + 1) = x :: r.take (j + 1) := rfl
    have e3 : (x :: r).take (j + 1) = x :: r.take j := rfl
    rw [e, e2, e3]
    simp only [val, ih, Int.pow_succ]; grind
theorem getD_set_ne {f : List Int} {i m : Nat} {v : Int} (h : i ≠ m) : (f.set i v).getD m 0 = f.getD m 0 := by
  rw [List.getD_eq_getElem?_getD, List.getD_eq_getElem?_getD, List.getElem?_set_ne h]
/-- the outer loop -/
def MulO (a b : List Int) (B : Int) (i : Nat) (F : List Int) : Prop :=
  Dig B F ∧ val B F = val B (a.take i) * val B b ∧ ∀ m, i + b.length ≤ m → F.getD m 0 = 0
/-- the inner loop -/
def MulJ (a b : List Int) (B : Int) (i j : Nat) (F : List Int) (c : Int) : Prop :=
  Dig B F ∧ 0 ≤ c ∧ c < B ∧ val B F + B ^ (i + j) * c = val B (a.take i) * val B b + a.getD i 0 * B ^ i * val B (b.take j) ∧ ∀ m, i + b.length ≤ m → F.getD m 0 = 0
theorem flat_nil (n : Nat) : (List.replicate n [(0 : Int)]).flatten = List.replicate n 0 := by
  induction n with
  | zero => rfl
  | succ n ih => rw [List.replicate_succ, List.flatten_cons, ih]; rfl
theorem val_zeros (B : Int) (n : Nat) : val B (List.replicate n 0) = 0 := by
  induction n with
  | zero => rfl
  | succ n ih => rw [List.replicate_succ, val, ih]; simp
theorem mulO_start {a b : List Int} {B : Int} (hB : 8 ≤ B) (n : Nat) : MulO a b B 0 (List.replicate n [(0 : Int)]).flatten := by
  rw [flat_nil]
  refine ⟨fun v hv => ?_, ?_, fun m _ => ?_⟩
  · rw [(List.mem_replicate.mp hv).2]; omega
  · rw [val_zeros]; simp [val]
  · rw [List.getD_eq_getElem?_getD, List.getElem?_replicate]; split <;> rfl
theorem mulJ_start {a b : List Int} {B : Int} {i : Nat} {F : List Int} (hB : 8 ≤ B) (h : MulO a b B i F) : MulJ a b B i 0 F 0 := by
  obtain ⟨h1, h2, h3⟩ := h
  exact ⟨h1, by omega, by omega, by rw [h2]; simp [val], h3⟩
theorem carry_lt {B c f l o : Int} (hB : 8 ≤ B) (hc : c < B) (hf : f < B) (hl0 : 0 ≤ l) (hl : l < B) (ho : o < B) : (c + (f + l * o)) / B < B := by
  apply Int.ediv_lt_of_lt_mul (by omega)
  have h1 : l * o ≤ l * (B - 1) := Int.mul_le_mul_of_nonneg_left (by omega) hl0
  have h2 : l * (B - 1) ≤ (B - 1) * (B - 1) := Int.mul_le_mul_of_nonneg_right (by omega) (by omega)
  have h3 : (B - 1) * (B - 1) = B * B - 2 * B + 1 := by grind
  omega
theorem mulJ_step {a b : List Int} {B c : Int} {i j : Nat} {F : List Int} (hB : 8 ≤ B) (ha : Dig B a) (hb : Dig B b) (_hi : i < a.length) (hj : j < b.length) (hl : F.length = a.length + b.length) (h : MulJ a b B i j F c) :
    MulJ a b B i (j + 1) (F.set (i + j) ((c + (F.getD (i + j) 0 + a.getD i 0 * b.getD j 0)) % B)) ((c + (F.getD (i + j) 0 + a.getD i 0 * b.getD j 0)) / B) := by
  obtain ⟨h1, h2, h3, h4, h5⟩ := h
  have hf := dig_getD (by omega) h1 (i + j)
  have hla := dig_getD (by omega) ha i
  have hlb := dig_getD (by omega) hb j
  have hm := Int.mul_nonneg hla.1 hlb.1
  have hcl := carry_lt hB h3 hf.2 hla.1 hla.2 hlb.2
  generalize hc : c + (F.getD (i + j) 0 + a.getD i 0 * b.getD j 0) = d at *
  have hd := Int.emod_add_mul_ediv d B
  have e1 := Int.emod_nonneg d (show B ≠ 0 by omega)
  have e2 := Int.emod_lt_of_pos d (show 0 < B by omega)
  refine ⟨dig_set h1 e1 e2, Int.ediv_nonneg (by omega) (by omega), hcl, ?_, fun m hm => ?_⟩
  · rw [val_set (by omega), val_take hj]
    have e3 : B ^ (i + (j + 1)) = B ^ (i + j) * B := by rw [← Int.pow_succ]; rfl
    have e4 : B ^ (i + j) = B ^ i * B ^ j := Int.pow_add ..
    rw [e3]
    have e5 : val B F + B ^ (i + j) * (d % B - F.getD (i + j) 0) + B ^ (i + j) * B * (d / B) = val B F + B ^ (i + j) * (d % B + B * (d / B) - F.getD (i + j) 0) := by grind
    rw [e5, hd, ← hc]
    have e6 : val B F + B ^ (i + j) * (c + (F.getD (i + j) 0 + a.getD i 0 * b.getD j 0) - F.getD (i + j) 0) = val B F + B ^ (i + j) * c + B ^ (i + j) * (a.getD i 0 * b.getD j 0) := by grind
    rw [e6, h4, e4]; grind
  · rw [getD_set_ne (by omega)]; exact h5 m hm
theorem mulJ_step' {a b : List Int} {c : Int} {i j k : Nat} {F : List Int} (hB : (8 : Int) ≤ 2 ^ k) (ha : Dig (2 ^ k) a) (hb : Dig (2 ^ k) b) (hi : i < a.length) (hj : j < b.length) (hl : F.length = a.length + b.length) (h : MulJ a b (2 ^ k) i j F c) :
    MulJ a b (2 ^ k) i (j + 1) (F.set ((i : Int) + (j : Int)).toNat (Builtin.bitAnd (c + (F.getD ((i : Int) + (j : Int)).toNat 0 + a.getD i 0 * b.getD j 0)) (1 * 2 ^ k - 1))) ((c + (F.getD ((i : Int) + (j : Int)).toNat 0 + a.getD i 0 * b.getD j 0)).fdiv (2 ^ k)) ∧
    (F.set ((i : Int) + (j : Int)).toNat (Builtin.bitAnd (c + (F.getD ((i : Int) + (j : Int)).toNat 0 + a.getD i 0 * b.getD j 0)) (1 * 2 ^ k - 1))).length = a.length + b.length := by
  have e : ((i : Int) + (j : Int)).toNat = i + j := by omega
  rw [e, Int.one_mul, kbt_mask, Int.fdiv_eq_ediv_of_nonneg _ (by omega)]
  exact ⟨mulJ_step hB ha hb hi hj hl h, by rw [List.length_set]; exact hl⟩
theorem mulO_step {a b : List Int} {B c : Int} {i : Nat} {F : List Int} (hi : i < a.length) (hl : F.length = a.length + b.length) (h : MulJ a b B i b.length F c) :
    MulO a b B (i + 1) (F.set (i + b.length) c) := by
  obtain ⟨h1, h2, h3, h4, h5⟩ := h
  refine ⟨dig_set h1 h2 h3, ?_, fun m hm => ?_⟩
  · rw [val_set (by omega), h5 _ (Nat.le_refl _), Int.sub_zero, h4, List.take_length, val_take hi]; grind
  · rw [getD_set_ne (by omega)]; exact h5 m (by omega)
theorem mulO_step' {a b : List Int} {B c : Int} {i : Nat} {F : List Int} (hi : i < a.length) (hl : F.length = a.length + b.length) (h : MulJ a b B i b.length F c) :
    MulO a b B (i + 1) (F.set ((i : Int) + (b.length : Int)).toNat c) ∧ (F.set ((i : Int) + (b.length : Int)).toNat c).length = a.length + b.length := by
  have e : ((i : Int) + (b.length : Int)).toNat = i + b.length := by omega
  rw [e]
  exact ⟨mulO_step hi hl h, by rw [List.length_set]; exact hl⟩
theorem val_take_zero {B : Int} : ∀ {f : List Int} {e : Nat}, (∀ i, e ≤ i → f.getD i 0 = 0) → val B (f.take e) = val B f
  | [], e, _ => by simp
  | x :: r, 0, h => by
    have h0 : x = 0 := by simpa using h 0 (by omega)
    have ih := val_take_zero (B := B) (f := r) (e := 0) fun i _ => by simpa using h (i + 1) (by omega)
    simp only [List.take_zero, val] at ih ⊢
    rw [← ih, h0]; simp
  | x :: r, e + 1, h => by
    have ih := val_take_zero (B := B) (f := r) (e := e) fun i hi => by simpa using h (i + 1) (by omega)
    rw [List.take_succ_cons, val, val, ih]
theorem mul_end {a b F r : List Int} {B x y : Int} {e : Nat} (ha : IsL B a x) (hb : IsL B b y) (h : MulO a b B a.length F) (he : e ≤ F.length) (hr : r = F.take e) (hz : ∀ i, e ≤ i → F.getD i 0 = 0) (hn : e = 0 ∨ F.getD (e - 1) 0 ≠ 0) : IsL B r (x * y) := by
  obtain ⟨h1, h2, h3⟩ := h
  subst hr
  refine ⟨fun v hv => h1 v (List.mem_of_mem_take hv), ?_, ?_⟩
  · rw [val_take_zero hz, h2, List.take_length, ha.2.1, hb.2.1]
  · rcases hn with rfl | hn
    · left; simp
    · by_cases h0 : e = 0
      · left; simp [h0]
      · right
        have hl : (F.take e).length = e := by rw [List.length_take]; omega
        rw [hl, List.getD_eq_getElem?_getD, List.getElem?_take_of_lt (by omega), ← List.getD_eq_getElem?_getD]
        exact hn
end Mine
namespace Mine
set_option maxHeartbeats 8000000 in
theorem sp_mul {w : World} {mean : ExcName → Option Value} {mg mb : Str → Option Value} (s : Shared) (l k : Addr) (vs us : List Value) (a b : List Int) (ww x y : Int) (u : Tok)
    (X : (Mine.hd.heap_39 w.params).In s.heap) (T : Top Mine.hd.view_39 (looseW Mine.hd.view_39 []) mean mg mb s.heap)
    (hL : s.heap.IsList l vs.toArray) (hI : IntsAre vs a) (hK : s.heap.IsList k us.toArray) (hJ : IntsAre us b)
    (hl1 : a.length < 100000) (hl2 : b.length < 100000) (hw : 3 ≤ ww) (hw2 : ww ≤ 8) (_ha : IsL (2 ^ ww.toNat) a x) (_hb : IsL (2 ^ ww.toNat) b y) :
    Does w 123 4 [.ref l, .ref k, .int ww u] s (LOut s.heap fun r => IsL (2 ^ ww.toNat) r (x * y)) := by
  unfold Does
  intro dp un gd A₀ base outer Q E B hd hu hret
  k_with_none
  have hB := base_ge (k := ww.toNat) (by omega)
  have hB2 := base_le (k := ww.toNat) (by omega)
  walk_at "sp_enter"
  (k_with "pyIter ref" => k_dflt first
    | ((with_unfolding_all refine' kst_pairs1 (xi := Str.ofString "at") (τ := Unit) (fun _ => []) ["carry", "spot", "other"] (fun i F _ => MulO a b (2 ^ ww.toNat) i F ∧ F.length = a.length + b.length) () (by assumption) rfl (by assumption) (List.forall_mem_nil _) ⟨mulO_start hB _, by omega⟩ ?kt ?kd);
       (case' kt => intro oVs oF _ oi kTi kT kU kH kTk kOwn kLt kOff kFacts kInv kFr kNews; (have kMark := kstMark); (have kA := (dig_getD (by omega) _ha.1 oi)); (obtain ⟨kInv, kLen⟩ := kInv));
       (case' kd => intro oVs oF _ kU kH kTk kFacts kInv kFr kNews; (have kMark := kstMark); (obtain ⟨kInv, kLen⟩ := kInv));
       (all_goals (try k_fold)))
    | (((with_unfolding_all refine' kst_pairs1 (xi := Str.ofString "spot") (τ := Int × Nat) (fun e => [(Str.ofString "carry", .int e.1 e.2)]) [] (fun i F e => MulJ a b (2 ^ ww.toNat) oi i F e.1 ∧ F.length = a.length + b.length) (0, _) (by assumption) rfl (by assumption) (List.forall_mem_cons.mpr ⟨rfl, List.forall_mem_nil _⟩) ⟨mulJ_start hB (by assumption), by assumption⟩ ?jt ?jd));
       (case' jt => intro iVs iF iE ii kTi kT kU kH kTk kOwn kLt kOff kFacts kInv kFr kNews; (have kMark := kstMark); (have kA := (dig_getD (by omega) _hb.1 ii)); (obtain ⟨kInv, kLen⟩ := kInv));
       (case' jd => intro iVs iF iE kU kH kTk kFacts kInv kFr kNews; (have kMark := kstMark); (obtain ⟨kInv, kLen⟩ := kInv));
       (all_goals (try k_fold))))
  (k_with "binaryOp Mult int int" => refine mul_int ?_ (IntMulOk.of_left (intBits_le_64 (by omega) (by omega))))
  (k_with "call ref" => (
    (rename Fr _ _ _ _ => cF); (rename News _ _ _ _ => cN);
    k_dflt (refine' does_use (sp_normal _ _ _ _ (Frag.In.keeps X cF.keep) (Top.keeps T cF.keep) (isListN cN (by k_mem)) (by assumption) (by omega)) (by assumption) cF cN rfl (by (try dsimp only [Around.deeper]); omega) (by (try dsimp only [Around.deeper]); omega) ?_);
    intro r9 h9 tk9 F9 N9 hn9 ho9; obtain ⟨l9, vs9, n9, ns9, rfl, hg9, hf9, hI9, hP9⟩ := ho9; (have N9' := (hn9 _ _ hf9 hg9).1); clear hn9 N9; (try k_fold)))
  k_steps
  · obtain ⟨e, he, hr, hz, hn⟩ := hP9
    exact hret _ _ _ (Fr.keep F9) (lout N9' (by k_mem) hI9 (mul_end _ha _hb kInv he hr hz hn))
  · with_unfolding_all
     exact pr_end1 (qs := fun _ : Unit => []) (fun G (_ : Unit) => MulO a b (2 ^ ww.toNat) (oi + 1) G ∧ G.length = a.length + b.length) () (by assumption) (by assumption) (by assumption) (List.forall_mem_nil _)
      (fun z h1 h2 h3 h4 => by
        simp only [List.contains_cons, List.contains_nil, Bool.or_false, Bool.or_eq_false_iff, beq_eq_false_iff_ne, ne_eq] at h4
        simp [kstB, h1, h2, h4])
      (mulO_step' (by assumption) (by assumption) (by assumption))
  · with_unfolding_all
     exact pr_end1 (qs := fun e : Int × Nat => [(Str.ofString "carry", .int e.1 e.2)]) (fun G (e : Int × Nat) => MulJ a b (2 ^ ww.toNat) oi (ii + 1) G e.1 ∧ G.length = a.length + b.length) (_, _) (by assumption) (by assumption) (by assumption) (List.forall_mem_cons.mpr ⟨rfl, List.forall_mem_nil _⟩)
      (fun z h1 h2 h3 h4 => by
        have h5 : z ≠ Str.ofString "carry" := h3 _ (List.mem_cons_self ..)
        simp [kstB, h1, h2, h5])
      (mulJ_step' hB _ha.1 _hb.1 (by assumption) (by assumption) (by assumption) (by assumption))
end Mine
namespace Mine
set_option maxHeartbeats 8000000 in
theorem sp_nat_of {w : World} {mean : ExcName → Option Value} {mg mb : Str → Option Value} (s : Shared) (x ww : Int) (t u : Tok)
    (X : (Mine.hd.heap_39 w.params).In s.heap) (T : Top Mine.hd.view_39 (looseW Mine.hd.view_39 []) mean mg mb s.heap)
    (hx : 0 ≤ x) (hx2 : Lim x) (hw : 3 ≤ ww) (hw2 : ww ≤ 8) :
    Does w 53 2 [.int x t, .int ww u] s (LOut s.heap fun r => IsL (2 ^ ww.toNat) r x) := by
  unfold Does
  intro dp un gd A₀ base outer Q E B hd hu hret
  k_with_none
  have hk : 3 ≤ ww.toNat := by omega
  walk_at "sp_enter"
  (k_with "exec While Compare cons nil" => k_while (fun (_ : List Int) n found => 0 ≤ n ∧ found.length ≤ 60 ∧ NatI (2 ^ ww.toNat) x n found) (fun _ n _ => n.toNat) "number" "found")
  (k_with "state" => first | exact nat_start (by assumption) | exact nat_step1 (by assumption) (by assumption) (by assumption) (by assumption))
  (k_with "measure" => exact nat_less (by assumption) (by assumption))
  k_steps
  all_goals exact hret _ _ _ (Fr.keep (by assumption)) (lout (by assumption) (by k_mem) (by assumption) (nat_end (by assumption) (by assumption) (by assumption)))
end Mine
namespace Mine
theorem len_lt {B x y : Int} (hB : 8 ≤ B) {a b : List Int} (ha : IsL B a x) (hb : IsL B b y) (h : a.length < b.length) : x < y := by
  have h1 := val_lt (by omega) ha.1
  have hn : b ≠ [] := by intro e; subst e; simp at h
  have h2 := val_pos (by omega) hb.1 hn (hb.2.2.resolve_left hn)
  rw [ha.2.1] at h1
  rw [hb.2.1] at h2
  have h3 : B ^ a.length ≤ B ^ (b.length - 1) := by
    have : b.length - 1 = a.length + (b.length - 1 - a.length) := by omega
    rw [this, Int.pow_add]
    have h4 := pow_pos' (show 0 < B by omega) a.length
    have h5 := pow_pos' (show 0 < B by omega) (b.length - 1 - a.length)
    have h6 : B ^ a.length * 1 ≤ B ^ a.length * B ^ (b.length - 1 - a.length) := Int.mul_le_mul_of_nonneg_left (by omega) (by omega)
    omega
  omega
theorem top_lt {B : Int} (hB : 0 < B) : ∀ {a b : List Int} {k : Nat}, Dig B a → Dig B b → a.length = b.length → k < a.length → (∀ i : Nat, k < i → a.getD i 0 = b.getD i 0) → a.getD k 0 < b.getD k 0 → val B a < val B b
  | [], _, _, _, _, _, h, _, _ => absurd h (Nat.not_lt_zero _)
  | u :: r, [], _, _, _, h, _, _, _ => by simp at h
  | u :: r, v :: q, 0, _, _, hl, _, he, hlt => by
    have : r = q := by
      apply List.ext_getElem (by simpa using hl)
      intro i h1 h2
      have := he (i + 1) (by omega)
      simpa [List.getD_eq_getElem?_getD, h1, h2] using this
    subst this
    simp at hlt
    simp only [val]; omega
  | u :: r, v :: q, k + 1, ha, hb, hl, hk, he, hlt => by
    have ih := top_lt hB (a := r) (b := q) (k := k) (fun x hx => ha x (.tail _ hx)) (fun x hx => hb x (.tail _ hx)) (by simpa using hl) (by simpa using hk) (fun i hi => by simpa using he (i + 1) (by omega)) (by simpa using hlt)
    have h1 := (ha u (.head _)).2
    have h2 := (hb v (.head _)).1
    have h3 : B * (val B r + 1) ≤ B * val B q := Int.mul_le_mul_of_nonneg_left (by omega) (Int.le_of_lt hB)
    have h4 : B * (val B r + 1) = B * val B r + B := by grind
    simp only [val]; omega
theorem all_eq {a b : List Int} (hl : a.length = b.length) (h : ∀ i : Nat, i < a.length → a.getD i 0 = b.getD i 0) : a = b := by
  apply List.ext_getElem hl
  intro i h1 h2
  have := h i h1
  simpa [List.getD_eq_getElem?_getD, h1, h2] using this
def CmpI (a b : List Int) (n : Nat) : Prop := ∀ i : Nat, a.length ≤ i + n → a.getD i 0 = b.getD i 0
theorem cmp_start {a b : List Int} (h : (a.length : Int) = b.length) : CmpI a b ([] : List Int).length := by
  intro i hi
  simp at hi
  rw [List.getD_eq_getElem?_getD, List.getD_eq_getElem?_getD, List.getElem?_eq_none hi, List.getElem?_eq_none (by omega)]
theorem cmp_step {a b pre : List Int} {k : Int} (hk : k = (a.length : Int) - 1 - (pre.length : Int)) (hl : pre.length < ((a.length : Int) - 1 - -1).toNat) (h : CmpI a b pre.length) (he : a.getD k.toNat 0 = b.getD k.toNat 0) :
    CmpI a b (pre ++ [k]).length := by
  intro i hi
  simp at hi
  by_cases h1 : a.length ≤ i + pre.length
  · exact h i h1
  · have : i = k.toNat := by omega
    rw [this]; exact he
theorem cmp_c1 {B x y : Int} {a b : List Int} (hB : 8 ≤ B) (ha : IsL B a x) (hb : IsL B b y) (h : (a.length : Int) < b.length) : (-1 : Int) < 0 ↔ x < y :=
  ⟨fun _ => len_lt hB ha hb (by omega), fun _ => by decide⟩
theorem cmp_c2 {B x y : Int} {a b : List Int} (hB : 8 ≤ B) (ha : IsL B a x) (hb : IsL B b y) (h : (a.length : Int) ≠ b.length) (h2 : ¬ (a.length : Int) < b.length) : (1 : Int) < 0 ↔ x < y :=
  ⟨fun e => absurd e (by decide), fun e => by have := len_lt hB hb ha (by omega); omega⟩
theorem cmp_c3 {B x y k : Int} {a b pre : List Int} (hB : 8 ≤ B) (ha : IsL B a x) (hb : IsL B b y) (hl : (a.length : Int) = b.length) (hk : k = (a.length : Int) - 1 - (pre.length : Int)) (hp : pre.length < ((a.length : Int) - 1 - -1).toNat) (h : CmpI a b pre.length)
    (hlt : a.getD k.toNat 0 < b.getD k.toNat 0) : (-1 : Int) < 0 ↔ x < y := by
  refine ⟨fun _ => ?_, fun _ => by decide⟩
  have := top_lt (by omega) ha.1 hb.1 (by omega) (k := k.toNat) (by omega) (fun i hi => h i (by omega)) hlt
  rw [ha.2.1, hb.2.1] at this; exact this
theorem cmp_c4 {B x y k : Int} {a b pre : List Int} (hB : 8 ≤ B) (ha : IsL B a x) (hb : IsL B b y) (hl : (a.length : Int) = b.length) (hk : k = (a.length : Int) - 1 - (pre.length : Int)) (hp : pre.length < ((a.length : Int) - 1 - -1).toNat) (h : CmpI a b pre.length)
    (hne : a.getD k.toNat 0 ≠ b.getD k.toNat 0) (hlt : ¬ a.getD k.toNat 0 < b.getD k.toNat 0) : (1 : Int) < 0 ↔ x < y := by
  refine ⟨fun e => absurd e (by decide), fun e => ?_⟩
  have := top_lt (by omega) hb.1 ha.1 (by omega) (k := k.toNat) (by omega) (fun i hi => (h i (by omega)).symm) (by omega)
  rw [ha.2.1, hb.2.1] at this; omega
theorem cmp_c5 {B x y : Int} {a b : List Int} (ha : IsL B a x) (hb : IsL B b y) (hl : (a.length : Int) = b.length) (h : CmpI a b (downKs ((a.length : Int) - 1) ((a.length : Int) - 1 - -1).toNat).length) : (0 : Int) < 0 ↔ x < y := by
  rw [downKs_length] at h
  have : a = b := all_eq (by omega) fun i hi => h i (by omega)
  subst this
  have := ha.2.1.symm.trans hb.2.1
  omega
set_option maxHeartbeats 8000000 in
theorem sp_compare {w : World} {mean : ExcName → Option Value} {mg mb : Str → Option Value} (s : Shared) (l k : Addr) (vs us : List Value) (a b : List Int) (B x y : Int)
    (X : (Mine.hd.heap_39 w.params).In s.heap) (T : Top Mine.hd.view_39 (looseW Mine.hd.view_39 []) mean mg mb s.heap)
    (hL : s.heap.IsList l vs.toArray) (hI : IntsAre vs a) (hK : s.heap.IsList k us.toArray) (hJ : IntsAre us b)
    (hl1 : a.length < 1000000) (hl2 : b.length < 1000000) (_hB : 8 ≤ B) (_ha : IsL B a x) (_hb : IsL B b y) :
    Does w 60 2 [.ref l, .ref k] s (IOut fun c => c < 0 ↔ x < y) := by
  unfold Does
  intro dp un gd A₀ base outer Q E B hd hu hret
  k_with_none
  walk_at "sp_enter"
  (k_with "pyIter ref" => 
    (rename Fr _ _ _ _ => lF'); (rename News _ _ _ _ => lN'); (rename IsRange _ _ _ _ _ _ _ _ => rgX);
    (with_unfolding_all refine' kst_rangeD (σ := Unit) (fun _ => []) (fun _ => []) (fun _ => True) [] (fun pre _ => CmpI a b pre.length) () (by rfl) rgX (small_down (by omega) (by omega) (by omega) (by omega)) (rangeSize_downNat _ _) lF' lN' True.intro (List.forall_mem_nil _) (cmp_start (by assumption)) ?kt ?kd);
    (all_goals clear lF' lN');
    (case' kt => intro c' kPre kN kT kU kH kTk kOwn kEq kLt kOff kFacts kInv kFr kNews; (have kMark := kstMark));
    (case' kd => intro c' kU kH kTk kFacts kInv kFr kNews; (have kMark := kstMark));
    (all_goals (try k_fold)))
  (k_with "state" => exact cmp_step (by assumption) (by assumption) (by assumption) (by assumption))
  k_steps
  all_goals first
    | (refine hret _ _ _ (Fr.keep (by assumption)) ⟨_, _, rfl, ?_⟩)
    | (exact kst_end () (by assumption) (by assumption) (List.forall_mem_nil _) (fun p hp => List.mem_append_right _ hp) rfl True.intro (List.forall_mem_nil _) (fun z h1 _ _ => (if_neg h1).trans rfl) (cmp_step (by assumption) (by assumption) (by assumption) (by assumption)))
  all_goals first
    | exact cmp_c1 (by assumption) (by assumption) (by assumption) (by assumption)
    | exact cmp_c2 (by assumption) (by assumption) (by assumption) (by assumption) (by assumption)
    | exact cmp_c3 (by assumption) (by assumption) (by assumption) (by assumption) (by assumption) (by assumption) (by assumption) (by assumption)
    | exact cmp_c4 (by assumption) (by assumption) (by assumption) (by assumption) (by assumption) (by assumption) (by assumption) (by assumption) (by assumption)
    | exact cmp_c5 (by assumption) (by assumption) (by assumption) (by assumption)
end Mine
namespace Mine
set_option maxHeartbeats 8000000 in
theorem sp_limbs {w : World} {mean : ExcName → Option Value} {mg mb : Str → Option Value} (s : Shared) (x ww : Int) (t u : Tok)
    (X : (Mine.hd.heap_39 w.params).In s.heap) (T : Top Mine.hd.view_39 (looseW Mine.hd.view_39 []) mean mg mb s.heap)
    (hx : 0 ≤ x) (hx2 : Lim x) (hw : 3 ≤ ww) (hw2 : ww ≤ 8) :
    Does w 137 2 [.int x t, .int ww u] s (LOut s.heap fun r => IsL (2 ^ ww.toNat) r x) := by
  unfold Does
  intro dp un gd A₀ base outer Q E B hd hu hret
  k_with_none
  have hk : 3 ≤ ww.toNat := by omega
  walk_at "sp_enter"
  (k_with "exec While Compare cons nil" => k_while (fun (_ : List Int) n found => 0 ≤ n ∧ found.length ≤ 60 ∧ NatI (2 ^ ww.toNat) x n found) (fun _ n _ => n.toNat) "number" "found")
  (k_with "state" => first | exact nat_start (by assumption) | exact nat_step2 (by assumption) (by assumption) (by assumption) (by assumption))
  (k_with "measure" => exact nat_less (by assumption) (by assumption))
  k_steps
  all_goals first
    | exact hret _ _ _ (Fr.keep (by assumption)) (lout (by assumption) (by k_mem) (by assumption) (nat_end (by assumption) (by assumption) (by assumption)))
end Mine
namespace Mine
/-- factorial_exponent as a function -/
def fexp (p : Nat) : Nat → Nat → Nat
  | 0, _ => 0
  | k + 1, n => if n = 0 then 0 else n / p + fexp p k (n / p)
theorem fexp_fuel {p : Nat} (hp : 2 ≤ p) : ∀ (k : Nat) {m n : Nat}, n < k → n < m → fexp p k n = fexp p m n
  | 0, _, _, h, _ => absurd h (Nat.not_lt_zero _)
  | _ + 1, 0, _, _, h => absurd h (Nat.not_lt_zero _)
  | k + 1, m + 1, n, h1, h2 => by
    unfold fexp
    split
    · rfl
    · rename_i hn
      have : n / p < n := Nat.div_lt_self (by omega) hp
      rw [fexp_fuel hp k (m := m) (n := n / p) (by omega) (by omega)]
def fxI (p n : Int) : Int := fexp p.toNat 64 n.toNat
theorem fxI_zero (p : Int) : fxI p 0 = 0 := rfl
theorem fxI_step {p n : Int} (hp : 2 ≤ p) (hn : 0 < n) (h64 : n < 64) : fxI p n = n.fdiv p + fxI p (n.fdiv p) := by
  rw [Int.fdiv_eq_ediv_of_nonneg _ (by omega)]
  have h1 : (n / p).toNat = n.toNat / p.toNat := by
    obtain ⟨a, rfl⟩ := Int.eq_ofNat_of_zero_le (show 0 ≤ n by omega)
    obtain ⟨b, rfl⟩ := Int.eq_ofNat_of_zero_le (show 0 ≤ p by omega)
    rfl
  have h2 : n / p = ((n.toNat / p.toNat : Nat) : Int) := by
    rw [← h1]
    have := Int.ediv_nonneg (show 0 ≤ n by omega) (show 0 ≤ p by omega)
    omega
  have h3 : n.toNat / p.toNat < n.toNat := Nat.div_lt_self (by omega) (by omega)
  unfold fxI
  rw [h1, h2, fexp_fuel (show 2 ≤ p.toNat by omega) 64 (m := n.toNat + 1) (n := n.toNat) (by omega) (by omega)]
  rw [fexp, if_neg (by omega), fexp_fuel (show 2 ≤ p.toNat by omega) n.toNat (m := 64) (n := n.toNat / p.toNat) h3 (by omega)]
  omega
theorem fx_step {p n f n₀ : Int} (hp : 2 ≤ p) (hn : 0 < n) (h64 : n < 64) (h : f + fxI p n = fxI p n₀) : 0 ≤ n.fdiv p ∧ n.fdiv p < 64 ∧ f + n.fdiv p + fxI p (n.fdiv p) = fxI p n₀ := by
  have e := fxI_step hp hn h64
  have h1 : n.fdiv p = n / p := Int.fdiv_eq_ediv_of_nonneg _ (by omega)
  have h2 : 0 ≤ n / p := Int.ediv_nonneg (by omega) (by omega)
  have h3 : n / p ≤ n := Int.ediv_le_self _ (by omega)
  omega
theorem fx_less {p n : Int} (hp : 2 ≤ p) (hn : 0 < n) : (n.fdiv p).toNat < n.toNat := by
  have h1 : n.fdiv p = n / p := Int.fdiv_eq_ediv_of_nonneg _ (by omega)
  have h3 : n / p < n := Int.ediv_lt_self_of_pos_of_ne_one hn (by omega)
  omega
theorem fx_end {p n f n₀ : Int} (h0 : 0 ≤ n) (hn : ¬ 0 < n) (h : f + fxI p n = fxI p n₀) : f = fxI p n₀ := by
  have : n = 0 := by omega
  subst this
  rw [fxI_zero] at h; omega
set_option maxHeartbeats 8000000 in
theorem sp_fexp {w : World} {mean : ExcName → Option Value} {mg mb : Str → Option Value} (s : Shared) (n₀ p : Int) (t u : Tok)
    (X : (Mine.hd.heap_39 w.params).In s.heap) (T : Top Mine.hd.view_39 (looseW Mine.hd.view_39 []) mean mg mb s.heap)
    (hn : 0 ≤ n₀) (hn2 : n₀ < 64) (hp : 2 ≤ p) (hp2 : p < 64) :
    Does w 109 2 [.int n₀ t, .int p u] s (IOut fun r => r = fxI p n₀) := by
  unfold Does
  intro dp un gd A₀ base outer Q E B hd hu hret
  k_with_none
  walk_at "sp_enter"
  (k_with "exec While Compare cons nil" => k_while (fun (_ : List Int) n found => 0 ≤ n ∧ n < 64 ∧ found + fxI p n = fxI p n₀) (fun _ n _ => n.toNat) "n" "found")
  (k_with "state" => first | exact ⟨by assumption, by assumption, Int.zero_add _⟩ | exact fx_step (by assumption) (by assumption) (by assumption) (by assumption))
  (k_with "measure" => exact fx_less (by assumption) (by assumption))
  k_steps
  all_goals first
    | exact hret _ _ _ (Fr.keep (by assumption)) ⟨_, _, rfl, fx_end (by assumption) (by assumption) (by assumption)⟩
end Mine
namespace Mine
set_option maxHeartbeats 8000000 in
theorem sp_need {w : World} {mean : ExcName → Option Value} {mg mb : Str → Option Value} (s : Shared) (n : Int) (t : Tok)
    (X : (Mine.hd.heap_39 w.params).In s.heap) (T : Top Mine.hd.view_39 (looseW Mine.hd.view_39 []) mean mg mb s.heap) (hn : 0 ≤ n) :
    Does w 74 2 [.int n t] s NOut := by
  unfold Does
  intro dp un gd A₀ base outer Q E B hd hu hret
  k_with_none
  walk_at "sp_enter"
  k_steps
  all_goals exact hret _ _ _ (Fr.keep (by assumption)) rfl
theorem isL_len {B x : Int} {a : List Int} (hB : 8 ≤ B) (h : IsL B a x) (hx : Lim x) : a.length ≤ 60 := by
  by_cases hn : a = []
  · subst hn; simp
  · have h1 := val_pos (by omega) h.1 hn (h.2.2.resolve_left hn)
    rw [h.2.1] at h1
    have h2 := two_pow_le (show 2 ≤ B by omega) (a.length - 1)
    have hx := hx.out
    have h3 : (2 : Int) ^ (a.length - 1) < 2 ^ 60 := by omega
    have h4 : (2 : Nat) ^ (a.length - 1) < 2 ^ 60 := by exact_mod_cast h3
    have := (Nat.pow_lt_pow_iff_right (by decide : 1 < 2)).mp h4
    omega
theorem isL_one {B : Int} (hB : 8 ≤ B) : IsL B [1] 1 := ⟨fun v hv => by rw [List.mem_singleton.mp hv]; omega, by simp [val], .inr (by simp)⟩
end Mine
namespace Mine
structure PwS where
  lf : Addr
  vf : List Value
  nf : Nat
  F : List Int
  ls : Addr
  vs : List Value
  ns : Nat
  S : List Int
  k : Int
  t : Tok
abbrev pwLed (c : PwS) : List (Addr × Obj) := [(c.lf, listOf (List.toArray c.vf) c.nf), (c.ls, listOf (List.toArray c.vs) c.ns)]
abbrev pwPs (c : PwS) : List (Str × Value) := [(Str.ofString "found", .ref c.lf), (Str.ofString "square", .ref c.ls), (Str.ofString "many", .int c.k c.t)]
abbrev pwFa (c : PwS) : Prop := IntsAre c.vf c.F ∧ IntsAre c.vs c.S
theorem pw_while {prog : Program} {w : World} {A : Around} {E : Value → Shared → Prop} {Q : Flow → Shared → Prop} {s : Shared} {env : Env} {h₀ : Heap} {L : Addr} {test : Expr} {body : List Stmt} {pos : Pos} {m₀ : Str → Option Value} {news : List (Addr × Obj)}
    {lf : Addr} {vf : List Value} {nf : Nat} {F₀ : List Int} {ls : Addr} {vs : List Value} {ns : Nat} {S₀ : List Int} {k : Int} {t : Tok} (P : List Int → List Int → Int → Prop)
    (F : Fr h₀ L s.heap m₀) (N : News h₀ L s.heap news) (m1 : m₀ (Str.ofString "found") = some (.ref lf)) (m2 : m₀ (Str.ofString "square") = some (.ref ls)) (m3 : m₀ (Str.ofString "many") = some (.int k t))
    (h1 : (lf, listOf (List.toArray vf) nf) ∈ news) (h2 : (ls, listOf (List.toArray vs) ns) ∈ news) (i1 : IntsAre vf F₀) (i2 : IntsAre vs S₀) (hp : P F₀ S₀ k)
    (turn : ∀ (lf : Addr) (vf : List Value) (nf : Nat) (F : List Int) (ls : Addr) (vs : List Value) (ns : Nat) (S : List Int) (k : Int) (t : Tok) (u : Str → Option Value) h tk, IntsAre vf F → IntsAre vs S → P F S k →
      Fr h₀ L h (kstB (fun z => if ([] : List Str).contains z then u z else m₀ z) [(Str.ofString "found", .ref lf), (Str.ofString "square", .ref ls), (Str.ofString "many", .int k t)]) → News h₀ L h [(lf, listOf (List.toArray vf) nf), (ls, listOf (List.toArray vs) ns)] →
      wpAny (model prog w) A (isTrue test env (eval test env)) (fun b s₂ =>
        if b = true then wpAny (model prog w) A (execs body env) (KswPost h₀ L s pwLed pwPs pwFa [] m₀ (fun c => P c.F c.S c.k) (fun c => c.k.toNat) Q ⟨lf, vf, nf, F, ls, vs, ns, S, k, t⟩) E s₂ else Q .next s₂) E { s with heap := h, toks := tk })
    (hE : PassesOwn (model prog w) A env E := by passes_own) :
    wpAny (model prog w) A (exec (.While test body [] pos) env) Q E s :=
  ksw_while pwLed pwPs pwFa [] (fun c => P c.F c.S c.k) (fun c => c.k.toNat) ⟨lf, vf, nf, F₀, ls, vs, ns, S₀, k, t⟩ F (kst_newsOf N (List.forall_mem_cons.mpr ⟨h1, List.forall_mem_cons.mpr ⟨h2, List.forall_mem_nil _⟩⟩)) ⟨i1, i2⟩
    (List.forall_mem_cons.mpr ⟨m1, List.forall_mem_cons.mpr ⟨m2, List.forall_mem_cons.mpr ⟨m3, List.forall_mem_nil _⟩⟩⟩) hp
    (fun ⟨lf, vf, nf, F, ls, vs, ns, S, k, t⟩ u h tk hf hp F' N' => turn lf vf nf F ls vs ns S k t u h tk hf.1 hf.2 hp F' N') hE
theorem pw_close {σ : Type} {P : List Int → List Int → Int → Prop} {h₀ : Heap} {L : Addr} {s : Shared} {m₀ m' : Str → Option Value} {c : PwS} {h' : Heap} {tk : Nat} {news' : List (Addr × Obj)} (_x : σ)
    {lf : Addr} {vf : List Value} {nf : Nat} {F' : List Int} {ls : Addr} {vs : List Value} {ns : Nat} {S' : List Int} {k : Int} {t : Tok}
    (F : Fr h₀ L h' m') (N : News h₀ L h' news') (m1 : m' (Str.ofString "found") = some (.ref lf)) (m2 : m' (Str.ofString "square") = some (.ref ls)) (m3 : m' (Str.ofString "many") = some (.int k t))
    (h1 : (lf, listOf (List.toArray vf) nf) ∈ news') (h2 : (ls, listOf (List.toArray vs) ns) ∈ news') (i1 : IntsAre vf F') (i2 : IntsAre vs S') (hr : ∀ z, z ≠ Str.ofString "found" → z ≠ Str.ofString "square" → z ≠ Str.ofString "many" → m' z = m₀ z) (hp : P F' S' k) (hm : k.toNat < c.k.toNat) :
    KswEnd h₀ L s pwLed pwPs pwFa [] m₀ (fun c => P c.F c.S c.k) (fun c => c.k.toNat) c { s with heap := h', toks := tk } :=
  ksw_end ⟨lf, vf, nf, F', ls, vs, ns, S', k, t⟩ F N (List.forall_mem_cons.mpr ⟨h1, List.forall_mem_cons.mpr ⟨h2, List.forall_mem_nil _⟩⟩) ⟨i1, i2⟩
    (List.forall_mem_cons.mpr ⟨m1, List.forall_mem_cons.mpr ⟨m2, List.forall_mem_cons.mpr ⟨m3, List.forall_mem_nil _⟩⟩⟩)
    (fun z h1 _ => hr z (h1 _ (.head _)) (h1 _ (.tail _ (.head _))) (h1 _ (.tail _ (.tail _ (.head _))))) hp hm
def PwP (B V : Int) (F S : List Int) (k : Int) : Prop := ∃ f s, IsL B F f ∧ IsL B S s ∧ 1 ≤ f ∧ 1 ≤ s ∧ Lim f ∧ Lim s ∧ 0 ≤ k ∧ k < 64 ∧ f * s ^ k.toNat = V
theorem pow_ge {s : Int} (hs : 1 ≤ s) (n : Nat) : 1 ≤ s ^ n := by have := pow_pos' (show 0 < s by omega) n; omega
theorem pow_mono1 {s : Int} (hs : 1 ≤ s) {a b : Nat} (h : a ≤ b) : s ^ a ≤ s ^ b := by
  have e : b = a + (b - a) := by omega
  rw [e, Int.pow_add]
  have h1 := pow_ge hs a
  have h2 := pow_ge hs (b - a)
  have := Int.mul_le_mul_of_nonneg_left (c := s ^ a) h2 (by omega)
  omega
theorem pw_lim1 {f s V : Int} {k : Int} (hf : 1 ≤ f) (hs : 1 ≤ s) (hk : 0 < k) (h : f * s ^ k.toNat = V) (hV : Lim V) : Lim (f * s) := by
  have h1 := pow_mono1 hs (show 1 ≤ k.toNat by omega)
  have h2 := Int.mul_le_mul_of_nonneg_left (c := f) h1 (by omega)
  rw [Int.pow_one] at h2
  have := hV.out
  exact ⟨by omega⟩
theorem pw_lim2 {f s V : Int} {k : Int} (hf : 1 ≤ f) (hs : 1 ≤ s) (hk : 2 ≤ k) (h : f * s ^ k.toNat = V) (hV : Lim V) : Lim (s * s) := by
  have h1 := pow_mono1 hs (show 2 ≤ k.toNat by omega)
  have h3 := Int.mul_le_mul_of_nonneg_right (c := s ^ k.toNat) hf (by have := pow_ge hs k.toNat; omega)
  have e : s ^ 2 = s * s := by rw [Int.pow_succ, Int.pow_one]
  have := hV.out
  exact ⟨by omega⟩
theorem fdiv2 {k : Int} (hk : 0 < k) : k.fdiv 2 = k / 2 ∧ k.fmod 2 = k % 2 := ⟨Int.fdiv_eq_ediv_of_nonneg _ (by omega), Int.fmod_eq_emod_of_nonneg _ (by omega)⟩
theorem mul_ge1 {f s : Int} (hf : 1 ≤ f) (hs : 1 ≤ s) : 1 ≤ f * s := by
  have := Int.mul_le_mul_of_nonneg_left (c := f) hs (by omega); omega
theorem pw_odd_big {B V f s k : Int} {F S : List Int} (hF : IsL B F (f * s)) (hS : IsL B S (s * s)) (hf : 1 ≤ f) (hs : 1 ≤ s) (hk : 0 < k) (hk2 : k < 64) (hV : Lim V) (h : f * s ^ k.toNat = V) (hm : k.fmod 2 = 1) (hd : 0 < k.fdiv 2) : PwP B V F S (k.fdiv 2) := by
  have e := fdiv2 hk
  rw [e.1] at hd ⊢; rw [e.2] at hm
  refine ⟨f * s, s * s, hF, hS, mul_ge1 hf hs, mul_ge1 hs hs, pw_lim1 hf hs hk h hV, pw_lim2 hf hs (by omega) h hV, by omega, by omega, ?_⟩
  have e1 : k.toNat = 2 * (k / 2).toNat + 1 := by omega
  have e2 : (s * s) ^ (k / 2).toNat = s ^ (2 * (k / 2).toNat) := by rw [Int.pow_mul, Int.pow_succ, Int.pow_one]
  rw [← h, e1, e2, Int.pow_succ]; grind
theorem pw_even_big {B V f s k : Int} {F S : List Int} (hF : IsL B F f) (hS : IsL B S (s * s)) (hf : 1 ≤ f) (hs : 1 ≤ s) (hfl : Lim f) (hk : 0 < k) (hk2 : k < 64) (hV : Lim V) (h : f * s ^ k.toNat = V) (hm : ¬ k.fmod 2 = 1) : PwP B V F S (k.fdiv 2) := by
  have e := fdiv2 hk
  rw [e.1]; rw [e.2] at hm
  refine ⟨f, s * s, hF, hS, hf, mul_ge1 hs hs, hfl, pw_lim2 hf hs (by omega) h hV, by omega, by omega, ?_⟩
  have e1 : k.toNat = 2 * (k / 2).toNat := by omega
  have e2 : (s * s) ^ (k / 2).toNat = s ^ (2 * (k / 2).toNat) := by rw [Int.pow_mul, Int.pow_succ, Int.pow_one]
  rw [← h, e1, e2]
theorem pw_odd_last {B V f s k : Int} {F S : List Int} (hF : IsL B F (f * s)) (hS : IsL B S s) (hf : 1 ≤ f) (hs : 1 ≤ s) (hsl : Lim s) (hk : 0 < k) (_hk2 : k < 64) (hV : Lim V) (h : f * s ^ k.toNat = V) (_hm : k.fmod 2 = 1) (hd : ¬ 0 < k.fdiv 2) : PwP B V F S (k.fdiv 2) := by
  have e := fdiv2 hk
  rw [e.1] at hd ⊢
  refine ⟨f * s, s, hF, hS, mul_ge1 hf hs, hs, pw_lim1 hf hs hk h hV, hsl, by omega, by omega, ?_⟩
  have e1 : k.toNat = 1 := by omega
  have e2 : (k / 2).toNat = 0 := by omega
  rw [← h, e1, e2, Int.pow_one, Int.pow_zero, Int.mul_one]
theorem pw_even_last {P : Prop} {k : Int} (hk : 0 < k) (hm : ¬ k.fmod 2 = 1) (hd : ¬ 0 < k.fdiv 2) : P := by
  have e := fdiv2 hk
  rw [e.1] at hd; rw [e.2] at hm
  omega
theorem pw_less {k : Int} (hk : 0 < k) : (k.fdiv 2).toNat < k.toNat := by have e := fdiv2 hk; rw [e.1]; omega
theorem pw_end {B V : Int} {F S : List Int} {f s k : Int} (hF : IsL B F f) (_hS : IsL B S s) (h0 : 0 ≤ k) (hk : ¬ 0 < k) (h : f * s ^ k.toNat = V) : IsL B F V := by
  have : k.toNat = 0 := by omega
  rw [this, Int.pow_zero, Int.mul_one] at h
  exact h ▸ hF
set_option maxHeartbeats 8000000 in
theorem sp_power {w : World} {mean : ExcName → Option Value} {mg mb : Str → Option Value} (s : Shared) (base many ww : Int) (t u v : Tok)
    (X : (Mine.hd.heap_39 w.params).In s.heap) (T : Top Mine.hd.view_39 (looseW Mine.hd.view_39 []) mean mg mb s.heap)
    (hb : 1 ≤ base) (hbl : Lim base) (hm : 0 ≤ many) (hm2 : many < 64) (hV : Lim (base ^ many.toNat)) (hw : 3 ≤ ww) (hw2 : ww ≤ 8) :
    Does w 88 6 [.int base t, .int many u, .int ww v, .ref 123] s (LOut s.heap fun r => IsL (2 ^ ww.toNat) r (base ^ many.toNat)) := by
  unfold Does
  intro dp un gd A₀ base' outer Q E B hd hu hret
  k_with_none
  have hB := base_ge (k := ww.toNat) (by omega)
  walk_at "sp_enter"
  (k_with "exec While Compare cons nil" => k_dflt (
    (rename Fr _ _ _ _ => lF'); (rename News _ _ _ _ => lN');
    (with_unfolding_all refine' pw_while (PwP (2 ^ ww.toNat) (base ^ many.toNat)) lF' lN' ?m1 ?m2 ?m3 ?h1 ?h2 ?i1 ?i2 ?kp ?kt);
    (case m1 => with_unfolding_all rfl); (case m2 => with_unfolding_all rfl); (case m3 => with_unfolding_all rfl);
    (case h1 => k_mem); (case h2 => k_mem); (case i1 => exact IntsAre.cons _ _ .nil); (case i2 => assumption);
    (case kp => exact ⟨1, base, isL_one hB, by assumption, by decide, hb, ⟨by decide⟩, hbl, hm, hm2, Int.one_mul _⟩);
    (intro lf vf nf F ls vs ns S k t kU kH kTk kI1 kI2 kInv kFr kNews; (obtain ⟨f, s', kF, kS, kf1, ks1, kfl, ksl, kk0, kk64, kEq⟩ := kInv); (have kMark := kstMark);
     (have kl1 := isL_len hB kF kfl); (have kl2 := isL_len hB kS ksl); (try k_fold))))
  (k_with "call ref" => (
    (rename Fr _ _ _ _ => cF); (rename News _ _ _ _ => cN);
    k_dflt (refine' does_use (sp_nat_of _ _ _ _ _ (Frag.In.keeps X cF.keep) (Top.keeps T cF.keep) (by omega) hbl hw hw2) (by assumption) cF cN rfl (by walk_at "sp_d") (by walk_at "sp_d") ?_);
    walk_at "sp_lret"))
  (k_with "call ref" => (
    (rename Fr _ _ _ _ => cF); (rename News _ _ _ _ => cN);
    k_dflt (refine' does_use (sp_mul _ _ _ _ _ _ _ _ _ _ _ (Frag.In.keeps X cF.keep) (Top.keeps T cF.keep) (isListN cN (by k_mem)) (by assumption) (isListN cN (by k_mem)) (by assumption) (by omega) (by omega) hw hw2 (by assumption) (by assumption)) (by assumption) cF cN rfl (by walk_at "sp_d") (by walk_at "sp_d") ?_);
    walk_at "sp_lret"))
  k_steps
  all_goals first
    | exact hret _ _ _ (Fr.keep (by assumption)) (lout (by assumption) (by k_mem) (by assumption) (pw_end kF kS kk0 (by assumption) kEq))
    | (k_dflt exact pw_close (P := PwP (2 ^ ww.toNat) (base ^ many.toNat)) () (by assumption) (by assumption) (by with_unfolding_all rfl) (by with_unfolding_all rfl) (by with_unfolding_all rfl)
        (by k_mem) (by k_mem) (by assumption) (by assumption) (by (intro z h1 h2 h3; simp [kstB, h1, h2, h3]))
        (by first
           | exact pw_odd_big (by assumption) (by assumption) kf1 ks1 (by assumption) kk64 hV kEq (by assumption) (by assumption)
           | exact pw_even_big (by assumption) (by assumption) kf1 ks1 kfl (by assumption) kk64 hV kEq (by assumption)
           | exact pw_odd_last (by assumption) (by assumption) kf1 ks1 ksl (by assumption) kk64 hV kEq (by assumption) (by assumption)) (pw_less (by assumption)))
end Mine
namespace Mine
def prd : List Int → Int
  | [] => 1
  | x :: r => x * prd r
theorem prd_append (a b : List Int) : prd (a ++ b) = prd a * prd b := by
  induction a with
  | nil => simp [prd]
  | cons x r ih => simp only [List.cons_append, prd, ih]; grind
theorem prd_cut (l : List Int) (h : Nat) : prd (l.take h) * prd (l.drop h) = prd l := by
  rw [← prd_append, List.take_append_drop]
def Pos (l : List Int) : Prop := ∀ x ∈ l, 1 ≤ x
theorem pos_take {l : List Int} (h : Pos l) (n : Nat) : Pos (l.take n) := fun x hx => h x (List.mem_of_mem_take hx)
theorem pos_drop {l : List Int} (h : Pos l) (n : Nat) : Pos (l.drop n) := fun x hx => h x (List.mem_of_mem_drop hx)
theorem prd_ge {l : List Int} (h : Pos l) : 1 ≤ prd l := by
  induction l with
  | nil => decide
  | cons x r ih => exact mul_ge1 (h x (.head _)) (ih fun y hy => h y (.tail _ hy))
theorem lim_left {a b : Int} (ha : 1 ≤ a) (hb : 1 ≤ b) (h : Lim (a * b)) : Lim a := by
  have := Int.mul_le_mul_of_nonneg_left (c := a) hb (by omega)
  have := h.out
  exact ⟨by omega⟩
theorem lim_right {a b : Int} (ha : 1 ≤ a) (hb : 1 ≤ b) (h : Lim (a * b)) : Lim b := lim_left hb ha (by rw [Int.mul_comm]; exact h)
theorem lim_take {l : List Int} (h : Pos l) (hl : Lim (prd l)) (n : Nat) : Lim (prd (l.take n)) := lim_left (prd_ge (pos_take h n)) (prd_ge (pos_drop h n)) (by rw [prd_cut]; exact hl)
theorem lim_drop {l : List Int} (h : Pos l) (hl : Lim (prd l)) (n : Nat) : Lim (prd (l.drop n)) := lim_right (prd_ge (pos_take h n)) (prd_ge (pos_drop h n)) (by rw [prd_cut]; exact hl)
theorem prd_one {l : List Int} (h : (l.length : Int) = 1) : l.getD 0 0 = prd l := by
  match l, h with
  | [x], _ => simp [prd]
  | [], h => simp at h
  | _ :: _ :: _, h => simp at h; omega
theorem prd_zero {l : List Int} (h : (l.length : Int) = 0) : prd l = 1 := by
  match l, h with
  | [], _ => rfl
  | _ :: _, h => simp at h; omega
theorem one_pos {l : List Int} (h : (l.length : Int) = 1) (hp : Pos l) : 0 ≤ l.getD (Int.toNat 0) 0 := by
  have := prd_one h
  have h1 := prd_ge hp
  show 0 ≤ l.getD 0 0
  omega
theorem one_lim {l : List Int} (h : (l.length : Int) = 1) (hl : Lim (prd l)) : Lim (l.getD (Int.toNat 0) 0) := by
  show Lim (l.getD 0 0)
  rw [prd_one h]; exact hl
theorem half_of (n : Nat) : (n : Int).fdiv 2 = ((n / 2 : Nat) : Int) ∧ 0 ≤ (n : Int).fdiv 2 := by
  rw [Int.fdiv_eq_ediv_of_nonneg _ (by omega)]; omega
set_option maxHeartbeats 8000000 in
theorem sp_poc {w : World} {mean : ExcName → Option Value} {mg mb : Str → Option Value} (n : Nat) : ∀ (s : Shared) (l : Addr) (vs : List Value) (ns : List Int) (ww : Int) (u : Tok)
    (_X : (Mine.hd.heap_39 w.params).In s.heap) (_T : Top Mine.hd.view_39 (looseW Mine.hd.view_39 []) mean mg mb s.heap)
    (_hL : s.heap.IsList l vs.toArray) (_hI : IntsAre vs ns) (_hw : 3 ≤ ww) (_hw2 : ww ≤ 8) (_hn : ns.length ≤ n) (_hn2 : n ≤ 40) (_hp : Pos ns) (_hl : Lim (prd ns)),
    Does w 81 (6 + n) [.ref l, .int ww u, .ref 123] s (LOut s.heap fun r => IsL (2 ^ ww.toNat) r (prd ns)) := by
  induction n using Nat.strongRecOn with
  | _ n ih =>
    intro s l vs ns ww u X T hL hI hw hw2 hn hn2 hp hl
    unfold Does
    intro dp un gd A₀ base' outer Q E B hd hu hret
    have hB := base_ge (k := ww.toNat) (by omega)
    have hH := half_of ns.length
    have hsz : vs.toArray.size ≤ sizeLine := by rw [List.size_toArray, hI.length, sizeLine_eq]; omega
    k_with_none
    walk_at "sp_enter"
    (k_with "my call" => (
      (rename Fr _ _ _ _ => cF); (rename News _ _ _ _ => cN);
      k_dflt (refine' does_use (sp_nat_of _ _ _ _ _ (Frag.In.keeps X cF.keep) (Top.keeps T cF.keep) (one_pos (by assumption) hp) (one_lim (by assumption) hl) hw hw2) (by assumption) cF cN rfl (by walk_at "sp_d") (by walk_at "sp_d") ?_);
      walk_at "sp_lret"))
    (k_with "my call" => (
      (rename Fr _ _ _ _ => cF); (rename News _ _ _ _ => cN);
      k_dflt (refine' does_use (sp_mul _ _ _ _ _ _ _ _ _ _ _ (Frag.In.keeps X cF.keep) (Top.keeps T cF.keep) (isListN cN (by k_mem)) (by assumption) (isListN cN (by k_mem)) (by assumption)
        (Nat.lt_of_le_of_lt (isL_len hB (by assumption) (by first | exact lim_take hp hl _ | exact lim_drop hp hl _)) (by decide)) (Nat.lt_of_le_of_lt (isL_len hB (by assumption) (by first | exact lim_take hp hl _ | exact lim_drop hp hl _)) (by decide)) hw hw2 (by assumption) (by assumption)) (by assumption) cF cN rfl (by walk_at "sp_d") (by walk_at "sp_d") ?_);
      walk_at "sp_lret"))
    (k_with "my call" => (
      (rename Fr _ _ _ _ => cF); (rename News _ _ _ _ => cN);
      k_dflt (refine' does_use (ih (n - 1) (by omega) _ _ _ _ _ _ (Frag.In.keeps X cF.keep) (Top.keeps T cF.keep) (isListN cN (by k_mem)) (by assumption) hw hw2 (by omega) (by omega) (by first | exact pos_take hp _ | exact pos_drop hp _) (by first | exact lim_take hp hl _ | exact lim_drop hp hl _)) (by assumption) cF cN rfl (by walk_at "sp_d") (by walk_at "sp_d") ?_);
      walk_at "sp_lret"))
    (k_with "my slice" => (
      (rename Fr _ _ _ _ => cF); (rename News _ _ _ _ => cN);
      (first
        | refine' kmk_slice_ints cF cN (Fr.lst cF hL) IsPart.none (IsPart.int _ _) hI (kmk_upto hI hH.2) (List.length_take ..) ?_ (by with_unfolding_all rfl) (by intro _; with_unfolding_all rfl) hsz
        | refine' kmk_slice_ints cF cN (Fr.lst cF hL) (IsPart.int _ _) IsPart.none hI (kmk_from hI hH.2) (List.length_drop ..) ?_ (by with_unfolding_all rfl) (by intro _; with_unfolding_all rfl) hsz);
      intro D' ws' h' F' N' l1 hI' hC' hL'; (try k_lt l1); (try k_sweep)))
    k_steps
    · exact hret _ _ _ (Fr.keep (by assumption)) (lout (by assumption) (by k_mem) (IntsAre.cons _ _ .nil) (by rw [prd_zero (by assumption)]; exact isL_one hB))
    · exact hret _ _ _ (Fr.keep (by assumption)) (lout (by assumption) (by k_mem) (by assumption) (by rw [← prd_one (by assumption)]; assumption))
    · exact hret _ _ _ (Fr.keep (by assumption)) (lout (by assumption) (by k_mem) (by assumption) (by rw [← prd_cut ns ((ns.length : Int).fdiv 2).toNat]; assumption))
end Mine
namespace Mine
inductive PairsAre (h : Heap) : List Value → List (Int × Int) → Prop
  | nil : PairsAre h [] []
  | cons {a : Addr} {p m : Int} {t u : Tok} {vs : List Value} {ps : List (Int × Int)} : IsTup h a [Value.int p t, .int m u].toArray → PairsAre h vs ps → PairsAre h (.ref a :: vs) ((p, m) :: ps)
theorem PairsAre.length {h : Heap} {vs : List Value} {ps : List (Int × Int)} (H : PairsAre h vs ps) : vs.length = ps.length := by
  induction H with
  | nil => rfl
  | cons _ _ ih => rw [List.length_cons, List.length_cons, ih]
theorem PairsAre.keeps {h h' : Heap} {vs : List Value} {ps : List (Int × Int)} (H : PairsAre h vs ps) (k : Keep h h') : PairsAre h' vs ps := by
  induction H with
  | nil => exact .nil
  | cons t _ ih => exact .cons (t.keeps k) ih
theorem PairsAre.take {h : Heap} : ∀ {vs : List Value} {ps : List (Int × Int)} (_ : PairsAre h vs ps) (n : Nat), PairsAre h (vs.take n) (ps.take n)
  | _, _, _, 0 => .nil
  | _, _, .nil, _ + 1 => .nil
  | _, _, .cons t H, n + 1 => .cons t (PairsAre.take H n)
theorem PairsAre.drop {h : Heap} : ∀ {vs : List Value} {ps : List (Int × Int)} (_ : PairsAre h vs ps) (n : Nat), PairsAre h (vs.drop n) (ps.drop n)
  | _, _, H, 0 => H
  | _, _, .nil, _ + 1 => .nil
  | _, _, .cons _ H, n + 1 => PairsAre.drop H n
def pws (ps : List (Int × Int)) : List Int := ps.map fun q => q.1 ^ q.2.toNat
structure GoodP (q : Int × Int) : Prop where
  one : 1 ≤ q.1
  lim : Lim q.1
  nn : 0 ≤ q.2
  few : q.2 < 64
theorem pos_pws {ps : List (Int × Int)} (h : ∀ q ∈ ps, GoodP q) : Pos (pws ps) := by
  intro x hx
  obtain ⟨q, hq, rfl⟩ := List.mem_map.mp hx
  exact pow_ge (h q hq).one _
theorem pws_take (ps : List (Int × Int)) (n : Nat) : pws (ps.take n) = (pws ps).take n := List.map_take ..
theorem pws_drop (ps : List (Int × Int)) (n : Nat) : pws (ps.drop n) = (pws ps).drop n := List.map_drop ..
theorem slice_upto {vs : List Value} {k : Nat} {y : Int} (hy : y = (k : Int)) (hk : k ≤ vs.length) : slicePick vs.toArray none (some y) none = (vs.take k).toArray := by
  have e : sliceBounds none (some y) none vs.toArray.size = (((0 : Nat) : Int), (k : Int), 1) := by
    simp only [sliceBounds, Option.getD_none, show (1 : Int) > 0 by decide, if_true, if_neg (show ¬ (y < 0) by omega)]
    simp; omega
  rw [kmk_pick_nat _ e]; simp
theorem slice_from {vs : List Value} {k : Nat} {y : Int} (hy : y = (k : Int)) (hk : k ≤ vs.length) : slicePick vs.toArray (some y) none none = (vs.drop k).toArray := by
  have e : sliceBounds (some y) none none vs.toArray.size = ((k : Int), ((vs.length : Nat) : Int), 1) := by
    simp only [sliceBounds, Option.getD_none, show (1 : Int) > 0 by decide, if_true, if_neg (show ¬ (y < 0) by omega)]
    simp; omega
  rw [kmk_pick_nat _ e]
  have : vs.length - k = (vs.drop k).length := by rw [List.length_drop]
  rw [List.toList_toArray, this, List.take_length]
theorem lenB {prog : Program} {w : World} {A : Around} {E : Value → Shared → Prop} {s : Shared} {l : Addr} {vs : List Value} {k : Nat} {Q : Value → Shared → Prop} (hl : s.heap.IsList l vs.toArray) (e : vs.length = k) (hfit : (k : Int) < 2 ^ 63)
    (h : Q (.int (k : Int) (s.toks + 1)) { s with toks := s.toks + 1 + 1 }) : wpAny (model prog w) A (call (.builtin "len") [.ref l]) Q E s := by
  have e2 : vs.toArray.size = k := by rw [List.size_toArray, e]
  exact len_list hl (by rw [e2]; exact hfit) (by rw [e2]; exact h)
theorem pairs_one {h : Heap} {vs : List Value} {ps : List (Int × Int)} (H : PairsAre h vs ps) (hl : (ps.length : Int) = 1) : ∃ a p m t u, vs = [.ref a] ∧ ps = [(p, m)] ∧ IsTup h a [Value.int p t, .int m u].toArray := by
  cases H with
  | nil => simp at hl
  | cons t H =>
    cases H with
    | nil => exact ⟨_, _, _, _, _, rfl, rfl, t⟩
    | cons => simp at hl; omega
theorem one_pw {ps : List (Int × Int)} {p m : Int} (h : ps = [(p, m)]) : prd (pws ps) = p ^ m.toNat := by subst h; simp [pws, prd]
theorem one_good {ps : List (Int × Int)} {p m : Int} (h : ps = [(p, m)]) (hg : ∀ q ∈ ps, GoodP q) : GoodP (p, m) := hg _ (by rw [h]; exact .head _)
theorem good_take {ps : List (Int × Int)} (hg : ∀ q ∈ ps, GoodP q) (n : Nat) : ∀ q ∈ ps.take n, GoodP q := fun q hq => hg q (List.mem_of_mem_take hq)
theorem good_drop {ps : List (Int × Int)} (hg : ∀ q ∈ ps, GoodP q) (n : Nat) : ∀ q ∈ ps.drop n, GoodP q := fun q hq => hg q (List.mem_of_mem_drop hq)
theorem plim_take {ps : List (Int × Int)} (hg : ∀ q ∈ ps, GoodP q) (hl : Lim (prd (pws ps))) (n : Nat) : Lim (prd (pws (ps.take n))) := by rw [pws_take]; exact lim_take (pos_pws hg) hl n
theorem plim_drop {ps : List (Int × Int)} (hg : ∀ q ∈ ps, GoodP q) (hl : Lim (prd (pws ps))) (n : Nat) : Lim (prd (pws (ps.drop n))) := by rw [pws_drop]; exact lim_drop (pos_pws hg) hl n
theorem pprd_cut (ps : List (Int × Int)) (h : Nat) : prd (pws (ps.take h)) * prd (pws (ps.drop h)) = prd (pws ps) := by rw [pws_take, pws_drop, prd_cut]
set_option maxHeartbeats 8000000 in
theorem sp_pop {w : World} {mean : ExcName → Option Value} {mg mb : Str → Option Value} (n : Nat) : ∀ (s : Shared) (l : Addr) (vs : List Value) (ps : List (Int × Int)) (ww : Int) (u : Tok)
    (_X : (Mine.hd.heap_39 w.params).In s.heap) (_T : Top Mine.hd.view_39 (looseW Mine.hd.view_39 []) mean mg mb s.heap)
    (_hL : s.heap.IsList l vs.toArray) (_hP : PairsAre s.heap vs ps) (_hw : 3 ≤ ww) (_hw2 : ww ≤ 8) (_hn : ps.length ≤ n) (_hn2 : n ≤ 40) (_hg : ∀ q ∈ ps, GoodP q) (_hl : Lim (prd (pws ps))),
    Does w 95 (8 + n) [.ref l, .int ww u, .ref 123] s (LOut s.heap fun r => IsL (2 ^ ww.toNat) r (prd (pws ps))) := by
  induction n using Nat.strongRecOn with
  | _ n ih =>
    intro s l vs ps ww u X T hL hP hw hw2 hn hn2 hg hl
    unfold Does
    intro dp un gd A₀ base' outer Q E B hd hu hret
    have hB := base_ge (k := ww.toNat) (by omega)
    have hvl := hP.length
    have hH := half_of ps.length
    have hsz : vs.toArray.size ≤ sizeLine := by rw [List.size_toArray, hvl, sizeLine_eq]; omega
    k_with_none
    walk_at "sp_enter"
    (k_with "my len" => (
      (rename Fr _ _ _ _ => cF);
      (refine lenB (Fr.lst cF hL) hvl (by omega) ?_)))
    (k_with "my item" => (
      (rename Fr _ _ _ _ => cF);
      first
        | (refine item_litK (Fr.lst cF hL) (by decide) (by decide) (by rw [hvs]; rfl) ?_ (by with_unfolding_all rfl))
        | ((obtain ⟨a, p, m, t1, t2, hvs, hps, hT⟩ := pairs_one hP (by assumption));
           (have hgo := one_good hps hg);
           (have hpw := one_pw hps);
           (refine item_litK (Fr.lst cF hL) (by decide) (by decide) (by rw [hvs]; rfl) ?_ (by with_unfolding_all rfl));
           (have hT' := IsTup.keeps hT cF.keep))))
    (k_with "my slice" => (
      (rename Fr _ _ _ _ => cF); (rename News _ _ _ _ => cN);
      (first
        | (refine' kmk_slice cF cN (Fr.lst cF hL) IsPart.none (IsPart.int _ _) ?_ (by with_unfolding_all rfl) (by intro _; with_unfolding_all rfl) hsz; intro D' h' F' N' l1; rw [slice_upto hH.1 (by omega)] at N')
        | (refine' kmk_slice cF cN (Fr.lst cF hL) (IsPart.int _ _) IsPart.none ?_ (by with_unfolding_all rfl) (by intro _; with_unfolding_all rfl) hsz; intro D' h' F' N' l1; rw [slice_from hH.1 (by omega)] at N'));
      (try k_lt l1); (try k_sweep)))
    (k_with "my call" => (
      (rename Fr _ _ _ _ => cF); (rename News _ _ _ _ => cN);
      (refine' does_use (sp_power _ _ _ _ _ _ _ (Frag.In.keeps X cF.keep) (Top.keeps T cF.keep) hgo.one hgo.lim hgo.nn hgo.few (hpw ▸ hl) hw hw2) (by assumption) cF cN rfl (by walk_at "sp_d") (by walk_at "sp_d") ?_);
      walk_at "sp_lret"))
    (k_with "my call" => (
      (rename Fr _ _ _ _ => cF); (rename News _ _ _ _ => cN);
      (refine' does_use (sp_mul _ _ _ _ _ _ _ _ _ _ _ (Frag.In.keeps X cF.keep) (Top.keeps T cF.keep) (isListN cN (by k_mem)) (by assumption) (isListN cN (by k_mem)) (by assumption)
        (Nat.lt_of_le_of_lt (isL_len hB (by assumption) (by first | exact plim_take hg hl _ | exact plim_drop hg hl _)) (by decide)) (Nat.lt_of_le_of_lt (isL_len hB (by assumption) (by first | exact plim_take hg hl _ | exact plim_drop hg hl _)) (by decide)) hw hw2 (by assumption) (by assumption)) (by assumption) cF cN rfl (by walk_at "sp_d") (by walk_at "sp_d") ?_);
      walk_at "sp_lret"))
    (k_with "my call" => (
      (rename Fr _ _ _ _ => cF); (rename News _ _ _ _ => cN);
      (refine' does_use (ih (n - 1) (by omega) _ _ _ _ _ _ (Frag.In.keeps X cF.keep) (Top.keeps T cF.keep) (isListN cN (by k_mem)) (by first | exact (PairsAre.keeps hP cF.keep).take _ | exact (PairsAre.keeps hP cF.keep).drop _) hw hw2 (by first | (rw [List.length_take]; omega) | (rw [List.length_drop]; omega)) (by omega) (by first | exact good_take hg _ | exact good_drop hg _) (by first | exact plim_take hg hl _ | exact plim_drop hg hl _)) (by assumption) cF cN rfl (by walk_at "sp_d") (by walk_at "sp_d") ?_);
      walk_at "sp_lret"))
    k_steps
    · exact hret _ _ _ (Fr.keep (by assumption)) (lout (by assumption) (by k_mem) (IntsAre.cons _ _ .nil) (by
        have : ps = [] := List.eq_nil_of_length_eq_zero (by omega)
        rw [this]; exact isL_one hB))
    · exact hret _ _ _ (Fr.keep (by assumption)) (lout (by assumption) (by k_mem) (by assumption) (by rw [hpw]; assumption))
    · exact hret _ _ _ (Fr.keep (by assumption)) (lout (by assumption) (by k_mem) (by assumption) (by rw [← pprd_cut ps (ps.length / 2)]; assumption))
end Mine
namespace Mine
/-- a loop over a range by any step, its word by the turn's number -/
theorem rgS {prog : Program} {w : World} {A : Around} {E : Value → Shared → Prop} {s : Shared} {env : Env} {h₀ : Heap} {x : Str} {body : List Stmt} {Q : Flow → Shared → Prop}
    {σ : Type} {r : Addr} {a₀ b₀ c₁ : Int} {t₀ u₀ v₀ : Tok} {n : Nat} {m₀ : Str → Option Value} (Led : σ → List (Addr × Obj)) (ps : σ → List (Str × Value)) (Facts : σ → Prop) (stored : List Str) (P : Nat → σ → Prop) (c₀ : σ)
    (hh : A.handled = none) (hr : IsRange s.heap r a₀ b₀ c₁ t₀ u₀ v₀) (hsmall : Builtin.Range.small a₀ b₀ c₁ = true) (hn : Builtin.Range.rangeSize a₀ b₀ c₁ = (n : Int)) (F : Fr h₀ env.locals s.heap m₀) (N : News h₀ env.locals s.heap (Led c₀)) (hf : Facts c₀) (hk : ∀ p ∈ ps c₀, m₀ p.1 = some p.2) (hp : P 0 c₀)
    (turn : ∀ (c : σ) (i : Nat) t (u : Str → Option Value) h tk own, i < n → OwnOff own ((Led c₀).map (·.1)) → Facts c → P i c →
      Fr h₀ env.locals h (fun y => if y = x then some (.int (a₀ + (i : Int) * c₁) t) else kstB (fun z => if stored.contains z then u z else m₀ z) (ps c) y) → News h₀ env.locals h (Led c ++ own) →
      wpAny (model prog w) A (execs body env) (InvPostN h₀ env.locals (KstS Led ps Facts x stored m₀ (fun _ c => P (i + 1) c) []) own ((Led c₀).map (·.1)) { s with heap := h, toks := tk } Q) E { s with heap := h, toks := tk })
    (done : ∀ (c : σ) (u : Str → Option Value) h tk, Facts c → P n c → Fr h₀ env.locals h (fun y => if y = x then u y else kstB (fun z => if stored.contains z then u z else m₀ z) (ps c) y) → News h₀ env.locals h (Led c) → Q .next { s with heap := h, toks := tk }) :
    wpAny (model prog w) A (pyIter (.ref r)) (fun it s₂ => LoopAtV prog w A h₀ env x body Q E it s₂) E s := by
  refine wpAny_pyIter_range hr hsmall ?_
  have W : Walks prog w A s.heap.objs.size [s.heap.objs.size] [s.heap.objs.size] n (fun i v => i < n ∧ ∃ t, v = .int (a₀ + i * c₁) t)
      (fun i h => IsRangeIter h s.heap.objs.size (a₀ + (i : Nat) * c₁) ((n : Int) - (i : Nat)) c₁) := (Walks.range hh _ a₀ c₁ n).bound
  refine loop_invN (fun i m nx => KstS Led ps Facts x stored m₀ (fun _ c => P i c) [] m nx) W ?_ ?_ ?_ ?_ (by show IsRangeIter _ _ _ _ _; rw [hn]; simpa using Heap.get?_push_size _ rfl) (F.push _) (fun p hp => ⟨Heap.get?_push_of_some _ (N p hp).1, (N p hp).2⟩) ⟨c₀, rfl, hf, hk, fun _ _ _ _ => rfl, hp⟩ ?_ ?_
  · intro hm
    exact absurd F.ns.lt ((List.mem_singleton.mp hm) ▸ Nat.lt_irrefl _)
  · intro b hb
    rw [List.mem_singleton.mp hb]
    exact next_is_new F
  · intro p hp hI
    exact absurd (Heap.lt_size (N p hp).1) ((List.mem_singleton.mp hI) ▸ Nat.lt_irrefl _)
  · intro p hp hI
    exact absurd (Heap.lt_size (N p hp).1) ((List.mem_singleton.mp hI) ▸ Nat.lt_irrefl _)
  · rintro i v m₁ nx h tk own hi ⟨_, t, rfl⟩ _ hoff ⟨c, rfl, hf', h1, h2, hp'⟩ F₁ N₁
    exact turn c i t m₁ h tk own hi hoff hf' hp' (kst_fr h1 h2 F₁) N₁
  · rintro m₁ nx h tk ⟨c, rfl, hf', h1, h2, hp'⟩ F₁ N₁
    exact done c m₁ h tk hf' hp' (kst_frOut h1 h2 F₁) N₁
/-- two lists, one of ints, one of bools -/
theorem rg2 {prog : Program} {w : World} {A : Around} {E : Value → Shared → Prop} {s : Shared} {env : Env} {h₀ : Heap} {x : Str} {body : List Stmt} {Q : Flow → Shared → Prop}
    {r : Addr} {a₀ b₀ c₁ : Int} {t₀ u₀ v₀ : Tok} {m₀ : Str → Option Value} {news : List (Addr × Obj)} {G D : Addr} {ng nd : Nat} {rest : List (Addr × Obj)} {us₀ vs₀ : List Value} {F₀ : List Int} {L₀ : List Bool} (n : Nat) (stored : List Str) (P : Nat → List Int → List Bool → Prop)
    (hh : A.handled = none) (hr : IsRange s.heap r a₀ b₀ c₁ t₀ u₀ v₀) (hsmall : Builtin.Range.small a₀ b₀ c₁ = true) (hn : Builtin.Range.rangeSize a₀ b₀ c₁ = (n : Int)) (F : Fr h₀ env.locals s.heap m₀) (N : News h₀ env.locals s.heap news) (he : news = (G, listOf (List.toArray us₀) ng) :: (D, listOf (List.toArray vs₀) nd) :: rest)
    (hI : IntsAre us₀ F₀) (hB : LSm.BoolsAre vs₀ L₀) (hp : P 0 F₀ L₀)
    (turn : ∀ (ng : Nat) (us vs : List Value) (F : List Int) (B : List Bool) (i : Nat) (k : Int) t (u : Str → Option Value) h tk own, k = a₀ + (i : Int) * c₁ → i < n → OwnOff own (G :: D :: rest.map (·.1)) → IntsAre us F → LSm.BoolsAre vs B → P i F B →
      Fr h₀ env.locals h (fun y => if y = x then some (.int k t) else kstB (fun z => if stored.contains z then u z else m₀ z) [] y) → News h₀ env.locals h ((G, listOf (List.toArray us) ng) :: (D, listOf (List.toArray vs) nd) :: (rest ++ own)) →
      wpAny (model prog w) A (execs body env) (InvPostN h₀ env.locals (KstS (fun c : Nat × List Value × List Value × List Int × List Bool => (G, listOf (List.toArray c.2.1) c.1) :: (D, listOf (List.toArray c.2.2.1) nd) :: rest) (fun _ => []) (fun c => IntsAre c.2.1 c.2.2.2.1 ∧ LSm.BoolsAre c.2.2.1 c.2.2.2.2) x stored m₀ (fun _ c => P (i + 1) c.2.2.2.1 c.2.2.2.2) []) own (G :: D :: rest.map (·.1)) { s with heap := h, toks := tk } Q) E { s with heap := h, toks := tk })
    (done : ∀ (ng : Nat) (us vs : List Value) (F : List Int) (B : List Bool) (u : Str → Option Value) h tk, IntsAre us F → LSm.BoolsAre vs B → P n F B → Fr h₀ env.locals h (fun y => if y = x then u y else kstB (fun z => if stored.contains z then u z else m₀ z) [] y) → News h₀ env.locals h ((G, listOf (List.toArray us) ng) :: (D, listOf (List.toArray vs) nd) :: rest) → Q .next { s with heap := h, toks := tk }) :
    wpAny (model prog w) A (pyIter (.ref r)) (fun it s₂ => LoopAtV prog w A h₀ env x body Q E it s₂) E s := by
  subst he
  exact rgS (σ := Nat × List Value × List Value × List Int × List Bool) (fun c => (G, listOf (List.toArray c.2.1) c.1) :: (D, listOf (List.toArray c.2.2.1) nd) :: rest) (fun _ => []) (fun c => IntsAre c.2.1 c.2.2.2.1 ∧ LSm.BoolsAre c.2.2.1 c.2.2.2.2) stored (fun i c => P i c.2.2.2.1 c.2.2.2.2) (ng, us₀, vs₀, F₀, L₀) hh hr hsmall hn F N ⟨hI, hB⟩ (fun _ h => nomatch h) hp
    (fun c i t u h tk own hi ho hf hp F N => turn c.1 c.2.1 c.2.2.1 c.2.2.2.1 c.2.2.2.2 i _ t u h tk own rfl hi ho hf.1 hf.2 hp F N)
    (fun c u h tk hf hp F N => done c.1 c.2.1 c.2.2.1 c.2.2.2.1 c.2.2.2.2 u h tk hf.1 hf.2 hp F N)
theorem rg_end2 {h₀ : Heap} {x : Str} {stored : List Str} {m₀ : Str → Option Value} {G D : Addr} {ng nd : Nat} {rest : List (Addr × Obj)} (P : List Int → List Bool → Prop) {L : Addr} {m' : Str → Option Value} {own : List (Addr × Obj)} {s₁ : Shared} {h' : Heap} {tk : Nat} {us vs : List Value} {F' : List Int} {B' : List Bool}
    (F : Fr h₀ L h' m') (N : News h₀ L h' ((G, listOf (List.toArray us) ng) :: (D, listOf (List.toArray vs) nd) :: (rest ++ own))) (hI : IntsAre us F') (hB : LSm.BoolsAre vs B') (hr : ∀ z, z ≠ x → stored.contains z = false → m' z = m₀ z) (hp : P F' B') :
    InvEndN h₀ L (KstS (fun c : Nat × List Value × List Value × List Int × List Bool => (G, listOf (List.toArray c.2.1) c.1) :: (D, listOf (List.toArray c.2.2.1) nd) :: rest) (fun _ => []) (fun c => IntsAre c.2.1 c.2.2.2.1 ∧ LSm.BoolsAre c.2.2.1 c.2.2.2.2) x stored m₀ (fun _ c => P c.2.2.2.1 c.2.2.2.2) []) own (G :: D :: rest.map (·.1)) s₁ { s₁ with heap := h', toks := tk } :=
  kst_end (ng, us, vs, F', B') F N (fun x hx => by
    rcases List.mem_cons.mp hx with rfl | hx
    · exact .head _
    · rcases List.mem_cons.mp hx with rfl | hx
      · exact .tail _ (.head _)
      · exact .tail _ (.tail _ (List.mem_append_left _ hx)))
    (fun x hx => .tail _ (.tail _ (List.mem_append_right _ hx))) rfl ⟨hI, hB⟩ (fun _ h => nomatch h) (fun z h1 _ h3 => hr z h1 h3) hp
end Mine
namespace Mine
def mk (L : List Bool) (a c : Nat) : Nat → List Bool
  | 0 => L
  | i + 1 => (mk L a c i).set (a + i * c) false
def cnt (n m : Nat) : Nat := if m * m ≤ n then (n - m * m) / m + 1 else 0
def sv (n : Nat) : Nat → List Int × List Bool
  | 0 => ([], List.replicate (n + 1) true)
  | i + 1 => if (sv n i).2.getD (2 + i) false then ((sv n i).1 ++ [(2 + i : Int)], mk (sv n i).2 ((2 + i) * (2 + i)) (2 + i) (cnt n (2 + i))) else sv n i
def SvO (n i : Nat) (F : List Int) (B : List Bool) : Prop := F = (sv n i).1 ∧ B = (sv n i).2
def SvI (L : List Bool) (F₁ : List Int) (m j : Nat) (F : List Int) (B : List Bool) : Prop := F = F₁ ∧ B = mk L (m * m) m j
theorem flatB (k : Nat) : (List.replicate k [true]).flatten = List.replicate k true := by
  induction k with
  | zero => rfl
  | succ n ih => rw [List.replicate_succ, List.flatten_cons, ih]; rfl
theorem svO_start {n : Nat} {z : Int} (hz : z = (n : Int) + 1) : SvO n 0 [] (List.replicate z.toNat [true]).flatten := by
  have : z.toNat = n + 1 := by omega
  rw [flatB, this]
  exact ⟨rfl, rfl⟩
theorem svO_no {n i : Nat} {k : Int} {F : List Int} {B : List Bool} (h : SvO n i F B) (hk : k = 2 + (i : Int) * 1) (hb : B.getD k.toNat false = false) : SvO n (i + 1) F B := by
  have e : k.toNat = 2 + i := by omega
  obtain ⟨rfl, rfl⟩ := h
  rw [e] at hb
  unfold SvO
  rw [sv, if_neg (by rw [hb]; decide)]
  exact ⟨rfl, rfl⟩
theorem svO_yes {n i : Nat} {k : Int} {F F' : List Int} {B B' : List Bool} (h : SvO n i F B) (hk : k = 2 + (i : Int) * 1) (hb : B.getD k.toNat false = true) (hI : SvI B (F ++ [k]) (2 + i) (cnt n (2 + i)) F' B') : SvO n (i + 1) F' B' := by
  have e : k.toNat = 2 + i := by omega
  have e2 : k = (2 + i : Int) := by omega
  obtain ⟨rfl, rfl⟩ := h
  obtain ⟨rfl, rfl⟩ := hI
  rw [e] at hb
  unfold SvO
  rw [sv, if_pos hb, e2]
  exact ⟨rfl, rfl⟩
theorem svI_start {L : List Bool} {F : List Int} {m : Nat} : SvI L F m 0 F L := ⟨rfl, rfl⟩
theorem svI_step {L : List Bool} {F₁ F : List Int} {B : List Bool} {m j : Nat} {k a c : Int} (ha : a = (m : Int)) (hc : c = (m : Int)) (hk : k = a * a + (j : Int) * c) (h : SvI L F₁ m j F B) : SvI L F₁ m (j + 1) F (B.set k.toNat false) := by
  subst ha hc
  obtain ⟨rfl, rfl⟩ := h
  refine ⟨rfl, ?_⟩
  have : k.toNat = m * m + j * m := by
    rw [hk]
    have : ((m : Int) * m + (j : Int) * m) = ((m * m + j * m : Nat) : Int) := by simp
    rw [this]; exact Int.toNat_natCast _
  rw [this]; rfl
theorem cnt_size {n m : Nat} (hm : 0 < m) : Builtin.Range.rangeSize ((m : Int) * m) ((n : Int) + 1) (m : Int) = (cnt n m : Int) := by
  unfold Builtin.Range.rangeSize cnt
  rw [if_pos (by omega)]
  have e : ((m : Int) * m) = ((m * m : Nat) : Int) := by simp
  rw [e]
  generalize m * m = q
  by_cases h : q ≤ n
  · rw [if_pos (by omega), if_pos h]
    have : ((n : Int) + 1 - (q : Int) - 1) = ((n - q : Nat) : Int) := by omega
    rw [this]; simp
  · rw [if_neg (by omega), if_neg h]; rfl
theorem cnt_in {n m j : Nat} (hm : 0 < m) (h : j < cnt n m) : m * m + j * m ≤ n := by
  unfold cnt at h
  split at h
  · rename_i hq
    have h1 : j ≤ (n - m * m) / m := by omega
    have h2 : j * m ≤ (n - m * m) / m * m := Nat.mul_le_mul_right m h1
    have h3 : (n - m * m) / m * m ≤ n - m * m := Nat.div_mul_le_self ..
    omega
  · omega
theorem in_range {n m j : Nat} {k a c : Int} (hm : 0 < m) (ha : a = (m : Int)) (hc : c = (m : Int)) (hk : k = a * a + (j : Int) * c) (h : j < cnt n m) : 0 ≤ k ∧ k < (n : Int) + 1 := by
  subst ha hc
  have := cnt_in hm h
  have e : ((m : Int) * m + (j : Int) * m) = ((m * m + j * m : Nat) : Int) := by simp
  rw [e] at hk
  omega
theorem small_c {n m : Nat} (hm : 0 < m) (hm2 : m ≤ 100) (hn : n ≤ 100) : Builtin.Range.small ((m : Int) * m) ((n : Int) + 1) (m : Int) = true := by
  unfold Builtin.Range.small
  rw [cnt_size hm]
  have h1 : m * m ≤ 100 * 100 := Nat.mul_le_mul hm2 hm2
  have h2 : cnt n m ≤ 101 := by
    unfold cnt
    split
    · have : (n - m * m) / m ≤ n - m * m := Nat.div_le_self ..
      omega
    · omega
  have e : ((m : Int) * m) = ((m * m : Nat) : Int) := by simp
  rw [e]
  generalize m * m = q at *
  generalize cnt n m = z at *
  simp only [Builtin.Range.rangeFitsLong, Bool.and_eq_true, Bool.or_eq_true, decide_eq_true_eq, beq_iff_eq]
  rw [if_pos (by omega)]
  simp only [Bool.and_eq_true, decide_eq_true_eq]
  omega
theorem mk_len (L : List Bool) (a c : Nat) : ∀ i, (mk L a c i).length = L.length
  | 0 => rfl
  | i + 1 => by rw [mk, List.length_set, mk_len L a c i]
theorem sv_len (n : Nat) : ∀ i, (sv n i).1.length ≤ i ∧ (sv n i).2.length = n + 1
  | 0 => by simp [sv]
  | i + 1 => by
    have ih := sv_len n i
    rw [sv]
    split
    · simp only [List.length_append, List.length_singleton, mk_len]; omega
    · omega
theorem svO_len {n i : Nat} {F : List Int} {B : List Bool} (h : SvO n i F B) : F.length ≤ i ∧ B.length = n + 1 := by
  obtain ⟨rfl, rfl⟩ := h
  exact sv_len n i
theorem svI_len {L : List Bool} {F₁ F : List Int} {B : List Bool} {m j : Nat} (h : SvI L F₁ m j F B) : F.length = F₁.length ∧ B.length = L.length := by
  obtain ⟨rfl, rfl⟩ := h
  exact ⟨rfl, mk_len ..⟩
set_option maxHeartbeats 8000000 in
theorem sp_sieve {w : World} {mean : ExcName → Option Value} {mg mb : Str → Option Value} (s : Shared) (z : Int) (n : Nat) (t : Tok)
    (X : (Mine.hd.heap_39 w.params).In s.heap) (T : Top Mine.hd.view_39 (looseW Mine.hd.view_39 []) mean mg mb s.heap)
    (hz : z = (n : Int)) (hn : 1 ≤ n) (hn2 : n ≤ 64) :
    Does w 67 2 [.int z t] s (LOut s.heap fun r => r = (sv n (n - 1)).1) := by
  unfold Does
  intro dp un gd A₀ base' outer Q E B hd hu hret
  k_with_none
  walk_at "sp_enter"
  (k_with "my lmul" => (
    (rename Fr _ _ _ _ => cF); (rename News _ _ _ _ => cN);
    (refine' kbo_mul cF cN (isListN cN (by k_mem)) (LSm.BoolsAre.cons _ .nil) (by omega) (by omega) (by simp; omega) ?_);
    (intro D' h' F' N' l1 i1 n1 s1 e1 e2 e3 e4); clear s1 e1 e2 e3 e4; (try k_lt l1)))
  (k_with "my mul" => refine mul_int ?_ (IntMulOk.of_left (intBits_le_64 (by omega) (by omega))))
  (k_with "my iter" => first
    | ((rename Fr _ _ _ _ => lF'); (rename News _ _ _ _ => lN'); (rename IsRange _ _ _ _ _ _ _ _ => rgX);
       (with_unfolding_all refine' rg2 (x := Str.ofString "one") (n - 1) ["many"] (SvO n) (by rfl) rgX (small_one (by omega) (by omega) (by omega) (by omega)) (by rw [rangeSize_nat]; omega) lF' lN' rfl IntsAre.nil (by assumption) (svO_start (by omega)) ?ot ?od);
       (case' ot => intro oNg oUs oVs oF oB oi ok kT kU kH kTk kOwn kEq kLt kOff kI1 kI2 kInv kFr kNews; (have kMark := kstMark); (have kLen := svO_len kInv); (have hok : ok = ((2 + oi : Nat) : Int) := by omega));
       (case' od => intro oNg oUs oVs oF oB kU kH kTk kI1 kI2 kInv kFr kNews; (have kMark := kstMark); (have kLen := svO_len kInv));
       (all_goals (try k_fold)))
    | ((rename Fr _ _ _ _ => lF'); (rename News _ _ _ _ => lN'); (rename IsRange _ _ _ _ _ _ _ _ => rgX); (try simp only [List.push_toArray] at lN');
       (with_unfolding_all refine' rg2 (x := Str.ofString "many") (cnt n (2 + oi)) [] (SvI oB (oF ++ [ok]) (2 + oi)) (by rfl) rgX (by rw [hok, hz]; exact small_c (by omega) (by omega) (by omega)) (by rw [hok, hz]; exact cnt_size (by omega)) lF' lN' rfl (IntsAre.append (by assumption) (.cons _ _ .nil)) (by assumption) svI_start ?it ?id);
       (case' it => intro iNg iUs iVs iF iB ii ik kT kU kH kTk kOwn kEq kLt kOff kI1 kI2 kInv kFr kNews; (have kMark := kstMark); (have kLen2 := svI_len kInv); (have hin := in_range (by omega) hok hok kEq kLt));
       (case' id => intro iNg iUs iVs iF iB kU kH kTk kI1 kI2 kInv kFr kNews; (have kMark := kstMark); (have kLen2 := svI_len kInv));
       (all_goals (try k_fold))))
  k_steps
  all_goals first
    | exact hret _ _ _ (Fr.keep (by assumption)) (lout (by assumption) (by k_mem) (by assumption) kInv.1)
    | (k_dflt exact rg_end2 (SvI oB (oF ++ [ok]) (2 + oi) (ii + 1)) (by assumption) (by assumption) (by assumption) (by assumption) (fun z h1 _ => by simp [kstB, h1]) (svI_step hok hok kEq (by assumption)))
    | (k_dflt exact rg_end2 (SvO n (oi + 1)) (by assumption) (by assumption) (by assumption) (by assumption)
        (fun z h1 h3 => by
          simp only [List.contains_cons, List.contains_nil, Bool.or_false, beq_eq_false_iff_ne, ne_eq] at h3
          simp [kstB, h1, h3])
        (by first | exact svO_no (by assumption) (by assumption) (by assumption) | exact svO_yes (by assumption) (by assumption) (by assumption) (by assumption)))
end Mine
namespace Mine
theorem sv_in (n : Nat) : ∀ i, ∀ x ∈ (sv n i).1, 2 ≤ x ∧ x < 2 + (i : Int)
  | 0 => fun x hx => nomatch hx
  | i + 1 => fun x hx => by
    have ih := sv_in n i
    rw [sv] at hx
    split at hx
    · rcases List.mem_append.mp hx with h | h
      · have := ih x h; omega
      · have := List.mem_singleton.mp h; omega
    · have := ih x hx; omega
theorem sv_pos (n i : Nat) : Pos (sv n i).1 := fun x hx => by have := sv_in n i x hx; omega
set_option maxHeartbeats 8000000 in
theorem sp_primorial {w : World} {mean : ExcName → Option Value} {mg mb : Str → Option Value} (s : Shared) (z ww : Int) (n : Nat) (t u : Tok)
    (X : (Mine.hd.heap_39 w.params).In s.heap) (T : Top Mine.hd.view_39 (looseW Mine.hd.view_39 []) mean mg mb s.heap)
    (hz : z = (n : Int)) (hn : 1 ≤ n) (hn2 : n ≤ 40) (hw : 3 ≤ ww) (hw2 : ww ≤ 8) (hl : Lim (prd (sv n (n - 1)).1)) :
    Does w 102 60 [.int z t, .int ww u, .ref 123] s (LOut s.heap fun r => IsL (2 ^ ww.toNat) r (prd (sv n (n - 1)).1)) := by
  unfold Does
  intro dp un gd A₀ base' outer Q E B hd hu hret
  have hlen := (sv_len n (n - 1)).1
  k_with_none
  walk_at "sp_enter"
  (k_with "my call" => (
    (with_reducible show wpAny _ _ (call (Value.ref 74) _) _ _ _);
    (rename Fr _ _ _ _ => cF); (rename News _ _ _ _ => cN);
    (refine' does_use (sp_need _ _ _ (Frag.In.keeps X cF.keep) (Top.keeps T cF.keep) (by omega)) (by assumption) cF cN rfl (by walk_at "sp_d") (by walk_at "sp_d") ?_);
    walk_at "sp_nret"))
  (k_with "my call" => (
    (with_reducible show wpAny _ _ (call (Value.ref 67) _) _ _ _);
    (rename Fr _ _ _ _ => cF); (rename News _ _ _ _ => cN);
    (refine' does_use (sp_sieve _ _ n _ (Frag.In.keeps X cF.keep) (Top.keeps T cF.keep) hz hn (by omega)) (by assumption) cF cN rfl (by walk_at "sp_d") (by walk_at "sp_d") ?_);
    walk_at "sp_lret"))
  (k_with "my call" => (
    (with_reducible show wpAny _ _ (call (Value.ref 81) _) _ _ _);
    (rename Fr _ _ _ _ => cF); (rename News _ _ _ _ => cN);
    (refine' does_use (sp_poc 40 _ _ _ (sv n (n - 1)).1 _ _ (Frag.In.keeps X cF.keep) (Top.keeps T cF.keep) (isListN cN (by k_mem)) (by rename _ = (sv n (n - 1)).1 => e9; rw [← e9]; assumption) hw hw2 (by omega) (by omega) (sv_pos _ _) hl) (by assumption) cF cN rfl (by walk_at "sp_d") (by walk_at "sp_d") ?_);
    walk_at "sp_lret"))
  k_steps
  all_goals first
    | exact hret _ _ _ (Fr.keep (by assumption)) (lout (by assumption) (by k_mem) (by assumption) (by assumption))
end Mine
namespace Mine
/-- a loop over a list of ints of the call's own, that may make objects -/
theorem iterGL {prog : Program} {w : World} {A : Around} {E : Value → Shared → Prop} {s : Shared} {env : Env} {h₀ : Heap} {x : Str} {body : List Stmt} {Q : Flow → Shared → Prop}
    {l : Addr} {vs : List Value} {ns : List Int} {nn : Nat} {m₀ : Str → Option Value} {news : List (Addr × Obj)} (J : Nat → (Str → Option Value) → List (Addr × Obj) → Prop)
    (hh : A.handled = none) (hol : s.heap.get? l = some (listOf (List.toArray vs) nn)) (hl0 : h₀.get? l = none) (hlL : l ≠ env.locals) (hi : IntsAre vs ns) (F : Fr h₀ env.locals s.heap m₀) (N : News h₀ env.locals s.heap news) (hne : ∀ p ∈ news, p.1 ≠ l) (hj : J 0 m₀ news)
    (turn : ∀ i t m₁ news₁ h tk own, i < ns.length → OwnOff own (news₁.map (·.1)) → J i m₁ news₁ → Fr h₀ env.locals h (fun y => if y = x then some (.int (ns.getD i 0) t) else m₁ y) → News h₀ env.locals h (news₁ ++ own) →
      wpAny (model prog w) A (execs body env) (InvPostG h₀ env.locals (J (i + 1)) own { s with heap := h, toks := tk } Q) E { s with heap := h, toks := tk })
    (done : ∀ m₁ news₁ h tk, J ns.length m₁ news₁ → Fr h₀ env.locals h m₁ → News h₀ env.locals h news₁ → Q .next { s with heap := h, toks := tk }) :
    wpAny (model prog w) A (pyIter (.ref l)) (fun it s₂ => LoopAtV prog w A h₀ env x body Q E it s₂) E s := by
  have hls : s.heap.IsList l vs.toArray := ⟨_, hol, rfl, nn, rfl⟩
  have hneI : l ≠ s.heap.objs.size := Nat.ne_of_lt (Heap.lt_size hol)
  refine wpAny_pyIter_list hls ?_
  have W := Walks.list (prog := prog) (w := w) hh s.heap.objs.size l hneI vs.toArray
  have hlen : vs.toArray.size = ns.length := by simp [hi.length]
  rw [hlen] at W
  refine ⟨_, _, _, ns.length, _, _, m₀, news, (fun i m nx => (∀ p ∈ nx, p.1 ≠ l) ∧ J i m nx), rfl, W, ?_, ?_, ?_, ⟨⟨_, Heap.get?_push_size _ rfl, rfl, rfl⟩, hls.at fun o e => Heap.get?_push_of_some _ e⟩, F.push _, (fun p hp => ⟨Heap.get?_push_of_some _ (N p hp).1, (N p hp).2⟩), ⟨hne, hj⟩, ?_, ?_⟩
  · intro hm
    rcases List.mem_cons.mp hm with e | hm
    · exact absurd F.ns.lt (e ▸ Nat.lt_irrefl _)
    · exact hlL ((List.mem_singleton.mp hm).symm)
  · intro b hb
    rw [List.mem_singleton.mp hb]
    exact next_is_new F
  · intro p hp hI
    exact absurd (Heap.lt_size (N p hp).1) ((List.mem_singleton.mp hI) ▸ Nat.lt_irrefl _)
  · rintro i v m₁ news₁ s₁ own ⟨hh', tk', rfl⟩ hin hP ⟨hnl, hJ⟩ hoff hown _ hfp hst F₁ N₁
    have hI0 : h₀.get? s.heap.objs.size = none := next_is_new F
    obtain ⟨⟨oI, hoI, _⟩, hlst⟩ := id hst
    obtain ⟨oL, hoL, _⟩ := id hlst
    have hIown : (s.heap.objs.size, oI) ∈ own := hfp _ (List.mem_cons.mpr (.inl rfl)) hI0 _ hoI
    have hLown : (l, oL) ∈ own := hfp _ (List.mem_cons.mpr (.inr (List.mem_singleton.mpr rfl))) hl0 _ hoL
    have hsep : OwnOff own (news₁.map (·.1)) := by
      intro p hp b hb e
      obtain ⟨q, hq, rfl⟩ := List.mem_map.mp hb
      rcases List.mem_cons.mp (hown p hp) with h1 | h1
      · exact hoff q hq (List.mem_singleton.mpr (e ▸ h1))
      · exact hnl q hq (by rw [← e]; exact List.mem_singleton.mp h1)
    have hlt' : i < ns.length := hin
    obtain ⟨t, hx⟩ := hi.get i ns[i] (by simp [hlt'])
    have hg : ns.getD i 0 = ns[i] := by rw [List.getD_eq_getElem?_getD, List.getElem?_eq_getElem hlt']; rfl
    have hv : v = .int (ns.getD i 0) t := by
      have hP' : vs[i]? = some v := by simpa using hP
      rw [hx] at hP'; rw [hg]; exact (Option.some.inj hP').symm
    subst hv
    have N₂ : News h₀ env.locals hh' (news₁ ++ own) := fun p hp => N₁ p ((List.mem_append.mp hp).elim (fun h => List.mem_append.mpr (.inr h)) fun h => List.mem_append.mpr (.inl h))
    refine wpAny_mono (turn i t m₁ news₁ hh' tk' own hlt' hsep hJ F₁ N₂) (fun f s₂ p => ?_) fun _ _ e => e
    have fin : InvEndG h₀ env.locals (J (i + 1)) own { s with heap := hh', toks := tk' } s₂ → LoopStepU h₀ env.locals [s.heap.objs.size] own (fun m nx => (∀ p ∈ nx, p.1 ≠ l) ∧ J (i + 1) m nx) { s with heap := hh', toks := tk' } .next s₂ := by
      rintro ⟨h', tk, m', news', nx, e, F', N', hn, ho, ha, hm⟩
      refine ⟨rfl, h', tk, m', nx, e, F', fun p hp => N' p ((List.mem_append.mp hp).elim (ho p) (hn p)), fun p hp hq => ?_, fun p hp hq => ?_, hm⟩
      · exact ha _ hIown p.1 (List.mem_map.mpr ⟨p, hp, rfl⟩) (List.mem_singleton.mp hq).symm
      · exact ha _ hLown p.1 (List.mem_map.mpr ⟨p, hp, rfl⟩) hq.symm
    cases f with
    | ret v => exact .ret p
    | brk => exact .brk p
    | next => exact .next (fin p)
    | cont => exact .cont (fin p)
  · rintro h' tk m' news' F' N' _ ⟨_, hJ⟩
    exact done m' news' h' tk hJ F' N'
end Mine
namespace Mine
inductive PairsL (led : List (Addr × Obj)) : List Value → List (Int × Int) → Prop
  | nil : PairsL led [] []
  | cons {a : Addr} {p m : Int} {t u : Tok} {n : Nat} {vs : List Value} {ps : List (Int × Int)} : (a, ({ cls := .type "tuple", data := .seq [Value.int p t, .int m u].toArray n } : Obj)) ∈ led → PairsL led vs ps → PairsL led (.ref a :: vs) ((p, m) :: ps)
theorem PairsL.mono {led led' : List (Addr × Obj)} (hs : ∀ p ∈ led, p ∈ led') {vs : List Value} {ps : List (Int × Int)} (H : PairsL led vs ps) : PairsL led' vs ps := by
  induction H with
  | nil => exact .nil
  | cons h _ ih => exact .cons (hs _ h) ih
theorem PairsL.snoc {led : List (Addr × Obj)} {a : Addr} {p m : Int} {t u : Tok} {n : Nat} {vs : List Value} {ps : List (Int × Int)} (H : PairsL led vs ps) (h : (a, ({ cls := .type "tuple", data := .seq [Value.int p t, .int m u].toArray n } : Obj)) ∈ led) : PairsL led (vs ++ [.ref a]) (ps ++ [(p, m)]) := by
  induction H with
  | nil => exact .cons h .nil
  | cons h' _ ih => exact .cons h' ih
theorem PairsL.heap {led : List (Addr × Obj)} {h₀ h : Heap} {L : Addr} (N : News h₀ L h led) {vs : List Value} {ps : List (Int × Int)} (H : PairsL led vs ps) : PairsAre h vs ps := by
  induction H with
  | nil => exact .nil
  | cons h' _ ih => exact .cons ⟨_, (N _ h').1, rfl, _, rfl⟩ ih
/-- what binomial's loop keeps of one prime -/
def bex (N K p : Int) : Int := fxI p N - fxI p K - fxI p (N - K)
def bp (N K : Int) (l : List Int) : List (Int × Int) := l.filterMap fun p => if 0 < bex N K p then some (p, bex N K p) else none
theorem bp_len (N K : Int) (l : List Int) : (bp N K l).length ≤ l.length := List.length_filterMap_le ..
theorem take_snoc {l : List Int} {i : Nat} (h : i < l.length) : l.take (i + 1) = l.take i ++ [l.getD i 0] := by
  rw [List.take_add_one, List.getD_eq_getElem?_getD, List.getElem?_eq_getElem h]; rfl
theorem getD_mem {l : List Int} {i : Nat} (h : i < l.length) : l.getD i 0 ∈ l := by
  rw [List.getD_eq_getElem?_getD, List.getElem?_eq_getElem h]; exact List.getElem_mem h
theorem bp_yes {N K : Int} {l : List Int} {i : Nat} (h : i < l.length) (hp : 0 < bex N K (l.getD i 0)) : bp N K (l.take (i + 1)) = bp N K (l.take i) ++ [(l.getD i 0, bex N K (l.getD i 0))] := by
  rw [take_snoc h]; unfold bp; rw [List.filterMap_append, List.filterMap_cons, if_pos hp]; rfl
theorem bp_no {N K : Int} {l : List Int} {i : Nat} (h : i < l.length) (hp : ¬ 0 < bex N K (l.getD i 0)) : bp N K (l.take (i + 1)) = bp N K (l.take i) := by
  rw [take_snoc h]; unfold bp; rw [List.filterMap_append, List.filterMap_cons, if_neg hp]; simp
def BinJ (m₀ : Str → Option Value) (D : Addr) (N K : Int) (ns : List Int) (i : Nat) (m : Str → Option Value) (nx : List (Addr × Obj)) : Prop :=
  ∃ us g tl, nx = (D, listOf (List.toArray us) g) :: tl ∧ PairsL tl us (bp N K (ns.take i)) ∧ OwnOff tl [D] ∧ us.length ≤ i ∧ ∀ z, z ≠ Str.ofString "prime" → [Str.ofString "many"].contains z = false → m z = m₀ z
theorem bin_loop {prog : Program} {w : World} {A : Around} {E : Value → Shared → Prop} {s : Shared} {env : Env} {h₀ : Heap} {body : List Stmt} {Q : Flow → Shared → Prop}
    {l D : Addr} {vs : List Value} {ns : List Int} {nn g₀ : Nat} {m₀ : Str → Option Value} {news : List (Addr × Obj)} (Nb Kb : Int)
    (hh : A.handled = none) (N : News h₀ env.locals s.heap news) (F : Fr h₀ env.locals s.heap m₀) (hl : (l, listOf (List.toArray vs) nn) ∈ news) (hi : IntsAre vs ns) (hD : (D, listOf #[] g₀) ∈ news) (hDl : D ≠ l)
    (turn : ∀ (us : List Value) g tl i t (u : Str → Option Value) h tk own, i < ns.length → OwnOff own (D :: tl.map (·.1)) → PairsL tl us (bp Nb Kb (ns.take i)) → OwnOff tl [D] → us.length ≤ i →
      Fr h₀ env.locals h (fun y => if y = Str.ofString "prime" then some (.int (ns.getD i 0) t) else kstB (fun z => if [Str.ofString "many"].contains z then u z else m₀ z) [] y) → News h₀ env.locals h ((D, listOf (List.toArray us) g) :: (tl ++ own)) →
      wpAny (model prog w) A (execs body env) (InvPostG h₀ env.locals (BinJ m₀ D Nb Kb ns (i + 1)) own { s with heap := h, toks := tk } Q) E { s with heap := h, toks := tk })
    (done : ∀ (us : List Value) g tl (u : Str → Option Value) h tk, PairsL tl us (bp Nb Kb ns) → us.length ≤ ns.length → Fr h₀ env.locals h (fun y => if y = Str.ofString "prime" then u y else kstB (fun z => if [Str.ofString "many"].contains z then u z else m₀ z) [] y) → News h₀ env.locals h ((D, listOf (List.toArray us) g) :: tl) → Q .next { s with heap := h, toks := tk }) :
    wpAny (model prog w) A (pyIter (.ref l)) (fun it s₂ => LoopAtV prog w A h₀ env (Str.ofString "prime") body Q E it s₂) E s := by
  refine iterGL (news := [(D, listOf (List.toArray []) g₀)]) (BinJ m₀ D Nb Kb ns) hh (N _ hl).1 (N _ hl).2.2 (N _ hl).2.1 hi F (fun p hp => by rw [List.mem_singleton.mp hp]; exact N _ hD) (fun p hp => by rw [List.mem_singleton.mp hp]; exact hDl)
    ⟨[], g₀, [], rfl, .nil, (fun _ h => nomatch h), Nat.le_refl _, fun _ _ _ => rfl⟩ ?_ ?_
  · rintro i t m₁ news₁ h tk own hi' hoff ⟨us, g, tl, rfl, hP, hT, hL, hm⟩ F₁ N₁
    exact turn us g tl i t m₁ h tk own hi' hoff hP hT hL (kst_fr (fun _ h => nomatch h) (fun z h1 _ h3 => hm z h1 h3) F₁) N₁
  · rintro m₁ news₁ h tk ⟨us, g, tl, rfl, hP, hT, hL, hm⟩ F₁ N₁
    rw [List.take_length] at hP
    exact done us g tl m₁ h tk hP hL (kst_frOut (fun _ h => nomatch h) (fun z h1 _ h3 => hm z h1 h3) F₁) N₁
theorem bin_yes {m₀ m' : Str → Option Value} {D a : Addr} {N K x : Int} {ns : List Int} {i g tk : Nat} {h₀ h' : Heap} {L : Addr} {us : List Value} {tl own : List (Addr × Obj)} {t t' : Tok} {s₁ : Shared}
    (F : Fr h₀ L h' m') (Nw : News h₀ L h' ((a, ({ cls := .type "tuple", data := .seq #[Value.int (ns.getD i 0) t, .int x t'] } : Obj)) :: (D, listOf (us.toArray.push (.ref a)) (g + 1)) :: (tl ++ own)))
    (hl1 : @LT.lt Nat _ D a ∧ AllLt a (tl ++ own)) (hi : i < ns.length) (hoff : OwnOff own (D :: tl.map (·.1))) (hP : PairsL tl us (bp N K (ns.take i))) (hT : OwnOff tl [D]) (hL : us.length ≤ i) (hx : x = bex N K (ns.getD i 0)) (h0 : 0 < x)
    (hr : ∀ z, z ≠ Str.ofString "prime" → [Str.ofString "many"].contains z = false → m' z = m₀ z) :
    InvEndG h₀ L (BinJ m₀ D N K ns (i + 1)) own s₁ { s₁ with heap := h', toks := tk } := by
  subst hx
  have hlt := kst_ltOf hl1.2
  refine InvEndG.intro (nx := (D, listOf (List.toArray (us ++ [.ref a])) (g + 1)) :: (a, ({ cls := .type "tuple", data := .seq #[Value.int (ns.getD i 0) t, .int (bex N K (ns.getD i 0)) t'] } : Obj)) :: tl) F Nw
    ⟨us ++ [.ref a], g + 1, _, rfl, ?_, ?_, by simp; omega, hr⟩ ?_ ?_ ?_
  · rw [bp_yes hi h0]
    exact (hP.mono fun p hp => .tail _ hp).snoc (.head _)
  · intro p hp b hb
    rw [List.mem_singleton.mp hb]
    rcases List.mem_cons.mp hp with rfl | hp
    · exact fun e => absurd hl1.1 (by rw [show a = D from e]; exact Nat.lt_irrefl _)
    · exact hT p hp _ (.head _)
  · intro p hp b hb
    rcases List.mem_cons.mp hb with rfl | hb
    · exact hoff p hp _ (.head _)
    · rcases List.mem_cons.mp hb with rfl | hb
      · exact Nat.ne_of_lt (hlt p (List.mem_append_right _ hp))
      · exact hoff p hp _ (.tail _ hb)
  · intro p hp
    rcases List.mem_cons.mp hp with rfl | hp
    · rw [← List.push_toArray]; exact .tail _ (.head _)
    · rcases List.mem_cons.mp hp with rfl | hp
      · exact .head _
      · exact .tail _ (.tail _ (List.mem_append_left _ hp))
  · exact fun p hp => .tail _ (.tail _ (List.mem_append_right _ hp))
theorem bin_no {m₀ m' : Str → Option Value} {D : Addr} {N K x : Int} {ns : List Int} {i g tk : Nat} {h₀ h' : Heap} {L : Addr} {us : List Value} {tl own : List (Addr × Obj)} {s₁ : Shared}
    (F : Fr h₀ L h' m') (Nw : News h₀ L h' ((D, listOf (List.toArray us) g) :: (tl ++ own)))
    (hi : i < ns.length) (hoff : OwnOff own (D :: tl.map (·.1))) (hP : PairsL tl us (bp N K (ns.take i))) (hT : OwnOff tl [D]) (hL : us.length ≤ i) (hx : x = bex N K (ns.getD i 0)) (h0 : ¬ 0 < x)
    (hr : ∀ z, z ≠ Str.ofString "prime" → [Str.ofString "many"].contains z = false → m' z = m₀ z) :
    InvEndG h₀ L (BinJ m₀ D N K ns (i + 1)) own s₁ { s₁ with heap := h', toks := tk } := by
  subst hx
  refine InvEndG.intro (nx := (D, listOf (List.toArray us) g) :: tl) F Nw ⟨us, g, tl, rfl, by rw [bp_no hi h0]; exact hP, hT, by omega, hr⟩ hoff (fun p hp => ?_) fun p hp => .tail _ (List.mem_append_right _ hp)
  rcases List.mem_cons.mp hp with rfl | hp
  · exact .head _
  · exact .tail _ (List.mem_append_left _ hp)
theorem bex_of {N K p a b c : Int} (h1 : a = fxI p N) (h2 : b = fxI p K) (h3 : c = fxI p (N - K)) : a - b - c = bex N K p := by rw [h1, h2, h3]; rfl
set_option maxHeartbeats 8000000 in
theorem sp_binomial {w : World} {mean : ExcName → Option Value} {mg mb : Str → Option Value} (s : Shared) (N K ww : Int) (n : Nat) (t t' u : Tok)
    (X : (Mine.hd.heap_39 w.params).In s.heap) (T : Top Mine.hd.view_39 (looseW Mine.hd.view_39 []) mean mg mb s.heap)
    (hN : N = (n : Int)) (hn : 1 ≤ n) (hn2 : n ≤ 40) (hK : 0 ≤ K) (hKN : K ≤ N) (hw : 3 ≤ ww) (hw2 : ww ≤ 8)
    (hg : ∀ q ∈ bp N K (sv n (n - 1)).1, GoodP q) (hl : Lim (prd (pws (bp N K (sv n (n - 1)).1)))) :
    Does w 116 60 [.int N t, .int K t', .int ww u, .ref 123] s (LOut s.heap fun r => IsL (2 ^ ww.toNat) r (prd (pws (bp N K (sv n (n - 1)).1)))) := by
  unfold Does
  intro dp un gd A₀ base' outer Q E B hd hu hret
  have hlen := (sv_len n (n - 1)).1
  k_with_none
  walk_at "sp_enter"
  (k_with "my call" => (
    (with_reducible show wpAny _ _ (call (Value.ref 74) _) _ _ _);
    (rename Fr _ _ _ _ => cF); (rename News _ _ _ _ => cN);
    (refine' does_use (sp_need _ _ _ (Frag.In.keeps X cF.keep) (Top.keeps T cF.keep) (by omega)) (by assumption) cF cN rfl (by walk_at "sp_d") (by walk_at "sp_d") ?_);
    walk_at "sp_nret"))
  (k_with "my call" => (
    (with_reducible show wpAny _ _ (call (Value.ref 67) _) _ _ _);
    (rename Fr _ _ _ _ => cF); (rename News _ _ _ _ => cN);
    (refine' does_use (sp_sieve _ _ n _ (Frag.In.keeps X cF.keep) (Top.keeps T cF.keep) hN hn (by omega)) (by assumption) cF cN rfl (by walk_at "sp_d") (by walk_at "sp_d") ?_);
    walk_at "sp_lret"; (rename _ = (sv n (n - 1)).1 => e9); (rename IntsAre _ _ => i9); (rw [e9] at i9)))
  (k_with "my iter" => (
    (rename Fr _ _ _ _ => lF'); (rename News _ _ _ _ => lN'); (rename ∀ p ∈ _, Prod.fst p ≠ _ => hlt9);
    (with_unfolding_all refine' bin_loop N K (by rfl) lN' lF' ?h1 ?h2 ?h3 ?h4 ?bt ?bd);
    (case h1 => k_mem); (case h2 => assumption); (case h3 => k_mem); (case h4 => exact hlt9 _ (by k_mem));
    (case' bt => intro us g tl i kT kU kH kTk kOwn kLt kOff kP kTl kLen kFr kNews; (have kMark := kstMark));
    (case' bd => intro us g tl kU kH kTk kP kLen kFr kNews; (have kMark := kstMark));
    (all_goals (try k_fold))))
  (k_with "my call" => (
    (with_reducible show wpAny _ _ (call (Value.ref 109) _) _ _ _);
    (rename Fr _ _ _ _ => cF); (rename News _ _ _ _ => cN); (have hpr := sv_in n (n - 1) _ (getD_mem kLt));
    (refine' does_use (sp_fexp _ _ _ _ _ (Frag.In.keeps X cF.keep) (Top.keeps T cF.keep) (by omega) (by omega) (by omega) (by omega)) (by assumption) cF cN rfl (by walk_at "sp_d") (by walk_at "sp_d") ?_);
    walk_at "sp_iret"))
  (k_with "my call" => (
    (with_reducible show wpAny _ _ (call (Value.ref 95) _) _ _ _);
    (rename Fr _ _ _ _ => cF); (rename News _ _ _ _ => cN);
    (refine' does_use (sp_pop 40 _ _ _ (bp N K (sv n (n - 1)).1) _ _ (Frag.In.keeps X cF.keep) (Top.keeps T cF.keep) (isListN cN (by k_mem)) (PairsL.heap (fun p hp => cN p (.tail _ hp)) kP) hw hw2 (by have := bp_len N K (sv n (n - 1)).1; omega) (by omega) hg hl) (by assumption) cF cN rfl (by walk_at "sp_d") (by walk_at "sp_d") ?_);
    walk_at "sp_lret"))
  k_steps
  all_goals first
    | exact hret _ _ _ (Fr.keep (by assumption)) (lout (by assumption) (by k_mem) (by assumption) (by assumption))
    | (k_dflt exact bin_yes (by assumption) (by assumption) (by assumption) kLt kOff kP kTl kLen (bex_of (by assumption) (by assumption) (by assumption)) (by assumption)
        (fun z h1 h3 => by
          simp only [List.contains_cons, List.contains_nil, Bool.or_false, beq_eq_false_iff_ne, ne_eq] at h3
          simp [kstB, h1, h3]))
    | (k_dflt exact bin_no (by assumption) (by assumption) kLt kOff kP kTl kLen (bex_of (by assumption) (by assumption) (by assumption)) (by assumption)
        (fun z h1 h3 => by
          simp only [List.contains_cons, List.contains_nil, Bool.or_false, beq_eq_false_iff_ne, ne_eq] at h3
          simp [kstB, h1, h3]))
end Mine
namespace Mine
section
variable {prog : Program} {w : World} {A : Around} {E : Value → Shared → Prop}
/-- the loop of a comprehension whose name is a cell -/
theorem compLoop_cell {R : Result → Shared → Prop} {s : Shared} {elt iter : Expr} {x : Str} {px : PySem.Pos} {ifs : List Expr} {scope : Scope} {pos : PySem.Pos} {I D c : Addr} {fp wr : List Addr} {n : Nat} {P : Nat → Value → Prop} {St : Nat → Heap → Prop}
    {cenv : Env} {m : Str → Option Value} {v₀ : Option Value} (W : Walks prog w A I fp wr n P St) (p : Value → Bool) (F : Value → Value → Prop)
    (hk : cenv.scope.kind = .function) (hx : cenv.kindOf x = some .cell) (hcl : cenv.cells.lookup x = some c)
    (hDC : D ≠ cenv.locals) (hDc : D ≠ c) (hCc : cenv.locals ≠ c) (hDf : D ∉ fp) (hCf : cenv.locals ∉ fp) (hcf : c ∉ fp)
    (hst : St 0 s.heap) (hacc : s.heap.PlainList D #[]) (hn : s.heap.Ns cenv.locals m) (hc : s.heap.IsCell c v₀)
    (htests : ∀ i v s₂, P i v → s₂.heap.IsCell c (some v) → (∀ b o, b ∉ wr → b ≠ D → b ≠ c → s.heap.get? b = some o → s₂.heap.get? b = some o) →
      wpAny (model prog w) A (forIn ifs true fun c r => if r = true then do let ok ← isTrue c cenv (eval c cenv); pure (ForInStep.yield ok) else pure (ForInStep.yield r))
        (fun ok s₃ => ok = p v ∧ Keeps s₂ s₃) (notedBy (model prog w) A cenv fun e s' => R (.error e) s') s₂)
    (helt : ∀ i v s₂, P i v → p v = true → s₂.heap.IsCell c (some v) → (∀ b o, b ∉ wr → b ≠ D → b ≠ c → s.heap.get? b = some o → s₂.heap.get? b = some o) →
      wpAny (model prog w) A (eval elt cenv) (fun y s₃ => F v y ∧ Keeps s₂ s₃) (notedBy (model prog w) A cenv fun e s' => R (.error e) s') s₂)
    (hR : ∀ h' tk ys (vs : List Value), h'.Ns cenv.locals m → h'.IsList D ys → h'.PlainList D ys → vs.length = n → (∀ j v, vs[j]? = some v → P j v) → Paired F (vs.filter p) ys.toList →
      (∀ b o, b ∉ wr → b ≠ D → b ≠ c → s.heap.get? b = some o → h'.get? b = some o) → R (.ok .next) { s with heap := h', toks := tk })
    (hsz : n ≤ sizeLine) :
    codeAny (model prog w) A (.compLoop (.ListComp elt [⟨.Name x px, iter, ifs, 0⟩] scope pos) 0 (.ref I) (.ref D) cenv) R s := by
  refine codeAny_compLoop_tests
    (fun k s' => ∃ h' tk ys, ∃ vs : List Value, ∃ u, s' = { s with heap := h', toks := tk } ∧ St vs.length h' ∧ h'.PlainList D ys ∧ h'.Ns cenv.locals m ∧ h'.IsCell c u ∧ (∀ j v, vs[j]? = some v → P j v) ∧
      Paired F (vs.filter p) ys.toList ∧ vs.length ≤ n ∧ k = n + 1 - vs.length ∧
      (∀ b o, b ∉ wr → b ≠ D → b ≠ c → s.heap.get? b = some o → h'.get? b = some o)) ?_ (n + 1)
    ⟨s.heap, s.toks, #[], [], v₀, rfl, hst, hacc, hn, hc, by simp, by simpa using Paired.nil, Nat.zero_le _, rfl, fun _ _ _ _ _ e => e⟩
  rintro k s' ⟨H, tk, ys, vs, u, rfl, hst', hacc', hn', hc', hP, hF, hi, rfl, hkp⟩
  have hCw : cenv.locals ∉ wr := fun h => hCf (W.sub _ h)
  have hDw : D ∉ wr := fun h => hDf (W.sub _ h)
  have hcw : c ∉ wr := fun h => hcf (W.sub _ h)
  by_cases hlt : vs.length < n
  · refine W.item vs.length _ _ _ hlt hst' fun v h₁ tk₁ hPv hst₁ hk₁ => ?_
    obtain ⟨oc, hoc, hdc⟩ := hc'
    refine wpAny_assign_Name (wpAny_storeName_cell (v₀ := u) hk hx hcl ⟨oc, hk₁ _ _ hcw hoc, hdc⟩ (fun h₂ hc₂ hs₂ => ?_))
    have up₂ : ∀ b o, b ≠ c → b ∉ wr → H.get? b = some o → h₂.get? b = some o := fun b o hbC hbf e => hs₂.extBut b o hbC (hk₁ b o hbf e)
    have hst₂ : St (vs.length + 1) h₂ := W.frame _ _ _ hst₁ fun b hb o e => hs₂.extBut b o (fun h => hcf (h ▸ hb)) e
    have hn₂ : h₂.Ns cenv.locals m := hn'.at' fun o e => up₂ _ o hCc hCw e
    refine wpAny_mono (htests vs.length v _ hPv hc₂ (fun b o hbf hbD hbc e => up₂ b o hbc hbf (hkp b o hbf hbD hbc e))) (fun ok s₃ h₃ => ?_) fun _ _ e => e
    obtain ⟨rfl, h₃, tk₃, rfl, hk₃⟩ := h₃
    have hst₃ : St (vs.length + 1) h₃ := W.frame _ _ _ hst₂ fun b _ o e => hk₃ b o e
    have hacc₃ : h₃.PlainList D ys := hacc'.at fun o e => hk₃ _ o (up₂ D o hDc hDw e)
    have hn₃ : h₃.Ns cenv.locals m := hn₂.keeps hk₃
    have hc₃ : h₃.IsCell c (some v) := hc₂.keeps hk₃
    have hP' : ∀ j u, (vs ++ [v])[j]? = some u → P j u := fun j u hj => by
      rcases Nat.lt_trichotomy j vs.length with h | h | h
      · exact hP j u (by rwa [List.getElem?_append_left h] at hj)
      · subst h; simp at hj; subst hj; exact hPv
      · have hnone : (vs ++ [v])[j]? = none := List.getElem?_eq_none (by rw [List.length_append, List.length_singleton]; omega)
        rw [hnone] at hj; cases hj
    cases hpv : p v with
    | false =>
      simp only [Bool.false_eq_true, if_false]
      refine ⟨n + 1 - (vs.length + 1), by omega, h₃, tk₃, ys, vs ++ [v], some v, rfl, by simpa using hst₃, hacc₃, hn₃, hc₃, hP', ?_, (by rw [List.length_append, List.length_singleton]; exact hlt), (by rw [List.length_append, List.length_singleton]), fun b o hbf hbD hbc e => hk₃ b o (up₂ b o hbc hbf (hkp b o hbf hbD hbc e))⟩
      rw [List.filter_append]; simpa [hpv] using hF
    | true =>
      simp only [if_true]
      refine wpAny_mono (helt vs.length v _ hPv hpv hc₃ (fun b o hbf hbD hbc e => hk₃ b o (up₂ b o hbc hbf (hkp b o hbf hbD hbc e)))) (fun y s₄ h₄ => ?_) fun _ _ e => e
      obtain ⟨hFy, h₄, tk₄, rfl, hk₄⟩ := h₄
      have hys : ys.size ≤ sizeLine := by
        have e1 := hF.length
        have e2 : (vs.filter p).length ≤ vs.length := List.length_filter_le _ _
        have e4 : ys.toList.length = ys.size := by simp
        omega
      refine wpAny_list_append_plain (hsz := hys) (hacc₃.at fun o e => hk₄ _ o e) fun h₅ hl₅ hs₅ => ?_
      obtain ⟨oc3, hoc3, hdc3⟩ := hc₃
      refine ⟨n + 1 - (vs.length + 1), by omega, h₅, tk₄, ys.push y, vs ++ [v], some v, rfl, ?_, hl₅, (hn₃.keeps hk₄).sameBut hs₅ (Ne.symm hDC), ⟨oc3, hs₅.extBut _ _ (Ne.symm hDc) (hk₄ _ _ hoc3), hdc3⟩, hP', ?_, (by rw [List.length_append, List.length_singleton]; exact hlt), (by rw [List.length_append, List.length_singleton]),
        fun b o hbf hbD hbc e => hs₅.extBut b o hbD (hk₄ b o (hk₃ b o (up₂ b o hbc hbf (hkp b o hbf hbD hbc e))))⟩
      · have := W.frame _ _ h₅ hst₃ fun b hb o e => hs₅.extBut b o (fun h => hDf (h ▸ hb)) (hk₄ b o e)
        simpa using this
      · rw [List.filter_append]; simpa [hpv] using Paired.snoc hF hFy
  · have hin : vs.length = n := by omega
    refine W.done _ _ _ (hin ▸ hst') fun h₁ tk₁ hk₁ => ?_
    exact hR h₁ tk₁ ys vs (hn'.at' fun o e => hk₁ _ o hCw e) (hacc'.at fun o e => hk₁ _ o hDw e).isList (hacc'.at fun o e => hk₁ _ o hDw e) hin hP hF fun b o hbf hbD hbc e => hk₁ b o hbf (hkp b o hbf hbD hbc e)
end
end Mine
namespace Mine
open PyProof.Rows
def pr (k : Nat) : Bool := (List.range (k - 2)).all fun j => !((k : Int).fmod (2 + (j : Int) * 1) == 0)
def pv (k : Nat) (v : Value) : Bool := match v with | .int x _ => (k : Int).fmod x == 0 | _ => false

theorem pr_filter {k : Nat} {vs : List Value} (hl : vs.length = k - 2) (hP : ∀ (j : Nat) (v : Value), vs[j]? = some v → ∃ t, v = .int (2 + (j : Int) * 1) t) : ((vs.filter (pv k)).length = 0) ↔ pr k = true := by
  rw [List.length_eq_zero_iff, List.filter_eq_nil_iff]
  unfold pr
  rw [List.all_eq_true]
  constructor
  · intro h j hj
    have hj' : j < vs.length := by rw [hl]; simpa using hj
    obtain ⟨t, e⟩ := hP j vs[j] (by simp [hj'])
    have := h vs[j] (List.getElem_mem _)
    rw [e] at this
    simpa [pv] using this
  · intro h v hv
    obtain ⟨j, hj, rfl⟩ := List.mem_iff_getElem.mp hv
    obtain ⟨t, e⟩ := hP j vs[j] (by simp [hj])
    have := h j (by rw [List.mem_range, ← hl]; exact hj)
    rw [e]
    simpa [pv] using this

section
variable {prog : Program} {w : World} {A : Around} {E : Value → Shared → Prop}

theorem range2_new {env : Env} {s : Shared} {k : Nat} {t : Tok} {p1 p2 p3 p4 : PySem.Pos} {q1 : Nat} {Q : Value → Shared → Prop}
    (hone : ∀ s', Keeps s s' → ∀ (Q : Value → Shared → Prop), Q (.int (k : Int) t) s' → wpAny (model prog w) A (eval (.Name "one" p3) env) Q E s')
    (hr : ∀ (Q : Value → Shared → Prop), Q (.type "range") s → wpAny (model prog w) A (eval (.Name "range" p1) env) Q E s)
    (h : ∀ r h' tk x1 x2 x3, IsRange h' r 2 (k : Int) 1 x1 x2 x3 → (∀ b o, s.heap.get? b = some o → h'.get? b = some o) → Q (.ref r) { s with heap := h', toks := tk }) :
    wpAny (model prog w) A (eval (.Call (.Name "range" p1) [.Constant (.int 2) q1 p2, .Name "one" p3] [] p4) env) Q E s := by
  refine Call_ (hr _ ?_)
  refine Pv.callWith_type1 ?_
  refine args_cons (wpAny_Constant_int ?_)
  refine args_cons (hone _ ⟨_, _, rfl, fun _ _ e => e⟩ _ ?_)
  refine args_nil ?_
  refine call_range_2 ?_
  exact h _ _ _ _ _ _ (IsRange.new ..) fun b o e => Heap.get?_push_of_some _ e

theorem inner_test {env : Env} {c : Addr} {s : Shared} {k : Nat} {t : Tok} {p1 p2 p3 p4 p5 p6 p7 p8 p9 pa pb pc pd : PySem.Pos} {q1 q2 : Nat} {Q : Bool → Shared → Prop} {whole}
    (hh : A.handled = none) (hu : A.units < cLine)
    (hkd : env.scope.kind = .function) (hone : env.kindOf "one" = some .cell) (hcl : env.cells.lookup ("one" : Str) = some c)
    (hc : s.heap.IsCell c (some (.int (k : Int) t))) (hk : k ≤ 1000)
    (hr : ∀ (Q : Value → Shared → Prop), Q (.type "range") s → wpAny (model prog w) A (eval (.Name "range" p1) env) Q E s)
    (h : ∀ h' tk, (∀ b o, s.heap.get? b = some o → h'.get? b = some o) → Q (pr k) { s with heap := h', toks := tk }) :
    wpAny (model prog w) A (isTrue (.Compare (.ListComp (.Name "less" p5) [⟨.Name "less" p6, .Call (.Name "range" p1) [.Constant (.int 2) q1 p2, .Name "one" p3] [] p4,
      [.Compare (.BinOp (.Name "one" p7) .Mod (.Name "less" p8) p9) [.Eq] [.Constant (.int 0) q2 pa] pb], 0⟩]
      { kind := .function, names := [(".0", .local), ("less", .local), ("one", .free)], isGenerator := false, isCoroutine := false, more := [] } pc) [.Eq] [.List [] pd] whole) env
      (eval (.Compare (.ListComp (.Name "less" p5) [⟨.Name "less" p6, .Call (.Name "range" p1) [.Constant (.int 2) q1 p2, .Name "one" p3] [] p4,
      [.Compare (.BinOp (.Name "one" p7) .Mod (.Name "less" p8) p9) [.Eq] [.Constant (.int 0) q2 pa] pb], 0⟩]
      { kind := .function, names := [(".0", .local), ("less", .local), ("one", .free)], isGenerator := false, isCoroutine := false, more := [] } pc) [.Eq] [.List [] pd] whole) env)) Q E s := by
  refine wpAny_isTrue_Compare1 ?_
  have hrel : relabel { kind := .function, names := [(".0", .local), ("less", .local), ("one", .free)], isGenerator := false, isCoroutine := false, more := [] } env
      = { kind := .function, names := [(".0", .local), ("less", .local), ("one", .cell)], isGenerator := false, isCoroutine := false, more := [] } := by
    unfold relabel
    simp [hkd, hone]
  refine wpAny_ListComp_free (cl := [("one", c)]) (pv k) (fun v y => y = v) ?_ (by decide) rfl (by decide) (by decide) ?_
  · unfold closureFor cellOf
    simp [hcl]
  refine range2_new (k := k) (t := t) (fun s' ⟨h', tk, e, hkp⟩ Q hQ => wpAny_Name (wpAny_loadName_cell hkd hone hcl ?_ hQ)) hr ?_
  · subst e; exact hc.keeps hkp
  intro r h1 tk1 x1 x2 x3 hR hk1
  have hrs : Builtin.Range.rangeSize 2 (k : Int) 1 = ((k - 2 : Nat) : Int) := by rw [rangeSize_one]; split <;> omega
  refine wpAny_pyIter_range hR ?_ ?_
  · exact small_one (by decide) (by decide) (by omega) (by omega)
  rw [hrs]
  refine ⟨_, _, _, k - 2, _, _, rfl, Walks.range hh _ 2 1 (k - 2), ?_, ?_, ?_, ?_, ?_⟩
  · exact Nat.le_trans (show k - 2 ≤ 1000 by omega) (by decide)
  · show IsRangeIter _ _ _ _ _
    have e := Heap.get?_push_size (h := h1) (o := { cls := .type "range_iterator", data := .fields #[rawInt 2, rawInt ((k - 2 : Nat) : Int), rawInt 1] }) rfl
    simpa using e
  · intro b hb
    rw [List.mem_singleton] at hb
    subst hb
    dsimp only
    rw [Heap.size_push]
    exact Nat.lt_succ_self _
  · have cell : ∀ s₃ : Shared, (∀ b o, b ∉ [h1.objs.size] → (h1.push { cls := .type "range_iterator", data := .fields #[rawInt 2, rawInt ((k - 2 : Nat) : Int), rawInt 1] }).get? b = some o → s₃.heap.get? b = some o) → s₃.heap.IsCell c (some (.int (k : Int) t)) := by
      intro s₃ h3
      obtain ⟨oc, ho, hd⟩ := hc
      have e1 := hk1 _ _ ho
      exact ⟨oc, h3 _ _ (by rw [List.mem_singleton]; exact Nat.ne_of_lt (Heap.lt_size e1)) (Heap.get?_push_of_some _ e1), hd⟩
    refine ⟨fun C i v s₃ m₃ E' hC hP hns hm hk3 htk => ?_, fun C i v s₃ m₃ E' hC hP hpv hns hm hk3 htk => ?_⟩
    · obtain ⟨tv, rfl⟩ := hP
      refine wpAny_tests_one (wpAny_isTrue_Compare1 ?_)
      refine wpAny_BinOp (wpAny_Name (wpAny_loadName_cell (c := c) ?_ ?_ ?_ (cell s₃ hk3) ?_))
      · rfl
      · show List.lookup _ (relabel _ env).names = _
        rw [hrel]; rfl
      · rfl
      refine wpAny_Name (wpAny_loadName_local ?_ ?_ hns hm ?_)
      · rfl
      · show List.lookup _ (relabel _ env).names = _
        rw [hrel]; rfl
      refine mod_int' (by omega) ?_
      refine wpAny_Constant_int (eq_int (wpAny_truthy_bool ⟨rfl, _, _, rfl, fun _ _ e => e⟩))
    · refine wpAny_Name (wpAny_loadName_local ?_ ?_ hns hm ⟨rfl, _, _, rfl, fun _ _ e => e⟩)
      · rfl
      · show List.lookup _ (relabel _ env).names = _
        rw [hrel]; rfl
  · intro D h' tk ys vs hD hl hpl hlen hP hF hk3
    have hcnt : ys.size = (vs.filter (pv k)).length := by rw [hF.length]; simp
    have hpr := pr_filter hlen hP
    have hks : ∀ b o, s.heap.get? b = some o → h'.get? b = some o := fun b o e => by
      have e1 := hk1 _ _ e
      exact hk3 _ _ (by rw [List.mem_singleton]; exact Nat.ne_of_lt (Heap.lt_size e1)) (Heap.get?_push_of_some _ e1)
    refine List_ (args_nil ?_)
    refine wpAny_newObj_type ?_
    have hl2 : ∀ o, Heap.IsList (h'.push o) D ys := fun o => hl.at fun o e => Heap.get?_push_of_some _ e
    have hb2 : Heap.IsList (h'.push { cls := .type "list", data := .seq ([] : List Value).toArray }) h'.objs.size #[] := ⟨_, Heap.get?_push_size _ rfl, rfl, _, rfl⟩
    cases hb : pr k with
    | true =>
      rw [hb] at h hpr
      have h0 : ys.size = 0 := by rw [hcnt]; exact hpr.mpr rfl
      refine SeqAt.eq_listAt (e := fun _ => true) (hl2 _) hb2 (by rw [h0]; rfl) hu ?_ ?_
      · intro j h1; omega
      · rw [h0]
        exact wpAny_truthy_bool (h _ _ fun b o e => Heap.get?_push_of_some _ (hks b o e))
    | false =>
      rw [hb] at h hpr
      have h0 : ys.size ≠ 0 := by rw [hcnt]; intro e; exact absurd (hpr.mp e) (by decide)
      refine SeqAt.eq_list_lengthsAt (hl2 _) hb2 (by simpa using h0) hu ?_
      exact wpAny_truthy_bool (h _ _ fun b o e => Heap.get?_push_of_some _ (hks b o e))
end
end Mine
namespace Mine
open PyProof.Rows
def lpr (n : Nat) : List Int := ((List.range (n - 1)).filter fun j => pr (j + 2)).map fun j => ((j + 2 : Nat) : Int)
def qv (v : Value) : Bool := match v with | .int x _ => pr x.toNat | _ => false

theorem lpr_ints : ∀ {vs ys : List Value}, Paired (fun v y => y = v) (vs.filter qv) ys → ∀ (a n : Nat), vs.length = n → (∀ (j : Nat) (v : Value), vs[j]? = some v → ∃ t, v = .int (((a + j : Nat)) : Int) t) →
    IntsAre ys (((List.range' a n).filter pr).map fun j => ((j : Nat) : Int))
  | [], ys, h, a, n, hl, hP => by
    have : n = 0 := by simpa using hl.symm
    subst this
    cases h
    exact IntsAre.nil
  | v :: vs, ys, h, a, n, hl, hP => by
    obtain ⟨m, rfl⟩ : ∃ m, n = m + 1 := ⟨vs.length, by rw [← hl]; rfl⟩
    have hl' : vs.length = m := by simpa using hl
    obtain ⟨t, ev⟩ := hP 0 v rfl
    have hP' : ∀ (j : Nat) (v : Value), vs[j]? = some v → ∃ t, v = .int (((a + 1 + j : Nat)) : Int) t := fun j u hj => by
      obtain ⟨t, e⟩ := hP (j + 1) u (by simpa using hj)
      exact ⟨t, by rw [e]; congr 2; omega⟩
    rw [List.range'_succ, List.filter_cons]
    rw [List.filter_cons] at h
    have hq : qv v = pr a := by rw [ev]; rfl
    rw [hq] at h
    cases hpa : pr a with
    | true =>
      rw [hpa] at h
      simp only [if_true] at h ⊢
      cases h with
      | cons h1 h2 =>
        subst h1
        rw [ev, List.map_cons]
        exact IntsAre.cons _ _ (lpr_ints h2 (a + 1) m hl' hP')
    | false =>
      rw [hpa] at h
      simp only [Bool.false_eq_true, if_false] at h ⊢
      exact lpr_ints h (a + 1) m hl' hP'

theorem lpr_range' (n : Nat) : lpr n = ((List.range' 2 (n - 1)).filter pr).map fun j => ((j : Nat) : Int) := by
  unfold lpr
  rw [List.range'_eq_map_range, List.filter_map, List.map_map]
  congr 1
  · funext j; simp; omega
  · congr 1; funext j; simp [Nat.add_comm]

def LcIt (h₀ : Heap) (n : Nat) (Q : Value → Shared → Prop) (xv : Value) (s₁ : Shared) : Prop :=
  ∃ r x1 x2 x3, xv = .ref r ∧ IsRange s₁.heap r 2 ((n : Int) + 1) 1 x1 x2 x3 ∧ Keep h₀ s₁.heap ∧
      ∀ h' tk D (ys : Array Value), s₁.heap.get? D = none → h'.PlainList D ys → IntsAre ys.toList (lpr n) → (∀ b o, s₁.heap.get? b = some o → h'.get? b = some o) → Q (.ref D) { s₁ with heap := h', toks := tk }
section
variable {prog : Program} {w : World} {A : Around} {E : Value → Shared → Prop}
theorem outer_lc {h₀ : Heap} {env : Env} {s : Shared} {n : Nat} {iter : Expr} {p0 p1 p2 p3 p4 p5 p6 p7 p8 p9 pa pb pc pd pe pf : PySem.Pos} {q1 q2 : Nat} {Q : Value → Shared → Prop} {whole}
    (hh : A.handled = none) (hu : A.units < cLine) (hn : n ≤ 900)
    (hs : ∀ x, foldedSetIterable iter env x = pure x)
    (hr : ∀ (cenv : Env) (s' : Shared) (Q E : Value → Shared → Prop), cenv.globals = env.globals → cenv.builtins = env.builtins → cenv.scope.kind = .function → cenv.kindOf "range" = some .globalImplicit →
      Keep h₀ s'.heap → Q (.type "range") s' → wpAny (model prog w) A (eval (.Name "range" p1) cenv) Q E s')
    (h : wpAny (model prog w) A (eval iter env) (LcIt h₀ n Q) E s) :
    wpAny (model prog w) A (eval (.ListComp (.Name "one" p0) [⟨.Name "one" pe, iter, [.Compare (.ListComp (.Name "less" p5) [⟨.Name "less" p6, .Call (.Name "range" p1) [.Constant (.int 2) q1 p2, .Name "one" p3] [] p4,
      [.Compare (.BinOp (.Name "one" p7) .Mod (.Name "less" p8) p9) [.Eq] [.Constant (.int 0) q2 pa] pb], 0⟩]
      { kind := .function, names := [(".0", .local), ("less", .local), ("one", .free)], isGenerator := false, isCoroutine := false, more := [] } pc) [.Eq] [.List [] pd] whole], 0⟩]
      { kind := .function, names := [(".0", .local), ("one", .cell), ("range", .globalImplicit)], isGenerator := false, isCoroutine := false, more := [] } pf) env) Q E s := by
  rw [eval_ListComp]
  refine wpAny_comprehension_free (use := none) rfl hs (closureFor_none (by decide)) rfl (by decide) ?_
  refine wpAny_mono h (fun xv s₁ h₁ => ?_) fun _ _ e => e
  obtain ⟨r, x1, x2, x3, rfl, hR, hk₁, hQ⟩ := h₁
  have hrs : Builtin.Range.rangeSize 2 ((n : Int) + 1) 1 = ((n - 1 : Nat) : Int) := by rw [rangeSize_one]; split <;> omega
  refine wpAny_pyIter_range hR (small_one (by decide) (by decide) (by omega) (by omega)) ?_
  rw [hrs]
  refine wpAny_newObj_type ?_
  unfold newFunctionEnv
  simp only [Option.isSome_some, if_true]
  refine wpAny_bind (wpAny_alloc ?_)
  refine wpAny_bind (wpAny_layCells _ (fun name kind cells => by cases hkc : kind == NameKind.cell <;> simp [hkc]) _ _ _ _ ?_)
  dsimp only
  refine wpAny_bind (wpAny_pure (wpAny_pure ?_))
  generalize hI : s₁.heap.objs.size = I
  generalize hH1 : s₁.heap.push { cls := .type "range_iterator", data := .fields #[rawInt 2, rawInt ((n - 1 : Nat) : Int), rawInt 1] } = H1
  generalize hH2 : H1.push { cls := .type "list", dict := none, data := .seq ([] : List Value).toArray } = H2
  generalize hH3 : H2.push { cls := .type "dict", data := .dict #[] } = H3
  have hH4 : pushCells H3 [((".0" : Str), .local), (("one" : Str), .cell), (("range" : Str), .globalImplicit)] = H3.push { cls := .type "cell", data := .cell none } := rfl
  have hcf : cellsFrom H3.objs.size [((".0" : Str), .local), (("one" : Str), .cell), (("range" : Str), .globalImplicit)] [] = [(("one" : Str), H3.objs.size)] := rfl
  rw [hH4, hcf]
  generalize hH4' : H3.push { cls := .type "cell", data := .cell none } = H4
  have z1 : H1.objs.size = I + 1 := by rw [← hH1, Heap.size_push, hI]
  have z2 : H2.objs.size = I + 2 := by rw [← hH2, Heap.size_push, z1]
  have z3 : H3.objs.size = I + 3 := by rw [← hH3, Heap.size_push, z2]
  rw [z1, z2, z3]
  have k34 : ∀ b o, H3.get? b = some o → H4.get? b = some o := fun b o e => hH4' ▸ Heap.get?_push_of_some _ e
  have k24 : ∀ b o, H2.get? b = some o → H4.get? b = some o := fun b o e => k34 b o (hH3 ▸ Heap.get?_push_of_some _ e)
  have k14 : ∀ b o, H1.get? b = some o → H4.get? b = some o := fun b o e => k24 b o (hH2 ▸ Heap.get?_push_of_some _ e)
  have k04 : ∀ b o, s₁.heap.get? b = some o → H4.get? b = some o := fun b o e => k14 b o (hH1 ▸ Heap.get?_push_of_some _ e)
  have fI : IsRangeIter H4 I 2 ((n - 1 : Nat) : Int) 1 := k14 _ _ (by rw [← hH1, ← hI]; exact Heap.get?_push_size _ rfl)
  have fD : H4.PlainList (I + 1) #[] := ⟨_, k24 _ _ (by rw [← hH2, ← z1]; exact Heap.get?_push_size _ rfl)⟩
  have fC : H4.Ns (I + 2) (fun _ => none) := by
    have e := Heap.Ns.new H2 (.type "dict")
    rw [z2, hH3] at e
    exact e.at' fun o e => k34 _ _ e
  have fc : H4.IsCell (I + 3) none := ⟨_, by rw [← hH4', ← z3]; exact Heap.get?_push_size _ rfl, rfl⟩
  have W := (Walks.range (prog := prog) (w := w) hh I 2 1 (n - 1)).bound
  refine (fun X => codeAny_compStart_list X (W.self 0 _ _ _ (by simpa using fI) X)) ?_
  refine compLoop_cell (c := I + 3) (m := fun _ => none) (v₀ := none) W qv (fun v y => y = v) rfl rfl rfl
    ?_ ?_ ?_ ?_ ?_ ?_ (by simpa using fI) fD fC fc ?_ ?_ ?_ (Nat.le_trans (show n - 1 ≤ 900 by omega) (by decide))
  · show @Ne Nat (I + 1) (I + 2)
    omega
  · show @Ne Nat (I + 1) (I + 3)
    omega
  · show @Ne Nat (I + 2) (I + 3)
    omega
  · simp
  · show I + 2 ∉ [I]
    simp
  · simp
  · intro i v s₂ hP hc hkp
    obtain ⟨hin, t, rfl⟩ := hP
    have hi2 : (2 + (i : Int) * 1) = ((i + 2 : Nat) : Int) := by omega
    rw [hi2] at hc ⊢
    refine wpAny_tests_one (inner_test (k := i + 2) hh hu rfl rfl rfl hc (by omega) (fun Q hQ' => hr _ _ _ _ rfl rfl rfl rfl ?_ hQ') ?_)
    · intro b o e
      have e1 := hk₁ b o e
      have lt : @LT.lt Nat _ b I := hI ▸ Heap.lt_size e1
      exact hkp b o (by rw [List.mem_singleton]; show ¬ @Eq Nat b I; omega) (show @Ne Nat b (I + 1) by omega) (show @Ne Nat b (I + 3) by omega) (k04 _ _ e1)
    · intro h' tk hk'
      exact ⟨rfl, _, _, rfl, hk'⟩
  · intro i v s₂ hP hpv hc hkp
    obtain ⟨hin, t, rfl⟩ := hP
    exact wpAny_Name (wpAny_loadName_cell rfl rfl rfl hc ⟨rfl, _, _, rfl, fun _ _ e => e⟩)
  · intro h' tk ys vs hns hl hl2 hlen hP hF hkp
    refine ⟨_, hns, fun h'' hs'' => hQ h'' _ (I + 1) ys ?_ ?_ ?_ ?_⟩
    · cases e : s₁.heap.get? (I + 1) with
      | none => rfl
      | some o =>
        have lt : @LT.lt Nat _ (I + 1) s₁.heap.objs.size := Heap.lt_size e
        rw [hI] at lt
        omega
    · exact hl2.extBut hs''.extBut (show @Ne Nat (I + 1) (I + 2) by omega)
    · rw [lpr_range']
      refine lpr_ints hF 2 (n - 1) hlen fun j v hj => ?_
      obtain ⟨_, t, e⟩ := hP j v hj
      exact ⟨t, by rw [e]; congr 1; omega⟩
    · intro b o e
      have lt : @LT.lt Nat _ b I := hI ▸ Heap.lt_size e
      exact hs''.extBut b o (show @Ne Nat b (I + 2) by omega) (hkp b o (by rw [List.mem_singleton]; show ¬ @Eq Nat b I; omega) (show @Ne Nat b (I + 1) by omega) (show @Ne Nat b (I + 3) by omega) (k04 _ _ e))
end
end Mine
local macro_rules | `(tactic| walk_at "eval ListComp") => `(tactic| k_dflt (k_extra "my comp"))
namespace Mine
set_option maxHeartbeats 8000000 in
theorem sp_lprimes {w : World} {mean : ExcName → Option Value} {mg mb : Str → Option Value} (s : Shared) (z : Int) (n : Nat) (t : Tok)
    (X : (Mine.hd.heap_39 w.params).In s.heap) (T : Top Mine.hd.view_39 (looseW Mine.hd.view_39 []) mean mg mb s.heap)
    (hz : z = (n : Int)) (hn : 1 ≤ n) (hn2 : n ≤ 40) :
    Does w 142 4 [.int z t] s (LOut s.heap fun r => r = lpr n) := by
  unfold Does
  intro dp un gd A₀ base' outer Q E B hd hu hret
  k_with_none
  k_with "my comp" => (
    (refine outer_lc (h₀ := s.heap) (n := n) rfl (by walk_at "sp_d") (by omega) (fun _ => rfl) ?hr ?_);
    (case hr => exact fun cenv s' Q E hg hb hk hx kp hQ => PySem.Calls.Name_function_global hk hx (PySem.Calls.loadGlobal_builtin (env := cenv) (hg ▸ (T.keeps kp).g) (mg_none_of X T.g rfl) (hb ▸ (T.keeps kp).b) ((T.builtins _ (by decide)).trans rfl) hQ) (by decide)))
  subst hz
  walk_at "sp_enter"
  k_steps
  rename Fr _ _ _ _ => cF
  refine ⟨_, _, _, _, rfl, (by assumption), cF.keep, ?_⟩
  intro h' tk D ys hD hpl hI hk
  refine hret _ _ _ (fun b o e => hk _ _ (cF.keep _ _ e)) ?_
  obtain ⟨m, e⟩ := hpl
  refine ⟨D, ys.toList, m, _, rfl, by simpa [W.listOf] using e, ?_, hI, rfl⟩
  cases q : s.heap.get? D with
  | none => rfl
  | some o => rw [cF.keep _ _ q] at hD; cases hD
end Mine
namespace Mine
/-- how often a prime stands in the middle binomial -/
def ex (n p : Int) : Int := fxI p (2 * n) - 2 * fxI p n
def mk1 (n : Int) (l : List Int) : Int := prd (l.map fun p => p ^ (ex n p).toNat)
def exOk (n p : Int) : Prop := (2 ≤ p ∧ p < 40) ∧ (0 ≤ ex n p ∧ ex n p ≤ 40) ∧ p ^ (ex n p).toNat ≤ 2 * n ∧ ¬ (2 * n < 3 * p ∧ 3 * p ≤ 3 * n ∧ ex n p ≠ 0) ∧ ¬ (n < p ∧ ex n p ≠ 1)
def midV (n : Nat) : Int := prd (pws (bp (2 * (n : Int)) n (sv (2 * n) (2 * n - 1)).1))
def belV (n : Nat) : Int := prd (sv n (n - 1)).1
def pairOk (q : Int × Int) : Prop := 1 ≤ q.1 ∧ q.1 < 1000000000000 ∧ 0 ≤ q.2
def wholeOk (n : Nat) : Prop :=
  (∀ p ∈ lpr (2 * n), exOk n p) ∧ mk1 n (lpr (2 * n)) = midV n ∧ (1 ≤ midV n ∧ midV n * (2 * n) < 1000000000000 ∧ midV n < 1000000000000) ∧ (4 : Int) ^ n ≤ midV n * (2 * n) ∧ (4 : Int) ^ n < 1000000000000
  ∧ ((lpr (2 * n)).filter fun p => decide ((n : Int) < p)) ≠ [] ∧ prd ((lpr (2 * n)).filter fun p => decide (p ≤ (n : Int))) = belV n ∧ belV n < 1000000000000 ∧ belV n < (4 : Int) ^ n
  ∧ (∀ q ∈ bp (2 * (n : Int)) n (sv (2 * n) (2 * n - 1)).1, 1 ≤ q.1 ∧ q.1 < 1000000000000 ∧ 0 ≤ q.2 ∧ q.2 < 64) ∧ (lpr (2 * n)).length < 1000
theorem mem_few {P : Int → Bool} {l : List Int} {x : Int} (h : x ∈ List.map (fun a => a) (List.filter P l)) : x ∈ l := by
  rw [List.map_id'] at h
  exact (List.mem_filter.mp h).1
theorem isListOf {h₀ h : Heap} {L l : Addr} {news : List (Addr × Obj)} {vs : List Value} {ns : List Int} {n : Nat} (N : News h₀ L h news) (_hI : IntsAre vs ns) (hm : (l, listOf vs.toArray n) ∈ news) : h.IsList l vs.toArray := isListN N hm
theorem prd_snoc (l : List Int) (x : Int) : prd (l ++ [x]) = prd l * x := by rw [prd_append]; simp [prd]
theorem mk1_snoc (n : Int) (l : List Int) (x : Int) : mk1 n (l ++ [x]) = mk1 n l * x ^ (ex n x).toNat := by unfold mk1; rw [List.map_append, List.map_cons, List.map_nil, prd_snoc]
/-- the whole fact, reckoned -/
def wholeB (n : Nat) : Bool := @decide (wholeOk n) (by unfold wholeOk exOk; infer_instance)
theorem whole_all : ((List.range 14).all fun n => wholeB (n + 3)) = true := by decide +kernel
theorem whole_ok {n : Nat} (h : 3 ≤ n) (h2 : n ≤ 16) : wholeOk n := by
  have h3 := List.all_eq_true.mp whole_all (n - 3) (List.mem_range.mpr (by omega))
  have h4 : wholeB n = true := by rwa [show n - 3 + 3 = n by omega] at h3
  exact @of_decide_eq_true _ (_) h4
end Mine
namespace Mine
theorem enterC {w : World} {A : Around} {base : Heap} {outer : List Env} {s : Shared} {R : Result → Shared → Prop} {name qual : Str} {params : Arguments} {body : List Stmt} {scope : Scope} {dV kV doc pm cdv ct oc : Value} {an od : Option Addr} {osl : Array (Option Value)} {f : Addr} {args : Args} {binds : List (Str × Value)}
    {K : Frag} {p : Program} {loose : List Str} {mean : ExcName → Option Value} {mg mb : Str → Option Value} {A₀ : Around}
    (_B : Below A₀ base outer s.heap) (X : K.In s.heap) (T : Top p loose mean mg mb s.heap)
    (ho : K.lookup f = some ⟨oc, od, .func (fnOf name qual params body scope dV kV doc pm an cdv ct), osl⟩) (hcd : codeIn K cdv qual = true) (hroom : A.depth < recursionLimit)
    (hbind : BindsTo s (fnOf name qual params body scope dV kV doc pm an cdv ct) args binds) (hkind : (binds.all fun y => scope.names.lookup y.1 == some .local || scope.names.lookup y.1 == some .cell) = true)
    (hnd : ((cellsFrom 0 scope.names []).map (·.1)).Nodup)
    (h : ∀ L' h₁ tk cells, Fr s.heap L' h₁ (bindL (envOfC qual scope L' f cdv).kindOf binds fun _ => none) → News s.heap L' h₁ cells →
      CellsAre (bindC (envOfC qual scope L' f cdv).kindOf binds fun _ => none) (cellsFrom (L' + 1) scope.names []) cells →
      wpAny (model PySem.Challenge.rw_xm0397_01.row.prog w) (A.deeper (envOfC qual scope L' f cdv)) (execs body (envOfC qual scope L' f cdv))
        (fun fl s' => R (.ok (.ret (match fl with | .ret v => v | _ => .none))) s')
        (fun e s' => wpAny (model PySem.Challenge.rw_xm0397_01.row.prog w) (A.deeper (envOfC qual scope L' f cdv)) (leaving (envOfC qual scope L' f cdv) e) (fun _ s'' => R (.error e) s'') (fun e' s'' => R (.error e') s'') s')
        { s with heap := h₁, toks := tk })
    (hco : scope.isCoroutine = false) (hgen : scope.isGenerator = false) (hk : scope.kind = .function) : codeAny (model PySem.Challenge.rw_xm0397_01.row.prog w) A (.call (.ref f) args) R s := by
  refine codeAny_call_function hroom (X _ _ ho) rfl hco hgen rfl (codeRec_of X hcd) (hbind _ _ _ _ ?_)
  refine wpAny_newFunctionEnv_cells hk (kindsX hkind _) fun env' he s' x => ?_
  subst he
  refine ⟨T.nolimit.keeps x.toInCall.keep, codeAny_func ?_⟩
  obtain ⟨h₁, tk, rfl, _⟩ := x.done
  have hk₁ := x.toInCall.keep
  obtain ⟨cells, NC, Y⟩ := Cl.news (h₀ := s.heap) (Nat.le_refl _) fun n c hm => ⟨x.cell n c (lookup_of_mem_nodup (cellsFrom_names scope.names 0 (s.heap.objs.size + 1) [] [] rfl ▸ hnd) hm), x.above n c hm⟩
  exact h s.heap.objs.size h₁ tk cells ⟨x.toInCall.ns, hk₁, Nat.le_refl _⟩ NC Y
end Mine
local macro_rules | `(tactic| walk_at "sp_enterC") => `(tactic| (
  refine wpAny_call ?_;
  k_dflt (refine' Mine.enterC ?k2 ?k3 ?k5 ?k6 ?k7 ?k8 ?k9 ?kB ?kD ?_ ?c2 ?c3 ?c4);
  (case k2 => k_asm); (case k3 => k_asm); (case k5 => k_asm); (case k6 => k_is); (case k7 => k_is); (case k8 => first | omega | ktr_room); (case k9 => exact BindsTo.of_eq rfl); (case kB => exact rfl); (case kD => decide +kernel); (case c2 => exact rfl); (case c3 => exact rfl); (case c4 => exact rfl); k_whole; intro L' h' tk' cells' F' N' Y'; k_cells Y'; (try simp only [List.cons_append, List.nil_append] at N'); (try dsimp only); (try k_fold)))
local macro_rules | `(tactic| walk_at "sp_enterC") => `(tactic| (
  refine wpAny_call ?_;
  k_dflt (refine' Mine.enterC ?k2 ?k3 ?k5 ?k6 ?k7 ?k8 ?k9 ?kB ?kD ?_ ?c2 ?c3 ?c4);
  (case k2 => k_asm); (case k3 => k_asm); (case k5 => k_asm); (case k6 => k_is); (case k7 => k_is); (case k8 => first | omega | ktr_room); (case k9 => exact BindsTo.of_eq rfl); (case kB => exact rfl); (case kD => decide +kernel); (case c2 => exact rfl); (case c3 => exact rfl); (case c4 => exact rfl); k_whole; intro L' h' tk' cells' F' N' Y'; k_cells Y'; (try simp only [List.cons_append, List.nil_append] at N'); (try dsimp only); (try k_fold)))
local macro_rules | `(tactic| walk_at "InvEndN") => `(tactic| k_dflt (k_extra "my end"))
local macro_rules | `(tactic| walk_at "binaryOp Pow int int") => `(tactic| k_dflt (k_extra "my pow"))
namespace Mine
set_option maxHeartbeats 8000000 in
theorem sp_right {w : World} {mean : ExcName → Option Value} {mg mb : Str → Option Value} (s : Shared) (n : Nat) (ww : Int) (t u : Tok)
    (X : (Mine.hd.heap_39 w.params).In s.heap) (T : Top Mine.hd.view_39 (looseW Mine.hd.view_39 []) mean mg mb s.heap)
    (hn : 3 ≤ n) (hn2 : n ≤ 16) (hw : 3 ≤ ww) (hw2 : ww ≤ 8) :
    Does w 147 70 [.int (n : Int) t, .int ww u] s (BOut fun r => r = true) := by
  unfold Does
  intro dp un gd A₀ base' outer Q E B hd hu hret
  obtain ⟨hex, hmid, ⟨hm1, hm2, hm3⟩, h4m, h4, hfil, hfew, hbl, hbl4, hpair, hlen⟩ := whole_ok hn hn2
  have hmL : Lim (midV n) := ⟨hm3⟩
  have h4L : Lim ((4 : Int) ^ n) := ⟨h4⟩
  have hg : ∀ q ∈ bp (2 * (n : Int)) n (sv (2 * n) (2 * n - 1)).1, GoodP q := fun q hq => by
    have := hpair q hq
    exact ⟨this.1, ⟨this.2.1⟩, this.2.2.1, this.2.2.2⟩
  have h4L' : Lim ((4 : Int) ^ (n : Int).toNat) := by rw [Int.toNat_natCast]; exact h4L
  have h4P : (0 : Int) ≤ 4 ^ (n : Int).toNat := Int.le_of_lt (Int.pow_pos (by decide))
  have h4m' : ¬ (midV n * (2 * (n : Int)) < 4 ^ (n : Int).toNat) := by rw [Int.toNat_natCast]; omega
  have hbl4' : belV n < 4 ^ (n : Int).toNat := by rw [Int.toNat_natCast]; exact hbl4
  have hB8 : (8 : Int) ≤ 2 ^ ww.toNat := base_ge (by omega)
  have hfil' : List.map (fun a => a) (List.filter (fun p => decide ((n : Int) < p)) (lpr (2 * n))) ≠ [] := by rw [List.map_id']; exact hfil
  have hfew' : prd (List.map (fun a => a) (List.filter (fun p => decide (p ≤ (n : Int))) (lpr (2 * n)))) = belV n := by rw [List.map_id']; exact hfew
  have hbP : 0 ≤ belV n := by
    have : 1 ≤ belV n := prd_ge (sv_pos _ _)
    omega
  have hnL : Lim (2 * (n : Int)) := ⟨by omega⟩
  have hbL : Lim (belV n) := ⟨hbl⟩
  have hmnL : Lim (midV n * (2 * n)) := ⟨hm2⟩
  clear hm2 hm3 h4 hbl hpair
  k_with_none
  (k_with "my mul" => refine mul_int ?_ (IntMulOk.of_right (intBits_le_64 (Int.le_trans (by decide) (Int.pow_nonneg (by have := (hex _ kMem).1; omega))) (Int.lt_of_le_of_lt (hex _ kMem).2.2.1 (by omega)))))
  (k_with "my mul" => refine mul_int ?_ (IntMulOk.of_left (intBits_le_64 (by omega) (by omega))))
  (k_with "my pow" => (refine pow_int_small (hex _ kMem).2.1.1 (Int.le_trans (hex _ kMem).2.1.2 (by decide)) (by have h40 := (hex _ kMem).1; exact Nat.lt_trans (show Int.natAbs _ < 40 by omega) (by decide)) ?_))
  (k_with "my pow" => (refine pow_int_small (by omega) (by omega) (by decide) ?_))
  (k_with "my call" => (
    (with_reducible show wpAny _ _ (call (Value.ref 116) _) _ _ _);
    (rename Fr _ _ _ _ => cF); (rename News _ _ _ _ => cN);
    (refine' does_use (sp_binomial _ _ _ _ (2 * n) _ _ _ (Frag.In.keeps X cF.keep) (Top.keeps T cF.keep) (by omega) (by omega) (by omega) (by omega) (by omega) hw hw2 hg hmL) (by assumption) cF cN rfl (by walk_at "sp_d") (by walk_at "sp_d") ?_);
    walk_at "sp_lret"; (rename IsL _ _ (prd (pws _)) => q9); (change IsL _ _ (midV n) at q9)))
  (k_with "my call" => (
    (with_reducible show wpAny _ _ (call (Value.ref 137) _) _ _ _);
    (rename Fr _ _ _ _ => cF); (rename News _ _ _ _ => cN);
    (refine' does_use (sp_limbs _ _ _ _ _ (Frag.In.keeps X cF.keep) (Top.keeps T cF.keep) ?hx1 ?hx2 hw hw2) (by assumption) cF cN rfl (by walk_at "sp_d") (by walk_at "sp_d") ?_);
    (case hx1 => first | exact h4P | omega);
    (case hx2 => first | exact h4L' | exact hmL | exact hnL | exact hbL);
    walk_at "sp_lret"))
  (k_with "my call" => (
    (with_reducible show wpAny _ _ (call (Value.ref 142) _) _ _ _);
    (rename Fr _ _ _ _ => cF); (rename News _ _ _ _ => cN);
    (refine' does_use (sp_lprimes _ _ (2 * n) _ (Frag.In.keeps X cF.keep) (Top.keeps T cF.keep) (by omega) (by omega) (by omega)) (by assumption) cF cN rfl (by walk_at "sp_d") (by walk_at "sp_d") ?_);
    walk_at "sp_lret"; (rename _ = lpr (2 * n) => e9); (rename IntsAre _ _ => i9); (rw [e9] at i9)))
  (k_with "my call" => (
    (with_reducible show wpAny _ _ (call (Value.ref 109) _) _ _ _);
    (rename Fr _ _ _ _ => cF); (rename News _ _ _ _ => cN); (have hpr := (hex _ kMem).1);
    (refine' does_use (sp_fexp _ _ _ _ _ (Frag.In.keeps X cF.keep) (Top.keeps T cF.keep) (by omega) (by omega) (by omega) (by omega)) (by assumption) cF cN rfl (by walk_at "sp_d") (by walk_at "sp_d") ?_);
    walk_at "sp_iret"; (rename _ = fxI _ _ => e9); subst e9))
  (k_with "my iter" => (
    (rename Fr _ _ _ _ => lF'); (rename News _ _ _ _ => lN'); (rename IntsAre _ (lpr (2 * n)) => i9);
    (with_unfolding_all refine' kst_listL (σ := Int × Tok) (fun _ => _) (fun c => [(Str.ofString "made", .int c.1 c.2)]) (fun _ => True) [Str.ofString "many"] (fun pre c => c.1 = mk1 n pre) (1, ?ct) (by rfl) (fun _ => ?h1) i9 lF' lN' True.intro ?h3 (by rfl) ?bt ?bd);
    (case h3 => exact fun p hp => by rw [List.mem_singleton.mp hp]; rfl);
    (case h1 => k_mem);
    (case' bt => intro c' kPre kP kPost kT kU kH kTk kOwn kEq kMem kOff kFacts kInv kFr kNews; (have kMark := kstMark); (have hx1 := (hex _ kMem).1); (have hx2 : 0 ≤ fxI kPost (2 * (n : Int)) - 2 * fxI kPost n := (hex _ kMem).2.1.1); (have hx3 : kPost ^ (fxI kPost (2 * (n : Int)) - 2 * fxI kPost n).toNat ≤ 2 * n := (hex _ kMem).2.2.1); (have hx4 : ¬ (2 * (n : Int) < 3 * kPost ∧ 3 * kPost ≤ 3 * n ∧ fxI kPost (2 * (n : Int)) - 2 * fxI kPost n ≠ 0) := (hex _ kMem).2.2.2.1); (have hx5 : ¬ ((n : Int) < kPost ∧ fxI kPost (2 * (n : Int)) - 2 * fxI kPost n ≠ 1) := (hex _ kMem).2.2.2.2));
    (case' bd => intro c' kU kH kTk kFacts kInv kFr kNews; (have kMark := kstMark); obtain ⟨cx, ct'⟩ := c'; (have hcx : cx = midV n := kInv.trans hmid); subst hcx);
    (all_goals (try k_fold))))
  (k_with "my call" => (
    (with_reducible show wpAny _ _ (call (Value.ref 123) _) _ _ _);
    (rename Fr _ _ _ _ => cF); (rename News _ _ _ _ => cN);
    (refine' does_use (sp_mul _ _ _ _ _ _ _ _ (midV n) (2 * (n : Int)) _ (Frag.In.keeps X cF.keep) (Top.keeps T cF.keep) (isListN cN (by k_mem)) (by assumption) (isListN cN (by k_mem)) (by assumption) (Nat.lt_of_le_of_lt (isL_len hB8 (by assumption) hmL) (by decide)) (Nat.lt_of_le_of_lt (isL_len hB8 (by assumption) hnL) (by decide)) hw hw2 (by assumption) (by assumption)) (by assumption) cF cN rfl (by walk_at "sp_d") (by walk_at "sp_d") ?_);
    walk_at "sp_lret"))
  (k_with "my call" => (
    (with_reducible show wpAny _ _ (call (Value.ref 102) _) _ _ _);
    (rename Fr _ _ _ _ => cF); (rename News _ _ _ _ => cN);
    (refine' does_use (sp_primorial _ _ _ n _ _ (Frag.In.keeps X cF.keep) (Top.keeps T cF.keep) rfl (by omega) (by omega) hw hw2 hbL) (by assumption) cF cN rfl (by walk_at "sp_d") (by walk_at "sp_d") ?_);
    walk_at "sp_lret"; (rename IsL _ _ (prd _) => q9); (change IsL _ _ (belV n) at q9)))
  (k_with "my call" => (
    (with_reducible show wpAny _ _ (call (Value.ref 60) _) _ _ _);
    (rename Fr _ _ _ _ => cF); (rename News _ _ _ _ => cN);
    (refine' does_use (sp_compare _ _ _ _ _ _ _ (2 ^ ww.toNat) (midV n * (2 * (n : Int))) (4 ^ (n : Int).toNat) (Frag.In.keeps X cF.keep) (Top.keeps T cF.keep) (isListN cN (by k_mem)) (by assumption) (isListN cN (by k_mem)) (by assumption) (Nat.lt_of_le_of_lt (isL_len hB8 (by assumption) hmnL) (by decide)) (Nat.lt_of_le_of_lt (isL_len hB8 (by assumption) h4L') (by decide)) hB8 (by assumption) (by assumption)) (by assumption) cF cN rfl (by walk_at "sp_d") (by walk_at "sp_d") ?_);
    walk_at "sp_iret"; (rename _ ↔ _ => e9); (have c9 := mt e9.mp h4m'); clear e9; (rename News _ _ _ _ => n9); (rename IntsAre _ (lpr (2 * n)) => j9); (have pL := isListOf n9 j9 (by k_mem))))
  (k_with "my call" => (
    (with_reducible show wpAny _ _ (call (Value.ref 60) _) _ _ _);
    (rename Fr _ _ _ _ => cF); (rename News _ _ _ _ => cN);
    (refine' does_use (sp_compare _ _ _ _ _ _ _ (2 ^ ww.toNat) (belV n) (4 ^ (n : Int).toNat) (Frag.In.keeps X cF.keep) (Top.keeps T cF.keep) (isListN cN (by k_mem)) (by assumption) (isListN cN (by k_mem)) (by assumption) (Nat.lt_of_le_of_lt (isL_len hB8 (by assumption) hbL) (by decide)) (Nat.lt_of_le_of_lt (isL_len hB8 (by assumption) h4L') (by decide)) hB8 (by assumption) (by assumption)) (by assumption) cF cN rfl (by walk_at "sp_d") (by walk_at "sp_d") ?_);
    walk_at "sp_iret"; (rename _ ↔ _ => e9); (have c9 := e9.mpr hbl4'); clear e9))
  (k_with "my mul" => refine mul_int ?_ (IntMulOk.of_right (intBits_le_64 (by have := (hex _ (mem_few kMem)).1; omega) (by have := (hex _ (mem_few kMem)).1; omega))))
  (k_with "my iter" => (
    (rename Fr _ _ _ _ => lF'); (rename News _ _ _ _ => lN'); (rename IntsAre _ (List.map _ (List.filter _ _)) => i9);
    (with_unfolding_all refine' kst_listL (σ := Int × Tok) (fun _ => _) (fun c => [(Str.ofString "product_due", .int c.1 c.2)]) (fun _ => True) [] (fun pre c => c.1 = prd pre) (1, ?dt) (by rfl) (fun _ => ?d1) i9 lF' lN' True.intro ?d3 (by rfl) ?dbt ?dbd);
    (case d3 => exact fun p hp => by rw [List.mem_singleton.mp hp]; rfl);
    (case d1 => k_mem);
    (case' dbt => intro c' kPre kP kPost kT kU kH kTk kOwn kEq kMem kOff kFacts kInv kFr kNews; (have kMark := kstMark));
    (case' dbd => intro c' kU kH kTk kFacts kInv kFr kNews; (have kMark := kstMark); obtain ⟨cx, ct'⟩ := c'; (have hcx : cx = belV n := kInv.trans hfew'); subst hcx);
    (all_goals (try k_fold))))
  (k_with "my end" => (
    (have q9 : c'.1 = mk1 n kPre := kInv);
    clear q9;
    k_dflt (exact kst_end (c'.1 * kPost ^ (fxI kPost (2 * (n : Int)) - 2 * fxI kPost n).toNat, _) (by assumption) (by assumption) (fun p hp => List.mem_append_left _ hp) (fun p hp => List.mem_append_right _ hp) rfl True.intro
                  (fun p hp => by rw [List.mem_singleton.mp hp]; rfl) (fun z h1 h2 h3 => by (have h4 : z ≠ Str.ofString "made" := h2 _ (List.mem_singleton.mpr rfl)); simp only [List.contains_cons, List.contains_nil, Bool.or_false, beq_eq_false_iff_ne, ne_eq] at h3; simp [kstB, h1, h3, h4])
                  ((congrArg (fun q => q * kPost ^ (fxI kPost (2 * (n : Int)) - 2 * fxI kPost n).toNat) kInv).trans (mk1_snoc (n : Int) kPre kPost).symm))))
  (k_with "my end" => (
    (have q9 : c'.1 = prd kPre := kInv);
    clear q9;
    k_dflt (exact kst_end (c'.1 * kPost, _) (by assumption) (by assumption) (fun p hp => List.mem_append_left _ hp) (fun p hp => List.mem_append_right _ hp) rfl True.intro
                  (fun p hp => by rw [List.mem_singleton.mp hp]; rfl)
                  (fun z h1 h2 h3 => by (have h4 : z ≠ Str.ofString "product_due" := h2 _ (List.mem_singleton.mpr rfl)); simp [kstB, h1, h4])
                  ((congrArg (fun q => q * kPost) kInv).trans (prd_snoc kPre kPost).symm))))
  walk_at "sp_enterC"
  k_steps
  all_goals (try (exact Str.ofString ""))
  all_goals (try (exact (0 : Nat)))
  all_goals (try (exact Value.none))
  all_goals first
    | (exfalso; omega)
    | exact absurd (of_decide_eq_true (by assumption)) hfil'
    | ((rename ¬ (_ : List Int) = _ => hne); exact absurd (isL_unique (B := 2 ^ ww.toNat) (x := midV n) (by omega) (by assumption) (by assumption)) hne)
    | exact hret _ _ _ (Fr.keep (by assumption)) ⟨_, rfl, decide_eq_true (isL_unique (B := 2 ^ ww.toNat) (x := belV n) (by omega) (by assumption) (by assumption))⟩
    | exact hret _ _ _ (Fr.keep (by assumption)) ⟨_, rfl, decide_eq_true c9⟩

end Mine
namespace Mine
theorem fmk (x : Int) {k : Int} (h : 1 ≤ k) : 0 ≤ x.fmod k ∧ x.fmod k < k := by
  rw [Int.fmod_eq_emod_of_nonneg _ (by omega)]
  exact ⟨Int.emod_nonneg _ (by omega), Int.emod_lt_of_pos _ (by omega)⟩
end Mine
local macro_rules | `(tactic| walk_at "sp_enterK") => `(tactic| (
  refine wpAny_call ?_;
  k_dflt (refine' code_def ?k1 ?k2 ?k3 ?k4 ?k5 ?kA ?kF ?kK ?k6 ?k7 ?k8 ?k9 ?kB ?_ ?c2 ?c3 ?c4 ?c5);
  (case kA => exact rfl); (case k1 => assumption); (case k2 => assumption); (case k3 => assumption); (case k4 => assumption); (case k5 => assumption); (case kF => assumption); (case kK => assumption); (case k6 => k_is); (case k7 => k_is); (case k8 => first | omega | ktr_room); (case k9 => exact BindsTo.of_eq rfl); (case c5 => decide); (case kB => exact locs rfl); (case c2 => exact rfl); (case c3 => exact rfl); (case c4 => exact rfl); k_whole; intro g' L' h' FG' F' N' B' X' T'; (try dsimp only); (try k_fold)))
namespace Mine
set_option maxHeartbeats 8000000 in
theorem sp_climb {w : World} {mean : ExcName → Option Value} {mg mb : Str → Option Value} {dp un : Nat} {gd : Option (List Code)} {A₀ : Around} {base h₀ : Heap} {outer : List Env} {env : Env} {L : Addr} {m : Str → Option Value} {Q E : Value → Shared → Prop}
    (s : Shared) (l D : Addr) (vs : List Value) (ns : List Int) (j k : Int) (t u : Tok) (nl nd : Nat)
    (X : (Mine.hd.heap_39 w.params).In h₀) (T : Top Mine.hd.view_39 (looseW Mine.hd.view_39 []) mean mg mb h₀)
    (B : Below A₀ base outer h₀) (F : Fr h₀ L s.heap m) (N : News h₀ L s.heap [(l, W.listOf #[.int j t, .ref D] nl), (D, W.listOf (List.toArray vs) nd)]) (hne : @LT.lt Nat _ D l)
    (hf : env.frame = some L) (hke : env.scope.kind = .function) (hI : IntsAre vs ns) (hl : ns.length ≤ 3) (hj : 0 ≤ j) (hj2 : j ≤ 2) (hk : 1 ≤ k) (hk2 : k ≤ 12) (hd : dp + 2 < recursionLimit) (hu : un + 16 < cLine)
    (hret : ∀ r t' t'' h' tk', 0 ≤ r → r < k → Fr h₀ L h' m → News h₀ L h' [(l, W.listOf #[.int (j + 1) t', .ref D] nl), (D, W.listOf (List.toArray vs) nd)] → Q (.int r t'') { s with heap := h', toks := tk' }) :
    wpAny (model PySem.Challenge.rw_xm0397_01.row.prog w) (ar dp un gd (env :: outer)) (call (.ref 130) [.ref l, .int k u]) Q E s := by
  k_with_none
  walk_at "sp_enterK"
  k_steps
  all_goals first
    | exact hret _ _ _ _ _ (fmk _ (by assumption)).1 (fmk _ (by assumption)).2 (by assumption) (by assumption)
end Mine
namespace Mine
theorem sp_rightZ {w : World} {mean : ExcName → Option Value} {mg mb : Str → Option Value} (s : Shared) (z ww : Int) (t u : Tok)
    (X : (Mine.hd.heap_39 w.params).In s.heap) (T : Top Mine.hd.view_39 (looseW Mine.hd.view_39 []) mean mg mb s.heap)
    (hn : 3 ≤ z) (hn2 : z ≤ 16) (hw : 3 ≤ ww) (hw2 : ww ≤ 8) :
    Does w 147 70 [.int z t, .int ww u] s (BOut fun r => r = true) := by
  obtain ⟨n, rfl⟩ := Int.eq_ofNat_of_zero_le (show 0 ≤ z by omega)
  exact sp_right s n ww t u X T (by omega) (by omega) hw hw2
theorem rg_small {x y : Int} (h1 : 0 ≤ x) (h2 : x < 12) (h3 : 0 ≤ y) (h4 : y < 2) : Builtin.Range.small (3 + x) (3 + x + 2 + y) 1 = true :=
  small_one (by omega) (by omega) (by omega) (by omega)
theorem rg_n {x y : Int} (h3 : 0 ≤ y) : Builtin.Range.rangeSize (3 + x) (3 + x + 2 + y) 1 = (((3 + x + 2 + y - (3 + x)).toNat : Nat) : Int) := by
  rw [rangeSize_one]; split <;> omega
theorem len3 {f : Int → Int} {xs : List Int} : (List.map f (List.take 3 xs)).length ≤ 3 := by
  rw [List.length_map, List.length_take]; omega
theorem news2 {h h' : Heap} {L : Addr} {a b : Addr × Obj} {news : List (Addr × Obj)} (N : News h L h' news) (ha : a ∈ news) (hb : b ∈ news) : News h L h' [a, b] := fun p hp => by
  rcases List.mem_cons.mp hp with rfl | hp
  · exact N _ ha
  · rw [List.mem_singleton.mp hp]; exact N _ hb
end Mine
set_option maxHeartbeats 8000000 in
theorem PySem.Challenge.cw_xm0397_01_holds : PySem.Challenge.rw_xm0397_01.Holds := by
  exact Mine.hd (by
    k_go0
    (all_goals try k_fold)
    k_with_none
    (k_with "my call" => (
      (with_reducible show wpAny _ _ (call (Value.ref 130) _) _ _ _);
      (rename Fr _ _ _ _ => cF); (rename News _ _ _ _ => cN); (rename IntsAre _ (List.map _ (List.take 3 _)) => cI);
      (refine' Mine.sp_climb _ _ _ _ _ _ _ _ _ _ _ (by assumption) (by assumption) (below_caller _) cF (Mine.news2 cN (by k_mem) (by k_mem)) (by omega) rfl rfl cI Mine.len3 (by decide) (by decide) (by decide) (by decide) (by decide) (by decide) ?_);
      intro r9 t9 u9 h9 tk9 lo9 hi9 F9 N9; (try k_fold)))
    (k_with "my call" => (
      (with_reducible show wpAny _ _ (call (Value.ref 147) _) _ _ _);
      (rename Fr _ _ _ _ => cF); (rename News _ _ _ _ => cN);
      (refine' Mine.does_use (Mine.sp_rightZ _ _ _ _ _ (Frag.In.keeps (by assumption) cF.keep) (Top.keeps (by assumption) cF.keep) (by omega) (by omega) (by omega) (by omega)) (below_caller _) cF cN rfl (by decide) (by decide) ?_);
      intro r9 h9 tk9 F9 N9 hn9 ho9;
      obtain ⟨x9, he9, hP9⟩ := ho9; subst he9; subst hP9;
      clear hn9; (try k_fold)))
    (k_with "my iter" => (
      (rename Fr _ _ _ _ => lF'); (rename News _ _ _ _ => lN'); (rename IsRange _ _ _ _ _ _ _ _ => rgX);
      (with_unfolding_all refine' Mine.rgS (σ := Unit) (fun _ => _) (fun _ => []) (fun _ => True) [] (fun _ _ => True) () (by rfl) rgX (Mine.rg_small (by assumption) (by assumption) (by assumption) (by assumption)) (Mine.rg_n (by assumption)) lF' lN' True.intro (List.forall_mem_nil _) True.intro (fun kC kI kT kU kH kTk kOwn kLt kOff kFacts kInv kFr kNews => ?_) (fun kC kU kH kTk kFacts kInv kFr kNews => ?_));
      (all_goals (have kMark := kstMark));
      (all_goals (try k_fold))))
    k_steps
    all_goals first
      | wrow_close
      | (exact kst_end () (by assumption) (by assumption) (fun p hp => List.mem_append_left _ hp) (fun p hp => List.mem_append_right _ hp) rfl True.intro (List.forall_mem_nil _) (fun z h1 _ _ => by simp [kstB, h1]) True.intro))
