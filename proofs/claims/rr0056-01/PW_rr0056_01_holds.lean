import PyProof.Rows.All
import Wide.All
import OpenK.AllK
import Wide.FinOn
import Lean
import PySem.Challenge.RW_rr0056_01
open PySem PySem.W PySem.Calls PyProof.Rows
set_option Elab.async false

section
open PySem PySem.W PyProof.Rows
namespace Mine
def vw : Program := view PySem.Challenge.rw_rr0056_01.prog [1, 2, 3, 4, 5, 6, 7, 8, 9, 11, 12, 13, 14, 15, 16, 17, 18, 19, 20, 22, 23, 24, 25, 26, 27, 28]
set_option maxRecDepth 100000 in
set_option maxHeartbeats 8000000 in
theorem headH (H : Hook) {d : DefRec} {kwd : List (Str × Expr)} (k1 : PySem.Challenge.rw_rr0056_01.row.wellSaid = true) (hdef : defOf vw (OpenRow.toRowW PySem.Challenge.rw_rr0056_01.row).name = some (d, kwd)) (hp : (OpenRow.toRowW PySem.Challenge.rw_rr0056_01.row).prog.theDef (OpenRow.toRowW PySem.Challenge.rw_rr0056_01.row).name = some (d.params, d.body, d.scope)) (hk : kwWritten? d.params.kwonlyargs d.params.kw_defaults = some kwd)
    (left : LeftO (OpenRow.toRowW PySem.Challenge.rw_rr0056_01.row).prog vw [] (fun s => xlAt vw [] s && recOk (RowW.records (OpenRow.toRowW PySem.Challenge.rw_rr0056_01.row)) s) H.obs H.val 2948) (hw : (OpenRow.toRowW PySem.Challenge.rw_rr0056_01.row).promised)
    (call : WalkO vw [] (XL vw []) H.says (OpenRow.toRowW PySem.Challenge.rw_rr0056_01.row) d kwd fun f vs => PySem.call f vs) : PySem.Challenge.rw_rr0056_01.row.Holds :=
  holds_open left H.of H.keeps (fun s e => xl_of s (Bool.and_eq_true_iff.mp e).1) XL.keeps hdef hp hk (fun s e => recFacts_of (Bool.and_eq_true_iff.mp e).2) rfl k1 (by decide +kernel) ⟨rfl, rfl, rfl, rfl, rfl, by decide +kernel⟩ hw call
local macro_rules | `(tactic| o_head $H:term) => `(tactic| (refine Mine.headH $H (by assumption) rfl rfl rfl ?hl ?hw ?hc; (case hl => (intro w; first | (unfold openEnds fencedOpening topFrom; rw [PySem.W.Fast.te14082659384304107361, PySem.W.Fast.te4187177175401517315, PySem.W.Fast.te10274390034422433532, PySem.W.Fast.te14364793385576792824]; kernel_rfl) | kernel_rfl))))
set_option maxRecDepth 100000 in
set_option maxHeartbeats 8000000 in
open_top hd for PySem.Challenge.rw_rr0056_01
end Mine
end
local macro_rules | `(tactic| walk_at $s:str) => `(tactic| k_extra $s)

section
open PySem PySem.W PySem.Calls PyProof.Rows
namespace Mine
set_option pp.deepTerms false
set_option pp.deepTerms.threshold 2
set_option pp.proofs false

abbrev PG : Program := PySem.Challenge.rw_rr0056_01.row.prog

abbrev AA (dp un : Nat) (fr : Option (List Env)) (gd : Option (List Code)) : Around := { handled := none, depth := dp, frames := fr, guards := gd, units := un }

def retV : Flow → Value
  | .ret v => v
  | _ => .none

theorem room {d k a b L : Nat} (h : d + b < L) (hk : Nat.ble (k + a) b = true) : d + k + a < L := by
  have := Nat.le_of_ble_eq_true hk
  omega
theorem room0 {d a b L : Nat} (h : d + b < L) (hk : Nat.ble a b = true) : d + a < L := by
  have := Nat.le_of_ble_eq_true hk
  omega
theorem room00 {d b L : Nat} (h : d + b < L) : d < L := by omega

theorem idx0 (i : Nat) : (0 + (i : Int) * 1).toNat = i := by omega
theorem idxn (b i : Nat) : ((b : Int) + (i : Int) * 1).toNat = b + i := by omega
theorem small0 {b : Nat} (h : b ≤ 1000) : Builtin.Range.small 0 (b : Int) 1 = true := small_one (by decide) (by decide) (by omega) (by omega)
theorem smalln {a b : Nat} (ha : a ≤ 1000) (hb : b ≤ 1000) : Builtin.Range.small (a : Int) (b : Int) 1 = true := small_one (by omega) (by omega) (by omega) (by omega)
theorem rs0 (n : Nat) : Builtin.Range.rangeSize 0 (n : Int) 1 = (n : Int) := by rw [rangeSize_nat]; omega
theorem rsn {a b : Nat} (h : a ≤ b) : Builtin.Range.rangeSize (a : Int) (b : Int) 1 = ((b - a : Nat) : Int) := by rw [rangeSize_nat]; omega
theorem mill9 {n : Nat} (h : n ≤ 9) : (n : Int) ≤ 1000000 := by omega
theorem step80 {i : Nat} (h : i < 80) : ∃ q, 80 - i = q + 1 ∧ 80 - (i + 1) = q := ⟨80 - (i + 1), by omega, rfl⟩
theorem par0 {i : Nat} (h : i % 2 = 0) : (i + 1) % 2 = 1 := by omega
theorem par1 {i : Nat} (h : ¬ i % 2 = 0) : (i + 1) % 2 = 0 := by omega
theorem le1000 {n : Nat} (h : n ≤ 200) : n ≤ 1000 := by omega

theorem lookup_kstB (l : List (Str × Value)) : (fun y => l.lookup y) = kstB (fun _ => none) l := by
  funext y
  induction l with
  | nil => rfl
  | cons p r ih =>
    show List.lookup y (p :: r) = (if y = p.1 then some p.2 else kstB (fun _ => none) r y)
    rw [List.lookup_cons, ← ih]
    by_cases h : y = p.1
    · subst h; simp
    · have h2 : (y == p.1) = false := beq_eq_false_iff_ne.mpr h
      rw [if_neg h, h2]

theorem enter {w : World} {A : Around} {s : Shared} {K : Frag} {p : Program} {loose : List Str} {mean : ExcName → Option Value} {mg mb : Str → Option Value}
    {h₀ : Heap} {L : Addr} {m : Str → Option Value} (news : List (Addr × Obj))
    {name qual : Str} {params : Arguments} {body : List Stmt} {scope : Scope} {dV kV doc pm cdv ct oc : Value} {an od : Option Addr} {osl : Array (Option Value)} {f : Addr} {args : List Value} (binds rb : List (Str × Value))
    {Q : Value → Shared → Prop} {E : Value → Shared → Prop}
    (hrb : binds.reverse = rb) (F : Fr h₀ L s.heap m) (X₀ : K.In h₀) (T : Top p loose mean mg mb h₀) (N : News h₀ L s.heap news)
    (ho : K.lookup f = some ⟨oc, od, .func (fnOf name qual params body scope dV kV doc pm an cdv ct), osl⟩) (hcd : codeIn K cdv qual = true) (hroom : A.depth < recursionLimit)
    (hbind : bindArgs (fnOf name qual params body scope dV kV doc pm an cdv ct) ⟨args, []⟩ = pure binds) (hloc : ∀ y ∈ binds, scope.names.lookup y.1 = some .local)
    (hcell : ∀ x ∈ scope.names, x.2 ≠ .cell) (hco : scope.isCoroutine = false) (hgen : scope.isGenerator = false) (hk : scope.kind = .function)
    (h : ∀ g L' h₁ tk, g = hideAll s.heap (news.map (·.1)) → L' = s.heap.objs.size → Fr g L' h₁ (kstB (fun _ => none) rb) → News g L' h₁ news → K.In g → Top p loose mean mg mb g →
      wpAny (model PG w) (A.deeper (envOf qual scope L' f cdv)) (execs body (envOf qual scope L' f cdv))
        (fun fl s' => Q (retV fl) s') (fun _ _ => False) { s with heap := h₁, toks := tk }) :
    wpAny (model PG w) A (call (.ref f) args) Q E s := by
  subst hrb
  refine wpAny_call ?_
  have X := X₀.keeps F.keep
  have nm : ∀ b o, h₀.get? b = some o → b ∉ news.map (·.1) := fun b o e q => by
    obtain ⟨p, hp, rfl⟩ := List.mem_map.mp q
    rw [(N p hp).2.2] at e; cases e
  have st : h₀.StaysIn (hideAll s.heap (news.map (·.1))) := fun b o e => hideAll_get _ (F.keep b o e) (nm b o e)
  refine codeAny_call_def (fd := fnOf name qual params body scope dV kV doc pm an cdv ct) (body := body) (binds := binds) hroom (X _ _ ho) rfl (T.nolimit.keeps F.keep) (codeRec_of X hcd) rfl (BindsTo.of_eq hbind) hcell hloc (fun h₁ hns hk₁ => ?_) hco hgen hk
  rw [lookup_kstB] at hns
  refine wpAny_mono (h _ _ h₁ (s.toks + binds.length) rfl rfl ⟨hns, fun b o e => hk₁ b o (of_hideAll _ e), Nat.le_of_eq (hideAll_size _ _)⟩
    (fun p hp => ⟨hk₁ _ _ (N p hp).1, Nat.ne_of_lt (Heap.lt_size (N p hp).1), hideAll_none _ (List.mem_map_of_mem hp)⟩) (X₀.keeps st) (T.keeps st)) (fun fl s' hl => ?_) fun _ _ y => y.elim
  cases fl <;> exact hl

theorem enterP {w : World} {A : Around} {s : Shared} {K : Frag} {p : Program} {loose : List Str} {mean : ExcName → Option Value} {mg mb : Str → Option Value}
    {h₀ : Heap} {L : Addr} {m : Str → Option Value}
    {name qual : Str} {params : Arguments} {body : List Stmt} {scope : Scope} {dV kV doc pm cdv ct oc : Value} {an od : Option Addr} {osl : Array (Option Value)} {f : Addr} {args : List Value} (binds rb : List (Str × Value))
    {Q : Value → Shared → Prop} {E : Value → Shared → Prop}
    (hrb : binds.reverse = rb) (F : Fr h₀ L s.heap m) (X₀ : K.In h₀) (T : Top p loose mean mg mb h₀)
    (ho : K.lookup f = some ⟨oc, od, .func (fnOf name qual params body scope dV kV doc pm an cdv ct), osl⟩) (hcd : codeIn K cdv qual = true) (hroom : A.depth < recursionLimit)
    (hbind : bindArgs (fnOf name qual params body scope dV kV doc pm an cdv ct) ⟨args, []⟩ = pure binds) (hloc : ∀ y ∈ binds, scope.names.lookup y.1 = some .local)
    (hcell : ∀ x ∈ scope.names, x.2 ≠ .cell) (hco : scope.isCoroutine = false) (hgen : scope.isGenerator = false) (hk : scope.kind = .function)
    (h : ∀ L' h₁ tk, Fr s.heap L' h₁ (kstB (fun _ => none) rb) → News s.heap L' h₁ [] → K.In s.heap → Top p loose mean mg mb s.heap →
      wpAny (model PG w) (A.deeper (envOf qual scope L' f cdv)) (execs body (envOf qual scope L' f cdv))
        (fun fl s' => Q (retV fl) s') (fun _ _ => False) { s with heap := h₁, toks := tk }) :
    wpAny (model PG w) A (call (.ref f) args) Q E s := by
  subst hrb
  refine enter [] binds _ rfl F X₀ T News.nil ho hcd hroom hbind hloc hcell hco hgen hk ?_
  rintro g L' h₁ tk rfl _ F' N' X' T'
  exact h L' h₁ tk F' N' X' T'

theorem isl_keep {h h' : Heap} {l : Addr} {items : Array Value} (x : h.IsList l items) (k : ∀ b o, h.get? b = some o → h'.get? b = some o) : h'.IsList l items := let ⟨o, ho, r⟩ := x; ⟨o, k l o ho, r⟩

end Mine
end

section
open PySem PySem.W PyProof.Rows
namespace Mine

/-- the number that a row of limbs in base B tells -/
def val (B : Int) : List Int → Int
  | [] => 0
  | x :: r => x + B * val B r
def Dig (B : Int) (a : List Int) : Prop := ∀ x ∈ a, 0 ≤ x ∧ x < B
def Canon (B : Int) (a : List Int) : Prop := Dig B a ∧ (a = [] ∨ B ^ (a.length - 1) ≤ val B a)

theorem pow_pos' {B : Int} (hB : 2 ≤ B) (n : Nat) : 0 < B ^ n := Int.pow_pos (by omega)

theorem val_append (B : Int) (a b : List Int) : val B (a ++ b) = val B a + B ^ a.length * val B b := by
  induction a with
  | nil => simp [val]
  | cons x r ih =>
    simp only [List.cons_append, val, ih, List.length_cons, Int.pow_succ]
    grind
theorem val_snoc (B : Int) (a : List Int) (x : Int) : val B (a ++ [x]) = val B a + B ^ a.length * x := by
  rw [val_append]; simp [val]
theorem val_take_succ (B : Int) (a : List Int) (i : Nat) (h : i < a.length) : val B (a.take (i + 1)) = val B (a.take i) + B ^ i * a.getD i 0 := by
  have e : a.take (i + 1) = a.take i ++ [a.getD i 0] := by
    rw [List.take_add_one, List.getD_eq_getElem?_getD, List.getElem?_eq_getElem h]
    rfl
  rw [e, val_snoc, List.length_take, Nat.min_eq_left (by omega)]
theorem dig_snoc {B : Int} {a : List Int} {x : Int} (h : Dig B a) (h0 : 0 ≤ x) (h1 : x < B) : Dig B (a ++ [x]) := by
  intro y hy
  rcases List.mem_append.mp hy with hy | hy
  · exact h y hy
  · rw [List.mem_singleton.mp hy]; exact ⟨h0, h1⟩
theorem dig_getD {B : Int} {a : List Int} (h : Dig B a) (hB : 2 ≤ B) (i : Nat) : 0 ≤ a.getD i 0 ∧ a.getD i 0 < B := by
  rw [List.getD_eq_getElem?_getD]
  cases e : a[i]? with
  | none => simp; omega
  | some x => exact h x (List.mem_of_getElem? e)
theorem dig_take {B : Int} {a : List Int} (h : Dig B a) (i : Nat) : Dig B (a.take i) := fun x hx => h x (List.mem_of_mem_take hx)
theorem val_nonneg {B : Int} (hB : 2 ≤ B) : ∀ {a : List Int}, Dig B a → 0 ≤ val B a
  | [], _ => Int.le_refl _
  | x :: r, h => by
    have h1 := val_nonneg hB (a := r) fun y hy => h y (.tail _ hy)
    have h2 := (h x (.head _)).1
    have h3 : 0 ≤ B * val B r := Int.mul_nonneg (by omega) h1
    show 0 ≤ x + B * val B r
    omega
theorem val_lt {B : Int} (hB : 2 ≤ B) : ∀ {a : List Int}, Dig B a → val B a < B ^ a.length
  | [], _ => by simp [val]
  | x :: r, h => by
    have h1 := val_lt hB (a := r) fun y hy => h y (.tail _ hy)
    have h2 := (h x (.head _)).2
    show x + B * val B r < B ^ (r.length + 1)
    rw [Int.pow_succ]
    have h3 : B * (val B r + 1) ≤ B * B ^ r.length := Int.mul_le_mul_of_nonneg_left (by omega) (by omega)
    grind
theorem val_zeros (B : Int) (n : Nat) : val B (List.replicate n 0) = 0 := by
  induction n with
  | zero => rfl
  | succ n ih => simp [List.replicate_succ, val, ih]

/-- the limbs of a number -/
def limbsF (w : Nat) : Nat → Nat → List Int
  | 0, _ => []
  | f + 1, N => if N = 0 then [] else ((N % 2 ^ w : Nat) : Int) :: limbsF w f (N / 2 ^ w)
def limbs (w N : Nat) : List Int := limbsF w N N
theorem limbsF_enough {w : Nat} (hw : 0 < w) : ∀ (f N : Nat), N ≤ f → limbsF w f N = limbsF w N N := by
  intro f
  induction f using Nat.strongRecOn with
  | _ f ih =>
    intro N hN
    have h2 : 2 ≤ 2 ^ w := by
      have := Nat.pow_le_pow_right (n := 2) (by omega) hw
      simpa using this
    match f, N with
    | 0, N => rw [Nat.le_zero.mp hN]
    | f + 1, 0 => rfl
    | f + 1, N + 1 =>
      have hq : (N + 1) / 2 ^ w ≤ N := by
        have := Nat.div_lt_self (n := N + 1) (by omega) h2
        omega
      show (if N + 1 = 0 then [] else _ :: limbsF w f ((N + 1) / 2 ^ w)) = (if N + 1 = 0 then [] else _ :: limbsF w N ((N + 1) / 2 ^ w))
      rw [if_neg (by omega), if_neg (by omega), ih f (by omega) _ (by omega), ← ih N (by omega) _ hq]
theorem limbs_zero (w : Nat) : limbs w 0 = [] := rfl
theorem limbs_pos {w : Nat} (hw : 0 < w) {N : Nat} (hN : N ≠ 0) : limbs w N = ((N % 2 ^ w : Nat) : Int) :: limbs w (N / 2 ^ w) := by
  have h2 : 2 ≤ 2 ^ w := by
    have := Nat.pow_le_pow_right (n := 2) (by omega) hw
    simpa using this
  match N, hN with
  | N + 1, _ =>
    have hq : (N + 1) / 2 ^ w ≤ N := by
      have := Nat.div_lt_self (n := N + 1) (by omega) h2
      omega
    show (if N + 1 = 0 then [] else _ :: limbsF w N ((N + 1) / 2 ^ w)) = _
    rw [if_neg (by omega), limbsF_enough hw _ _ hq]
    rfl
theorem base_ge {w : Nat} (hw : 0 < w) : (2 : Int) ≤ 2 ^ w := by
  have h : 2 ^ 1 ≤ 2 ^ w := Nat.pow_le_pow_right (by omega) hw
  have h' : ((2 ^ 1 : Nat) : Int) ≤ ((2 ^ w : Nat) : Int) := by exact_mod_cast h
  simpa using h'
theorem limbs_ind {w : Nat} (hw : 0 < w) {P : Nat → Prop} (h0 : P 0) (hs : ∀ N, N ≠ 0 → P (N / 2 ^ w) → P N) : ∀ N, P N := by
  intro N
  induction N using Nat.strongRecOn with
  | _ N ih =>
    by_cases hN : N = 0
    · rw [hN]; exact h0
    · refine hs N hN (ih _ (Nat.div_lt_self (by omega) ?_))
      have := Nat.pow_le_pow_right (n := 2) (by omega) hw
      omega
theorem limbs_dig {w : Nat} (hw : 0 < w) : ∀ N, Dig (2 ^ w) (limbs w N) := by
  refine limbs_ind hw ?_ ?_
  · intro x hx; cases hx
  · intro N hN ih
    rw [limbs_pos hw hN]
    intro x hx
    rcases List.mem_cons.mp hx with rfl | hx
    · have : N % 2 ^ w < 2 ^ w := Nat.mod_lt _ (Nat.pow_pos (by omega))
      refine ⟨by omega, ?_⟩
      have h' : ((N % 2 ^ w : Nat) : Int) < ((2 ^ w : Nat) : Int) := by exact_mod_cast this
      simpa using h'
    · exact ih x hx
theorem limbs_val {w : Nat} (hw : 0 < w) : ∀ N, val (2 ^ w) (limbs w N) = (N : Int) := by
  refine limbs_ind hw rfl ?_
  intro N hN ih
  rw [limbs_pos hw hN]
  show _ + _ * val _ _ = _
  rw [ih]
  have h := Nat.mod_add_div N (2 ^ w)
  have h' : ((N % 2 ^ w + 2 ^ w * (N / 2 ^ w) : Nat) : Int) = (N : Int) := by exact_mod_cast h
  rw [← h']
  push_cast
  rfl
theorem limbs_canon {w : Nat} (hw : 0 < w) : ∀ N, Canon (2 ^ w) (limbs w N) := by
  intro N
  refine ⟨limbs_dig hw N, ?_⟩
  revert N
  refine limbs_ind hw (.inl rfl) ?_
  intro N hN ih
  right
  rw [limbs_val hw]
  have hB := base_ge hw
  rw [limbs_pos hw hN]
  simp only [List.length_cons, Nat.add_sub_cancel]
  rcases ih with h | h
  · rw [h]; simp; omega
  · rw [limbs_val hw] at h
    by_cases he : limbs w (N / 2 ^ w) = []
    · rw [he]; simp; omega
    · have hl : (limbs w (N / 2 ^ w)).length ≠ 0 := by simpa using he
      obtain ⟨k, hk⟩ := Nat.exists_eq_succ_of_ne_zero hl
      rw [hk] at h ⊢
      simp only [Nat.succ_eq_add_one, Nat.add_sub_cancel] at h
      rw [Int.pow_succ]
      have h1 := Nat.mod_add_div N (2 ^ w)
      have h1' : ((N % 2 ^ w : Nat) : Int) + (2 : Int) ^ w * ((N / 2 ^ w : Nat) : Int) = (N : Int) := by
        exact_mod_cast h1
      have h2 : (2 : Int) ^ w * (2 ^ w) ^ k ≤ 2 ^ w * ((N / 2 ^ w : Nat) : Int) := Int.mul_le_mul_of_nonneg_left h (by omega)
      rw [Int.mul_comm]
      omega
theorem canon_limbs {w : Nat} (hw : 0 < w) : ∀ {a : List Int}, Canon (2 ^ w) a → a = limbs w (val (2 ^ w) a).toNat
  | [], _ => rfl
  | x :: r, ⟨hd, hc⟩ => by
    have hB := base_ge hw
    have hr : Dig (2 ^ w) r := fun y hy => hd y (.tail _ hy)
    have hx := hd x (.head _)
    have hv := val_nonneg hB hr
    have hcr : Canon (2 ^ w) r := by
      refine ⟨hr, ?_⟩
      cases r with
      | nil => exact .inl rfl
      | cons y r' =>
        right
        rcases hc with h | h
        · cases h
        · simp only [List.length_cons, Nat.add_sub_cancel] at h ⊢
          rw [Int.pow_succ] at h
          have h' : (2 ^ w) ^ r'.length * 2 ^ w < (1 + val (2 ^ w) (y :: r')) * (2 : Int) ^ w := by
            have e : val (2 ^ w) (x :: y :: r') = x + (2 : Int) ^ w * val (2 ^ w) (y :: r') := rfl
            rw [e] at h
            have e2 : (1 + val (2 ^ w) (y :: r')) * (2 : Int) ^ w = 2 ^ w + 2 ^ w * val (2 ^ w) (y :: r') := by rw [Int.add_mul, Int.one_mul, Int.mul_comm]
            rw [e2]
            omega
          have := Int.lt_of_mul_lt_mul_right h' (by omega)
          omega
    have ih := canon_limbs hw hcr
    have hpos : 1 ≤ val (2 ^ w) (x :: r) := by
      rcases hc with h | h
      · cases h
      · have := pow_pos' hB ((x :: r).length - 1)
        omega
    have e1 : val (2 ^ w) (x :: r) = x + 2 ^ w * val (2 ^ w) r := rfl
    have hN : (val (2 ^ w) (x :: r)).toNat ≠ 0 := by omega
    rw [limbs_pos hw hN]
    have ev : (val (2 ^ w) (x :: r)).toNat = x.toNat + 2 ^ w * (val (2 ^ w) r).toNat := by
      have h3 : (((val (2 ^ w) (x :: r)).toNat : Nat) : Int) = ((x.toNat + 2 ^ w * (val (2 ^ w) r).toNat : Nat) : Int) := by
        push_cast
        rw [Int.toNat_of_nonneg (by omega), Int.toNat_of_nonneg hx.1, Int.toNat_of_nonneg hv, e1]
      exact_mod_cast h3
    have hxl : x.toNat < 2 ^ w := by
      have : ((x.toNat : Nat) : Int) < ((2 ^ w : Nat) : Int) := by
        rw [Int.toNat_of_nonneg hx.1]; push_cast; exact hx.2
      exact_mod_cast this
    have hm : (val (2 ^ w) (x :: r)).toNat % 2 ^ w = x.toNat := by
      rw [ev, Nat.add_mul_mod_self_left, Nat.mod_eq_of_lt hxl]
    have hq : (val (2 ^ w) (x :: r)).toNat / 2 ^ w = (val (2 ^ w) r).toNat := by
      rw [ev, Nat.add_mul_div_left _ _ (Nat.pow_pos (by omega)), Nat.div_eq_of_lt hxl, Nat.zero_add]
    rw [hm, hq, ← ih, Int.toNat_of_nonneg hx.1]
theorem canon_eq {w : Nat} (hw : 0 < w) {a : List Int} {N : Nat} (h : Canon (2 ^ w) a) (hv : val (2 ^ w) a = N) : a = limbs w N := by
  rw [canon_limbs hw h, hv]; rfl
theorem canon_len {B : Int} (hB : 2 ≤ B) {a b : List Int} (ha : Canon B a) (hb : Canon B b) (h : a.length < b.length) : val B a < val B b := by
  have h1 := val_lt hB ha.1
  rcases hb.2 with e | h2
  · rw [e] at h; simp at h
  · have h3 : B ^ a.length ≤ B ^ (b.length - 1) := by
      obtain ⟨d, hd⟩ := Nat.exists_eq_add_of_le (show a.length ≤ b.length - 1 by omega)
      rw [hd, Int.pow_add]
      have := pow_pos' hB d
      have h4 : B ^ a.length * 1 ≤ B ^ a.length * B ^ d := Int.mul_le_mul_of_nonneg_left (by omega) (Int.le_of_lt (pow_pos' hB _))
      omega
    omega
end Mine
end

section
open PySem PySem.W PyProof.Rows
namespace Mine
theorem limbs_len {w : Nat} (hw : 0 < w) {N k : Nat} (h : N < 2 ^ k) : (limbs w N).length ≤ k := by
  have hc := limbs_canon hw N
  have hB := base_ge hw
  rcases hc.2 with e | h1
  · rw [e]; simp
  · rw [limbs_val hw] at h1
    by_cases hl : (limbs w N).length = 0
    · omega
    · have h2 : ((2 : Int) ^ w) ^ ((limbs w N).length - 1) = ((2 ^ (w * ((limbs w N).length - 1)) : Nat) : Int) := by
        rw [← Int.pow_mul]; push_cast; rfl
      rw [h2] at h1
      have h3 : 2 ^ (w * ((limbs w N).length - 1)) < 2 ^ k := by
        have : 2 ^ (w * ((limbs w N).length - 1)) ≤ N := by exact_mod_cast h1
        omega
      have h4 := (Nat.pow_lt_pow_iff_right (a := 2) (by omega)).mp h3
      have h5 : 1 * ((limbs w N).length - 1) ≤ w * ((limbs w N).length - 1) := Nat.mul_le_mul_right _ hw
      omega
theorem fdiv_pos' {x B : Int} (hB : 2 ≤ B) : x.fdiv B = x / B := by
  rw [Int.fdiv_eq_ediv_of_nonneg]; omega

structure AddInv (B : Int) (a b : List Int) (i : Nat) (fs : List Int) (c : Int) : Prop where
  len : fs.length = i
  dig : Dig B fs
  c0 : 0 ≤ c
  c1 : c ≤ 1
  eq : val B fs + B ^ i * c = val B (a.take i) + val B (b.take i)
theorem AddInv.zero {B : Int} {a b : List Int} : AddInv B a b 0 [] 0 := ⟨rfl, fun _ h => (nomatch h), by omega, by omega, by simp [val]⟩
theorem val_take_any (B : Int) (a : List Int) (i : Nat) : val B (a.take (i + 1)) = val B (a.take i) + B ^ i * a.getD i 0 := by
  by_cases h : i < a.length
  · exact val_take_succ B a i h
  · rw [List.take_of_length_le (by omega), List.take_of_length_le (by omega), List.getD_eq_getElem?_getD, List.getElem?_eq_none (by omega)]
    simp
theorem AddInv.step {B : Int} (hB : 2 ≤ B) {a b : List Int} {i : Nat} {fs : List Int} {c : Int} (h : AddInv B a b i fs c) (ha : Dig B a) (hb : Dig B b) :
    AddInv B a b (i + 1) (fs ++ [(c + (a.getD i 0 + b.getD i 0)) % B]) ((c + (a.getD i 0 + b.getD i 0)) / B) := by
  have h1 := dig_getD ha hB i
  have h2 := dig_getD hb hB i
  have hc0 := h.c0
  have hc1 := h.c1
  have hx0 : 0 ≤ c + (a.getD i 0 + b.getD i 0) := by omega
  have hx1 : c + (a.getD i 0 + b.getD i 0) < 2 * B := by omega
  have hm0 := Int.emod_nonneg (c + (a.getD i 0 + b.getD i 0)) (b := B) (by omega)
  have hm1 := Int.emod_lt_of_pos (c + (a.getD i 0 + b.getD i 0)) (b := B) (by omega)
  have hd0 : 0 ≤ (c + (a.getD i 0 + b.getD i 0)) / B := Int.ediv_nonneg hx0 (by omega)
  have hd1 : (c + (a.getD i 0 + b.getD i 0)) / B < 2 := Int.ediv_lt_of_lt_mul (by omega) hx1
  have hed := Int.emod_add_mul_ediv (c + (a.getD i 0 + b.getD i 0)) B
  refine ⟨by simp [h.len], dig_snoc h.dig hm0 hm1, hd0, by omega, ?_⟩
  rw [val_snoc, h.len, val_take_any B a, val_take_any B b, Int.pow_succ]
  have he := h.eq
  generalize (c + (a.getD i 0 + b.getD i 0)) % B = q at *
  generalize (c + (a.getD i 0 + b.getD i 0)) / B = d at *
  generalize B ^ i = P at *
  have h5 : P * q + P * B * d = P * c + P * a.getD i 0 + P * b.getD i 0 := by
    have : P * (q + B * d) = P * (c + (a.getD i 0 + b.getD i 0)) := by rw [hed]
    grind
  omega
theorem add_done {w : Nat} (hw : 0 < w) {A B' : Nat} {a b : List Int} (ha : a = limbs w A) (hb : b = limbs w B') {fs : List Int} {c : Int} (hl : b.length ≤ a.length) (h : AddInv (2 ^ w) a b a.length fs c) :
    (0 < c → fs ++ [c] = limbs w (A + B')) ∧ (¬ 0 < c → fs = limbs w (A + B')) := by
  have hB := base_ge hw
  have he := h.eq
  rw [List.take_length, List.take_of_length_le hl] at he
  have hav : val (2 ^ w) a = (A : Int) := by rw [ha, limbs_val hw]
  have hbv : val (2 ^ w) b = (B' : Int) := by rw [hb, limbs_val hw]
  have hfs := val_nonneg hB h.dig
  have hac := limbs_canon hw A
  rw [← ha] at hac
  have hc1 := h.c1
  have hc0 := h.c0
  constructor
  · intro hc
    have e : c = 1 := by omega
    subst e
    refine canon_eq hw ⟨dig_snoc h.dig (by omega) (by omega), .inr ?_⟩ ?_
    · rw [val_snoc, h.len]
      simp only [List.length_append, List.length_cons, List.length_nil, h.len, Nat.zero_add, Nat.add_sub_cancel]
      omega
    · rw [val_snoc, h.len, he, hav, hbv]; push_cast; rfl
  · intro hc
    have e : c = 0 := by omega
    subst e
    rw [Int.mul_zero, Int.add_zero] at he
    refine canon_eq hw ⟨h.dig, ?_⟩ (by rw [he, hav, hbv]; push_cast; rfl)
    rcases hac.2 with h1 | h1
    · left
      have h2 := h.len
      rw [h1] at h2
      exact List.length_eq_zero_iff.mp h2
    · right
      rw [h.len, he, hbv]
      omega
end Mine
end

section
open PySem PySem.W PySem.Calls PyProof.Rows
namespace Mine

structure Hold (P : Prop) : Prop where
  out : P
theorem unhold {P : Prop} (h : Hold P) : P := h.out

theorem kstB_id {m : Str → Option Value} {ps : List (Str × Value)} (h : ∀ p ∈ ps, m p.1 = some p.2) : kstB m ps = m := by
  funext y
  exact kstB_eq h fun _ => rfl

def TE {σ : Type} (h₀ : Heap) (L : Addr) (s : Shared) (Led : σ → List (Addr × Obj)) (ps : σ → List (Str × Value)) (P : σ → Prop) (own : List (Addr × Obj)) (s₂ : Shared) : Prop :=
  ∃ (c : σ) (h' : Heap) (tk' : Nat) (m' : Str → Option Value) (news' : List (Addr × Obj)), s₂ = { s with heap := h', toks := tk' } ∧ Fr h₀ L h' m' ∧ News h₀ L h' news' ∧
    (∀ p ∈ Led c, p ∈ news') ∧ (∀ p ∈ own, p ∈ news') ∧ (∀ p ∈ ps c, m' p.1 = some p.2) ∧ P c

def TP {σ : Type} (h₀ : Heap) (L : Addr) (s : Shared) (Led : σ → List (Addr × Obj)) (ps : σ → List (Str × Value)) (P : σ → Prop) (own : List (Addr × Obj)) (Q : Flow → Shared → Prop) (f : Flow) (s₂ : Shared) : Prop :=
  match f with
  | .ret v => Q (.ret v) s₂
  | .brk => Q .next s₂
  | _ => TE h₀ L s Led ps P own s₂

theorem TE.intro {σ : Type} {h₀ : Heap} {L : Addr} {s : Shared} {Led : σ → List (Addr × Obj)} {ps : σ → List (Str × Value)} {P : σ → Prop} {own : List (Addr × Obj)} {h' : Heap} {tk' : Nat} {m' : Str → Option Value} {news' : List (Addr × Obj)} (c : σ)
   (F : Fr h₀ L h' m') (N : News h₀ L h' news') (hl : ∀ p ∈ Led c, p ∈ news') (ho : ∀ p ∈ own, p ∈ news') (hm : ∀ p ∈ ps c, m' p.1 = some p.2) (hp : P c) : TE h₀ L s Led ps P own { s with heap := h', toks := tk' } :=
  ⟨c, h', tk', m', news', rfl, F, N, hl, ho, hm, hp⟩

theorem TP.nxt {σ : Type} {h₀ : Heap} {L : Addr} {s s₂ : Shared} {Led : σ → List (Addr × Obj)} {ps : σ → List (Str × Value)} {P : σ → Prop} {own : List (Addr × Obj)} {Q : Flow → Shared → Prop} (h : TE h₀ L s Led ps P own s₂) : TP h₀ L s Led ps P own Q .next s₂ := h

theorem toArr_push (l : List Value) (v : Value) : l.toArray.push v = (l ++ [v]).toArray := by simp

section
variable {prog : Program} {w : World} {A : Around} {E : Value → Shared → Prop} {s : Shared} {env : Env} {h₀ : Heap} {x : Str} {body : List Stmt} {Q : Flow → Shared → Prop}

theorem loop_gen {σ : Type} {I : Addr} {fp : List Addr} {n : Nat} {Pv : Nat → Value → Prop} {St : Nat → Heap → Prop} {m₀ : Str → Option Value} (icls : String)
    (Led : σ → List (Addr × Obj)) (ps : σ → List (Str × Value)) (P : Nat → σ → Prop) (c₀ : σ)
    (W : Walks prog w A I fp [I] n Pv St) (hSt : ∀ i h, St i h → ∃ o, h.get? I = some o ∧ o.cls = .type icls)
    (hL : env.locals ∉ fp) (hI0 : h₀.get? I = none) (hIfp : I ∈ fp)
    (hfp : ∀ b ∈ fp, b = I ∨ (∃ o, h₀.get? b = some o) ∨ ∃ o, ∀ c, (b, o) ∈ Led c)
    (hplain : ∀ c, ∀ p ∈ Led c, p.2.cls ≠ .type icls)
    (hst0 : St 0 s.heap) (F : Fr h₀ env.locals s.heap m₀) (N : News h₀ env.locals s.heap (Led c₀)) (hk : ∀ p ∈ ps c₀, m₀ p.1 = some p.2) (hp : P 0 c₀)
    (turn : ∀ (i : Nat) (c : σ) v (u : Str → Option Value) h tk oI, i < n → Pv i v → P i c → (∀ p ∈ Led c, p.1 ≠ I) →
      Fr h₀ env.locals h (fun y => if y = x then some v else kstB u (ps c) y) → News h₀ env.locals h (Led c ++ [(I, oI)]) →
      wpAny (model prog w) A (execs body env) (TP h₀ env.locals { s with heap := h, toks := tk } Led ps (P (i + 1)) [(I, oI)] Q) E { s with heap := h, toks := tk })
    (done : ∀ (c : σ) (u : Str → Option Value) h tk, P n c → Fr h₀ env.locals h (kstB u (ps c)) → News h₀ env.locals h (Led c) → Q .next { s with heap := h, toks := tk }) :
    LoopAtV prog w A h₀ env x body Q E (.ref I) s := by
  have off : ∀ {h : Heap} {c : σ} {i : Nat}, St i h → News h₀ env.locals h (Led c) → ∀ p ∈ Led c, p.1 ≠ I := by
    intro h c i st N1 p hp e
    obtain ⟨o, ho, hc⟩ := hSt _ _ st
    have h1 := (N1 p hp).1
    rw [e, ho] at h1
    exact hplain c p hp ((congrArg Obj.cls (Option.some.inj h1)) ▸ hc)
  let J' : Nat → (Str → Option Value) → List (Addr × Obj) → Prop := fun i m₁ news₁ => ∃ c, news₁ = Led c ∧ P i c ∧ ∀ p ∈ ps c, m₁ p.1 = some p.2
  refine ⟨I, fp, [I], n, Pv, St, m₀, Led c₀, J', rfl, W, hL, ?_, ?_, hst0, F, N, ⟨c₀, rfl, hp, hk⟩, ?_, ?_⟩
  · intro b hb
    rw [List.mem_singleton.mp hb]
    exact hI0
  · intro p hp hb
    exact off hst0 N p hp (List.mem_singleton.mp hb)
  · rintro i v m₁ news₁ s₁ own ⟨hh', tk', rfl⟩ hin hP ⟨c, rfl, hPc, hm⟩ hoff hown1 hown2 hown3 st F₁ N₁
    obtain ⟨oI, hoI, hcI⟩ := hSt _ _ st
    have hIown : (I, oI) ∈ own := hown3 I hIfp hI0 oI hoI
    have hoff' : ∀ p ∈ Led c, p.1 ≠ I := fun p hp e => hoff p hp (List.mem_singleton.mpr e)
    have e1 : kstB m₁ (ps c) = m₁ := kstB_id hm
    have F₂ : Fr h₀ env.locals hh' (fun y => if y = x then some v else kstB m₁ (ps c) y) := by rw [e1]; exact F₁
    have N₂ : News h₀ env.locals hh' (Led c ++ [(I, oI)]) := fun p hp => by
      rcases List.mem_append.mp hp with h | h
      · exact N₁ p (List.mem_append_right _ h)
      · rw [List.mem_singleton.mp h]
        exact N₁ _ (List.mem_append_left _ hIown)
    refine wpAny_mono (turn i c v m₁ hh' tk' oI hin hP hPc hoff' F₂ N₂) (fun f s₂ p => ?_) fun _ _ e => e
    have fin : TE h₀ env.locals { s with heap := hh', toks := tk' } Led ps (P (i + 1)) [(I, oI)] s₂ → LoopStepU h₀ env.locals [I] own (J' (i + 1)) { s with heap := hh', toks := tk' } .next s₂ := by
      rintro ⟨c', h', tk, m', news', e, F', N', hn, ho, hm', hP'⟩
      have hoI' := (N' _ (ho _ (List.mem_singleton.mpr rfl))).1
      refine ⟨rfl, h', tk, m', Led c', e, F', fun p hp => ?_, fun p hp hb => ?_, c', rfl, hP', hm'⟩
      · rcases List.mem_append.mp hp with h | h
        · rcases hfp p.1 (hown1 p h) with hb | ⟨o, hb⟩ | ⟨o, hb⟩
          · have h2 := hown2 p h
            have h3 : hh'.get? I = some p.2 := hb ▸ h2
            have h4 : some oI = some p.2 := hoI.symm.trans h3
            have h5 : p = (I, oI) := Prod.ext hb (Option.some.inj h4).symm
            rw [h5]
            exact N' _ (ho _ (List.mem_singleton.mpr rfl))
          · have h3 := (N₁ p (List.mem_append_left _ h)).2.2
            rw [hb] at h3; cases h3
          · have h3 := (N₁ _ (List.mem_append_right _ (hb c))).1
            have h4 := (N₁ p (List.mem_append_left _ h)).1
            have h5 : o = p.2 := Option.some.inj (h3.symm.trans h4)
            have h6 : p = (p.1, o) := Prod.ext rfl h5.symm
            rw [h6]
            exact N' _ (hn _ (hb c'))
        · exact N' p (hn p h)
      · have hb' := List.mem_singleton.mp hb
        have h1 := (N' p (hn p hp)).1
        rw [hb', hoI'] at h1
        exact hplain c' p hp ((congrArg Obj.cls (Option.some.inj h1)) ▸ hcI)
    cases f with
    | ret v => exact .ret p
    | brk => exact .brk p
    | next => exact .next (fin p)
    | cont => exact .cont (fin p)
  · rintro h' tk m' news' F' N' _ ⟨c, rfl, hPc, hm⟩
    have F₂ : Fr h₀ env.locals h' (kstB m' (ps c)) := by rw [kstB_id hm]; exact F'
    exact done c m' h' tk hPc F₂ N'

theorem my_range {σ : Type} {r : Addr} {a₀ b₀ c₀ : Int} {t₀ u₀ v₀ : Tok} {n : Nat} {m₀ : Str → Option Value} (Led : σ → List (Addr × Obj)) (ps : σ → List (Str × Value)) (P : Nat → σ → Prop) (c : σ)
    (hh : A.handled = none) (hr : IsRange s.heap r a₀ b₀ c₀ t₀ u₀ v₀) (hsmall : Builtin.Range.small a₀ b₀ c₀ = true) (hn : Builtin.Range.rangeSize a₀ b₀ c₀ = (n : Int))
    (hplain : ∀ c, ∀ p ∈ Led c, p.2.cls ≠ .type "range_iterator")
    (F : Fr h₀ env.locals s.heap m₀) (N : News h₀ env.locals s.heap (Led c)) (hk : ∀ p ∈ ps c, m₀ p.1 = some p.2) (hp : P 0 c)
    (turn : ∀ (i : Nat) (c : σ) t (u : Str → Option Value) h tk I oI, i < n → P i c → (∀ p ∈ Led c, p.1 ≠ I) →
      Fr h₀ env.locals h (fun y => if y = x then some (.int (a₀ + i * c₀) t) else kstB u (ps c) y) → News h₀ env.locals h (Led c ++ [(I, oI)]) →
      ∀ R : Flow → Shared → Prop, (∀ c' h' tk' m' news', Fr h₀ env.locals h' m' → News h₀ env.locals h' news' → (∀ p ∈ Led c', p ∈ news') → (I, oI) ∈ news' → (∀ p ∈ ps c', m' p.1 = some p.2) → P (i + 1) c' → R .next { s with heap := h', toks := tk' }) →
        (∀ v s', Q (.ret v) s' → R (.ret v) s') → wpAny (model prog w) A (execs body env) R E { s with heap := h, toks := tk })
    (done : ∀ (c : σ) (u : Str → Option Value) h tk, P n c → Fr h₀ env.locals h (kstB u (ps c)) → News h₀ env.locals h (Led c) → Q .next { s with heap := h, toks := tk }) :
    wpAny (model prog w) A (pyIter (.ref r)) (fun it s₂ => LoopAtV prog w A h₀ env x body Q E it s₂) E s := by
  refine wpAny_pyIter_range hr hsmall ?_
  have hs0 := next_is_new F
  refine loop_gen "range_iterator" Led ps P c (Walks.range hh s.heap.objs.size a₀ c₀ n) (fun i h st => ⟨_, st, rfl⟩) ?_ hs0 (List.mem_singleton.mpr rfl) (fun b hb => .inl (List.mem_singleton.mp hb)) hplain ?_ (F.push _) (fun p hp => ⟨Heap.get?_push_of_some _ (N p hp).1, (N p hp).2⟩) hk hp ?_ ?_
  · intro hm
    exact absurd F.ns.lt ((List.mem_singleton.mp hm) ▸ Nat.lt_irrefl _)
  · show IsRangeIter _ _ _ _ _
    rw [hn]
    simpa using Heap.get?_push_size _ rfl
  · rintro i c v u h tk oI hi ⟨t, rfl⟩ hPc hoff F' N'
    exact turn i c t u h tk _ oI hi hPc hoff F' N' _ (fun c' h' tk' m' news' F1 N1 a b d e => TP.nxt (TE.intro c' F1 N1 a (fun p hp => by rw [List.mem_singleton.mp hp]; exact b) d e)) (fun v s' q => q)
  · exact done

/-- over a list of the base or of the ledger -/
theorem my_list {σ : Type} {l : Addr} {vs : List Value} {m₀ : Str → Option Value} (Led : σ → List (Addr × Obj)) (ps : σ → List (Str × Value)) (P : Nat → σ → Prop) (c : σ)
    (hh : A.handled = none) (hls : s.heap.IsList l vs.toArray) (hl : (∃ o, h₀.get? l = some o) ∨ ∃ o, ∀ c, (l, o) ∈ Led c) (hlL : l ≠ env.locals)
    (hplain : ∀ c, ∀ p ∈ Led c, p.2.cls ≠ .type "list_iterator")
    (F : Fr h₀ env.locals s.heap m₀) (N : News h₀ env.locals s.heap (Led c)) (hk : ∀ p ∈ ps c, m₀ p.1 = some p.2) (hp : P 0 c)
    (turn : ∀ (i : Nat) (c : σ) v (u : Str → Option Value) h tk I oI, i < vs.length → vs[i]? = some v → P i c → (∀ p ∈ Led c, p.1 ≠ I) →
      Fr h₀ env.locals h (fun y => if y = x then some v else kstB u (ps c) y) → News h₀ env.locals h (Led c ++ [(I, oI)]) →
      ∀ R : Flow → Shared → Prop, (∀ c' h' tk' m' news', Fr h₀ env.locals h' m' → News h₀ env.locals h' news' → (∀ p ∈ Led c', p ∈ news') → (I, oI) ∈ news' → (∀ p ∈ ps c', m' p.1 = some p.2) → P (i + 1) c' → R .next { s with heap := h', toks := tk' }) →
        (∀ v s', Q (.ret v) s' → R (.ret v) s') → wpAny (model prog w) A (execs body env) R E { s with heap := h, toks := tk })
    (done : ∀ (c : σ) (u : Str → Option Value) h tk, P vs.length c → Fr h₀ env.locals h (kstB u (ps c)) → News h₀ env.locals h (Led c) → Q .next { s with heap := h, toks := tk }) :
    wpAny (model prog w) A (pyIter (.ref l)) (fun it s₂ => LoopAtV prog w A h₀ env x body Q E it s₂) E s := by
  obtain ⟨ol, hol, _⟩ := id hls
  have hne : l ≠ s.heap.objs.size := Nat.ne_of_lt (Heap.lt_size hol)
  refine wpAny_pyIter_list hls ?_
  have W := Walks.list (prog := prog) (w := w) hh s.heap.objs.size l hne vs.toArray
  have hlen : vs.toArray.size = vs.length := by simp
  rw [hlen] at W
  refine loop_gen "list_iterator" Led ps P c W (fun i h st => by obtain ⟨⟨o, ho, hc, _⟩, _⟩ := st; exact ⟨o, ho, hc⟩) ?_ (next_is_new F) (by simp) (fun b hb => ?_) hplain ⟨⟨_, Heap.get?_push_size _ rfl, rfl, rfl⟩, hls.at fun o e => Heap.get?_push_of_some _ e⟩ (F.push _) (fun p hp => ⟨Heap.get?_push_of_some _ (N p hp).1, (N p hp).2⟩) hk hp ?_ done
  · intro hm
    rcases List.mem_cons.mp hm with e | hm
    · exact absurd F.ns.lt (e ▸ Nat.lt_irrefl _)
    · exact hlL (List.mem_singleton.mp hm).symm
  · rcases List.mem_cons.mp hb with e | hb
    · exact .inl e
    · rw [List.mem_singleton.mp hb]
      exact .inr hl
  · rintro i c v u h tk oI hi hv hPc hoff F' N'
    exact turn i c v u h tk _ oI hi (by simpa using hv) hPc hoff F' N' _ (fun c' h' tk' m' news' F1 N1 a b d e => TP.nxt (TE.intro c' F1 N1 a (fun p hp => by rw [List.mem_singleton.mp hp]; exact b) d e)) (fun v s' q => q)

def TEW {σ : Type} (h₀ : Heap) (L : Addr) (s : Shared) (Led : σ → List (Addr × Obj)) (ps : σ → List (Str × Value)) (P : σ → Prop) (μ : σ → Nat) (k : Nat) (s₂ : Shared) : Prop :=
  TE h₀ L s Led ps (fun c => P c ∧ μ c < k) [] s₂
def TPW {σ : Type} (h₀ : Heap) (L : Addr) (s : Shared) (Led : σ → List (Addr × Obj)) (ps : σ → List (Str × Value)) (P : σ → Prop) (μ : σ → Nat) (k : Nat) (Q : Flow → Shared → Prop) (f : Flow) (s₂ : Shared) : Prop :=
  match f with
  | .ret v => Q (.ret v) s₂
  | .brk => Q .next s₂
  | _ => TEW h₀ L s Led ps P μ k s₂

theorem my_while {σ : Type} {test : Expr} {pos : Pos} {m₀ : Str → Option Value} (Led : σ → List (Addr × Obj)) (ps : σ → List (Str × Value)) (P : σ → Prop) (μ : σ → Nat) (c₀ : σ) {L : Addr}
    (F : Fr h₀ L s.heap m₀) (N : News h₀ L s.heap (Led c₀)) (hk : ∀ p ∈ ps c₀, m₀ p.1 = some p.2) (hp : P c₀)
    (turn : ∀ (c : σ) (u : Str → Option Value) h tk, P c → Fr h₀ L h (kstB u (ps c)) → News h₀ L h (Led c) →
      ∀ R : Flow → Shared → Prop, (∀ c' h' tk' m' news', Fr h₀ L h' m' → News h₀ L h' news' → (∀ p ∈ Led c', p ∈ news') → (∀ p ∈ ps c', m' p.1 = some p.2) → (P c' ∧ μ c' < μ c) → R .next { s with heap := h', toks := tk' }) →
        (∀ v s', Q (.ret v) s' → R (.ret v) s') → wpAny (model prog w) A (isTrue test env (eval test env)) (fun b s₂ =>
        if b = true then wpAny (model prog w) A (execs body env) R E s₂ else Q .next s₂) E { s with heap := h, toks := tk })
    (hE : PassesOwn (model prog w) A env E) :
    wpAny (model prog w) A (exec (.While test body [] pos) env) Q E s := by
  refine While_inv2 (fun n m nx => ∃ c : σ, nx = Led c ∧ μ c = n ∧ (∀ p ∈ ps c, m p.1 = some p.2) ∧ P c) F N ⟨c₀, rfl, rfl, hk, hp⟩ ?_ hE
  rintro n m₁ nx h tk F₁ N₁ ⟨c, rfl, rfl, h1, hp'⟩
  refine wpAny_mono (turn c m₁ h tk hp' (by rw [kstB_id h1]; exact F₁) N₁ (TPW h₀ L s Led ps P μ (μ c) Q) (fun c' h' tk' m' news' F1 N1 a d e => TE.intro c' F1 N1 a (fun _ h => nomatch h) d e) (fun v s' q => q)) (fun b s₂ p => ?_) fun _ _ x => x
  cases b with
  | false => simpa using p
  | true =>
    simp only [if_true] at p ⊢
    refine wpAny_mono p (fun f s₃ q => ?_) fun _ _ x => x
    cases f with
    | ret v => exact q
    | brk => exact q
    | next =>
      obtain ⟨c', h', tk', m', news', rfl, F', N', hn, _, hk9, hp9, hm9⟩ := q
      exact ⟨h', tk', m', Led c', μ c', rfl, F', fun p hp => N' p (hn p hp), hm9, c', rfl, rfl, hk9, hp9⟩
    | cont =>
      obtain ⟨c', h', tk', m', news', rfl, F', N', hn, _, hk9, hp9, hm9⟩ := q
      exact ⟨h', tk', m', Led c', μ c', rfl, F', fun p hp => N' p (hn p hp), hm9, c', rfl, rfl, hk9, hp9⟩

theorem execs_split {s1 : Stmt} {rest : List Stmt} (I : Shared → Prop) (h1 : wpAny (model prog w) A (exec s1 env) (fun f s' => Hold (f = .next ∧ I s')) E s)
    (h2 : ∀ s', I s' → wpAny (model prog w) A (execs rest env) Q E s') : wpAny (model prog w) A (execs (s1 :: rest) env) Q E s := by
  refine wpAny_execs_cons (wpAny_mono h1 (fun f s' h => ?_) fun _ _ x => x)
  obtain ⟨rfl, hI⟩ := h.out
  exact h2 s' hI
end
theorem prod2 {α β : Type} {M : α × β → Prop} (h : ∀ a b, M (a, b)) : ∀ x, M x := fun ⟨a, b⟩ => h a b
theorem prod3 {α β γ : Type} {M : α × β × γ → Prop} (h : ∀ a b c, M (a, b, c)) : ∀ x, M x := fun ⟨a, b, c⟩ => h a b c
theorem prod4 {α β γ δ : Type} {M : α × β × γ × δ → Prop} (h : ∀ a b c d, M (a, b, c, d)) : ∀ x, M x := fun ⟨a, b, c, d⟩ => h a b c d
theorem prod5 {α β γ δ ε : Type} {M : α × β × γ × δ × ε → Prop} (h : ∀ a b c d e, M (a, b, c, d, e)) : ∀ x, M x := fun ⟨a, b, c, d, e⟩ => h a b c d e
theorem prod6 {α β γ δ ε ζ : Type} {M : α × β × γ × δ × ε × ζ → Prop} (h : ∀ a b c d e f, M (a, b, c, d, e, f)) : ∀ x, M x := fun ⟨a, b, c, d, e, f⟩ => h a b c d e f
theorem prod7 {α β γ δ ε ζ η : Type} {M : α × β × γ × δ × ε × ζ × η → Prop} (h : ∀ a b c d e f g, M (a, b, c, d, e, f, g)) : ∀ x, M x := fun ⟨a, b, c, d, e, f, g⟩ => h a b c d e f g
theorem at0 {α : Type} {x : α} {l : List α} : x ∈ x :: l := List.mem_cons_self
theorem at1 {α : Type} {a0 x : α} {l : List α} : x ∈ a0 :: x :: l := List.mem_cons_of_mem _ List.mem_cons_self
theorem at2 {α : Type} {a0 a1 x : α} {l : List α} : x ∈ a0 :: a1 :: x :: l := List.mem_cons_of_mem _ (List.mem_cons_of_mem _ List.mem_cons_self)
theorem at3 {α : Type} {a0 a1 a2 x : α} {l : List α} : x ∈ a0 :: a1 :: a2 :: x :: l := List.mem_cons_of_mem _ (List.mem_cons_of_mem _ (List.mem_cons_of_mem _ List.mem_cons_self))
theorem at4 {α : Type} {a0 a1 a2 a3 x : α} {l : List α} : x ∈ a0 :: a1 :: a2 :: a3 :: x :: l := List.mem_cons_of_mem _ (List.mem_cons_of_mem _ (List.mem_cons_of_mem _ (List.mem_cons_of_mem _ List.mem_cons_self)))
theorem at5 {α : Type} {a0 a1 a2 a3 a4 x : α} {l : List α} : x ∈ a0 :: a1 :: a2 :: a3 :: a4 :: x :: l := List.mem_cons_of_mem _ (List.mem_cons_of_mem _ (List.mem_cons_of_mem _ (List.mem_cons_of_mem _ (List.mem_cons_of_mem _ List.mem_cons_self))))
theorem at6 {α : Type} {a0 a1 a2 a3 a4 a5 x : α} {l : List α} : x ∈ a0 :: a1 :: a2 :: a3 :: a4 :: a5 :: x :: l := List.mem_cons_of_mem _ (List.mem_cons_of_mem _ (List.mem_cons_of_mem _ (List.mem_cons_of_mem _ (List.mem_cons_of_mem _ (List.mem_cons_of_mem _ List.mem_cons_self)))))
theorem at7 {α : Type} {a0 a1 a2 a3 a4 a5 a6 x : α} {l : List α} : x ∈ a0 :: a1 :: a2 :: a3 :: a4 :: a5 :: a6 :: x :: l := List.mem_cons_of_mem _ (List.mem_cons_of_mem _ (List.mem_cons_of_mem _ (List.mem_cons_of_mem _ (List.mem_cons_of_mem _ (List.mem_cons_of_mem _ (List.mem_cons_of_mem _ List.mem_cons_self))))))
theorem at8 {α : Type} {a0 a1 a2 a3 a4 a5 a6 a7 x : α} {l : List α} : x ∈ a0 :: a1 :: a2 :: a3 :: a4 :: a5 :: a6 :: a7 :: x :: l := List.mem_cons_of_mem _ (List.mem_cons_of_mem _ (List.mem_cons_of_mem _ (List.mem_cons_of_mem _ (List.mem_cons_of_mem _ (List.mem_cons_of_mem _ (List.mem_cons_of_mem _ (List.mem_cons_of_mem _ List.mem_cons_self)))))))
theorem at9 {α : Type} {a0 a1 a2 a3 a4 a5 a6 a7 a8 x : α} {l : List α} : x ∈ a0 :: a1 :: a2 :: a3 :: a4 :: a5 :: a6 :: a7 :: a8 :: x :: l := List.mem_cons_of_mem _ (List.mem_cons_of_mem _ (List.mem_cons_of_mem _ (List.mem_cons_of_mem _ (List.mem_cons_of_mem _ (List.mem_cons_of_mem _ (List.mem_cons_of_mem _ (List.mem_cons_of_mem _ (List.mem_cons_of_mem _ List.mem_cons_self))))))))
theorem at10 {α : Type} {a0 a1 a2 a3 a4 a5 a6 a7 a8 a9 x : α} {l : List α} : x ∈ a0 :: a1 :: a2 :: a3 :: a4 :: a5 :: a6 :: a7 :: a8 :: a9 :: x :: l := List.mem_cons_of_mem _ (List.mem_cons_of_mem _ (List.mem_cons_of_mem _ (List.mem_cons_of_mem _ (List.mem_cons_of_mem _ (List.mem_cons_of_mem _ (List.mem_cons_of_mem _ (List.mem_cons_of_mem _ (List.mem_cons_of_mem _ (List.mem_cons_of_mem _ List.mem_cons_self)))))))))
theorem at11 {α : Type} {a0 a1 a2 a3 a4 a5 a6 a7 a8 a9 a10 x : α} {l : List α} : x ∈ a0 :: a1 :: a2 :: a3 :: a4 :: a5 :: a6 :: a7 :: a8 :: a9 :: a10 :: x :: l := List.mem_cons_of_mem _ (List.mem_cons_of_mem _ (List.mem_cons_of_mem _ (List.mem_cons_of_mem _ (List.mem_cons_of_mem _ (List.mem_cons_of_mem _ (List.mem_cons_of_mem _ (List.mem_cons_of_mem _ (List.mem_cons_of_mem _ (List.mem_cons_of_mem _ (List.mem_cons_of_mem _ List.mem_cons_self))))))))))
theorem at12 {α : Type} {a0 a1 a2 a3 a4 a5 a6 a7 a8 a9 a10 a11 x : α} {l : List α} : x ∈ a0 :: a1 :: a2 :: a3 :: a4 :: a5 :: a6 :: a7 :: a8 :: a9 :: a10 :: a11 :: x :: l := List.mem_cons_of_mem _ (List.mem_cons_of_mem _ (List.mem_cons_of_mem _ (List.mem_cons_of_mem _ (List.mem_cons_of_mem _ (List.mem_cons_of_mem _ (List.mem_cons_of_mem _ (List.mem_cons_of_mem _ (List.mem_cons_of_mem _ (List.mem_cons_of_mem _ (List.mem_cons_of_mem _ (List.mem_cons_of_mem _ List.mem_cons_self)))))))))))
theorem at13 {α : Type} {a0 a1 a2 a3 a4 a5 a6 a7 a8 a9 a10 a11 a12 x : α} {l : List α} : x ∈ a0 :: a1 :: a2 :: a3 :: a4 :: a5 :: a6 :: a7 :: a8 :: a9 :: a10 :: a11 :: a12 :: x :: l := List.mem_cons_of_mem _ (List.mem_cons_of_mem _ (List.mem_cons_of_mem _ (List.mem_cons_of_mem _ (List.mem_cons_of_mem _ (List.mem_cons_of_mem _ (List.mem_cons_of_mem _ (List.mem_cons_of_mem _ (List.mem_cons_of_mem _ (List.mem_cons_of_mem _ (List.mem_cons_of_mem _ (List.mem_cons_of_mem _ (List.mem_cons_of_mem _ List.mem_cons_self))))))))))))
theorem at14 {α : Type} {a0 a1 a2 a3 a4 a5 a6 a7 a8 a9 a10 a11 a12 a13 x : α} {l : List α} : x ∈ a0 :: a1 :: a2 :: a3 :: a4 :: a5 :: a6 :: a7 :: a8 :: a9 :: a10 :: a11 :: a12 :: a13 :: x :: l := List.mem_cons_of_mem _ (List.mem_cons_of_mem _ (List.mem_cons_of_mem _ (List.mem_cons_of_mem _ (List.mem_cons_of_mem _ (List.mem_cons_of_mem _ (List.mem_cons_of_mem _ (List.mem_cons_of_mem _ (List.mem_cons_of_mem _ (List.mem_cons_of_mem _ (List.mem_cons_of_mem _ (List.mem_cons_of_mem _ (List.mem_cons_of_mem _ (List.mem_cons_of_mem _ List.mem_cons_self)))))))))))))
theorem at15 {α : Type} {a0 a1 a2 a3 a4 a5 a6 a7 a8 a9 a10 a11 a12 a13 a14 x : α} {l : List α} : x ∈ a0 :: a1 :: a2 :: a3 :: a4 :: a5 :: a6 :: a7 :: a8 :: a9 :: a10 :: a11 :: a12 :: a13 :: a14 :: x :: l := List.mem_cons_of_mem _ (List.mem_cons_of_mem _ (List.mem_cons_of_mem _ (List.mem_cons_of_mem _ (List.mem_cons_of_mem _ (List.mem_cons_of_mem _ (List.mem_cons_of_mem _ (List.mem_cons_of_mem _ (List.mem_cons_of_mem _ (List.mem_cons_of_mem _ (List.mem_cons_of_mem _ (List.mem_cons_of_mem _ (List.mem_cons_of_mem _ (List.mem_cons_of_mem _ (List.mem_cons_of_mem _ List.mem_cons_self))))))))))))))
theorem at16 {α : Type} {a0 a1 a2 a3 a4 a5 a6 a7 a8 a9 a10 a11 a12 a13 a14 a15 x : α} {l : List α} : x ∈ a0 :: a1 :: a2 :: a3 :: a4 :: a5 :: a6 :: a7 :: a8 :: a9 :: a10 :: a11 :: a12 :: a13 :: a14 :: a15 :: x :: l := List.mem_cons_of_mem _ (List.mem_cons_of_mem _ (List.mem_cons_of_mem _ (List.mem_cons_of_mem _ (List.mem_cons_of_mem _ (List.mem_cons_of_mem _ (List.mem_cons_of_mem _ (List.mem_cons_of_mem _ (List.mem_cons_of_mem _ (List.mem_cons_of_mem _ (List.mem_cons_of_mem _ (List.mem_cons_of_mem _ (List.mem_cons_of_mem _ (List.mem_cons_of_mem _ (List.mem_cons_of_mem _ (List.mem_cons_of_mem _ List.mem_cons_self)))))))))))))))
theorem at17 {α : Type} {a0 a1 a2 a3 a4 a5 a6 a7 a8 a9 a10 a11 a12 a13 a14 a15 a16 x : α} {l : List α} : x ∈ a0 :: a1 :: a2 :: a3 :: a4 :: a5 :: a6 :: a7 :: a8 :: a9 :: a10 :: a11 :: a12 :: a13 :: a14 :: a15 :: a16 :: x :: l := List.mem_cons_of_mem _ (List.mem_cons_of_mem _ (List.mem_cons_of_mem _ (List.mem_cons_of_mem _ (List.mem_cons_of_mem _ (List.mem_cons_of_mem _ (List.mem_cons_of_mem _ (List.mem_cons_of_mem _ (List.mem_cons_of_mem _ (List.mem_cons_of_mem _ (List.mem_cons_of_mem _ (List.mem_cons_of_mem _ (List.mem_cons_of_mem _ (List.mem_cons_of_mem _ (List.mem_cons_of_mem _ (List.mem_cons_of_mem _ (List.mem_cons_of_mem _ List.mem_cons_self))))))))))))))))
theorem at18 {α : Type} {a0 a1 a2 a3 a4 a5 a6 a7 a8 a9 a10 a11 a12 a13 a14 a15 a16 a17 x : α} {l : List α} : x ∈ a0 :: a1 :: a2 :: a3 :: a4 :: a5 :: a6 :: a7 :: a8 :: a9 :: a10 :: a11 :: a12 :: a13 :: a14 :: a15 :: a16 :: a17 :: x :: l := List.mem_cons_of_mem _ (List.mem_cons_of_mem _ (List.mem_cons_of_mem _ (List.mem_cons_of_mem _ (List.mem_cons_of_mem _ (List.mem_cons_of_mem _ (List.mem_cons_of_mem _ (List.mem_cons_of_mem _ (List.mem_cons_of_mem _ (List.mem_cons_of_mem _ (List.mem_cons_of_mem _ (List.mem_cons_of_mem _ (List.mem_cons_of_mem _ (List.mem_cons_of_mem _ (List.mem_cons_of_mem _ (List.mem_cons_of_mem _ (List.mem_cons_of_mem _ (List.mem_cons_of_mem _ List.mem_cons_self)))))))))))))))))
theorem at19 {α : Type} {a0 a1 a2 a3 a4 a5 a6 a7 a8 a9 a10 a11 a12 a13 a14 a15 a16 a17 a18 x : α} {l : List α} : x ∈ a0 :: a1 :: a2 :: a3 :: a4 :: a5 :: a6 :: a7 :: a8 :: a9 :: a10 :: a11 :: a12 :: a13 :: a14 :: a15 :: a16 :: a17 :: a18 :: x :: l := List.mem_cons_of_mem _ (List.mem_cons_of_mem _ (List.mem_cons_of_mem _ (List.mem_cons_of_mem _ (List.mem_cons_of_mem _ (List.mem_cons_of_mem _ (List.mem_cons_of_mem _ (List.mem_cons_of_mem _ (List.mem_cons_of_mem _ (List.mem_cons_of_mem _ (List.mem_cons_of_mem _ (List.mem_cons_of_mem _ (List.mem_cons_of_mem _ (List.mem_cons_of_mem _ (List.mem_cons_of_mem _ (List.mem_cons_of_mem _ (List.mem_cons_of_mem _ (List.mem_cons_of_mem _ (List.mem_cons_of_mem _ List.mem_cons_self))))))))))))))))))
theorem hideQ {α : Type} {M : Model} {A : Around} {E : Value → Shared → Prop} {s : Shared} {t : Sem α} {Q : α → Shared → Prop}
    (h : ∀ R : α → Shared → Prop, (∀ a s', Q a s' → R a s') → wpAny M A t R E s) : wpAny M A t Q E s := h Q fun _ _ x => x

end Mine
end

section
open PySem PySem.W PyProof.Rows
namespace Mine
def cmpI (A B : Nat) : Int := if A < B then -1 else if A = B then 0 else 1
theorem limbs_inj {w : Nat} (hw : 0 < w) {A B : Nat} (h : limbs w A = limbs w B) : A = B := by
  have h1 := limbs_val hw A
  rw [h, limbs_val hw B] at h1
  omega
theorem cmp_len {w : Nat} (hw : 0 < w) {A B : Nat} (h : (limbs w A).length < (limbs w B).length) : A < B := by
  have h1 := canon_len (base_ge hw) (limbs_canon hw A) (limbs_canon hw B) h
  rw [limbs_val hw, limbs_val hw] at h1
  omega
/-- equal above place k, and less there -/
theorem cmp_at {B : Int} (hB : 2 ≤ B) : ∀ {a b : List Int} (k : Nat), Dig B a → Dig B b → a.length = b.length → (∀ j, k < j → a[j]? = b[j]?) → a.getD k 0 < b.getD k 0 → val B a < val B b
  | [], [], _, _, _, _, _, h => by simp at h
  | [], _ :: _, _, _, _, hl, _, _ => by simp at hl
  | _ :: _, [], _, _, _, hl, _, _ => by simp at hl
  | x :: r, y :: q, 0, ha, hb, hl, he, h => by
    have e : r = q := List.ext_getElem? fun j => by simpa using he (j + 1) (by omega)
    subst e
    simp at h
    show x + B * val B r < y + B * val B r
    omega
  | x :: r, y :: q, k + 1, ha, hb, hl, he, h => by
    have ih := cmp_at hB (a := r) (b := q) k (fun z hz => ha z (.tail _ hz)) (fun z hz => hb z (.tail _ hz)) (by simpa using hl) (fun j hj => by simpa using he (j + 1) (by omega)) (by simpa using h)
    have h1 := ha x (.head _)
    have h2 := hb y (.head _)
    show x + B * val B r < y + B * val B q
    have h3 : B * (val B r + 1) ≤ B * val B q := Int.mul_le_mul_of_nonneg_left (by omega) (by omega)
    rw [Int.mul_add, Int.mul_one] at h3
    omega
theorem cmp_lt {w : Nat} (hw : 0 < w) {A B : Nat} (k : Nat) (hl : (limbs w A).length = (limbs w B).length) (he : ∀ j, k < j → (limbs w A)[j]? = (limbs w B)[j]?) (h : (limbs w A).getD k 0 < (limbs w B).getD k 0) : A < B := by
  have h1 := cmp_at (base_ge hw) k (limbs_dig hw A) (limbs_dig hw B) hl he h
  rw [limbs_val hw, limbs_val hw] at h1
  omega
theorem cmpI_lt {A B : Nat} (h : A < B) : cmpI A B = -1 := if_pos h
theorem cmpI_gt {A B : Nat} (h : B < A) : cmpI A B = 1 := by unfold cmpI; rw [if_neg (by omega), if_neg (by omega)]
theorem cmpI_eq {A B : Nat} (h : A = B) : cmpI A B = 0 := by unfold cmpI; rw [if_neg (by omega), if_pos h]
theorem getD_ne_getElem? {a b : List Int} {k : Nat} (ha : k < a.length) (hb : k < b.length) (h : a.getD k 0 = b.getD k 0) : a[k]? = b[k]? := by
  rw [List.getD_eq_getElem?_getD, List.getD_eq_getElem?_getD, List.getElem?_eq_getElem ha, List.getElem?_eq_getElem hb] at h
  rw [List.getElem?_eq_getElem ha, List.getElem?_eq_getElem hb]
  simpa using h

/-! trim -/
def trim (a : List Int) : List Int := (a.reverse.dropWhile (· == 0)).reverse
theorem trim_snoc0 (a : List Int) : trim (a ++ [0]) = trim a := by simp [trim]
theorem trim_snoc {a : List Int} {x : Int} (h : x ≠ 0) : trim (a ++ [x]) = a ++ [x] := by simp [trim, h]
theorem getD_left {a b : List Int} {k : Nat} (h : k < a.length) : (a ++ b).getD k 0 = a.getD k 0 := by
  rw [List.getD_eq_getElem?_getD, List.getD_eq_getElem?_getD, List.getElem?_append_left h]
theorem take_trim : ∀ (k : Nat) (d : Nat) (a : List Int), a.length = k + d → (∀ j, k < j → j ≤ a.length → a.getD (j - 1) 0 = 0) → (k = 0 ∨ a.getD (k - 1) 0 ≠ 0) → a.take k = trim a := by
  intro k d
  induction d with
  | zero =>
    intro a hl _ hk
    rw [List.take_of_length_le (by omega)]
    rcases List.eq_nil_or_concat a with rfl | ⟨b, x, rfl⟩
    · rfl
    · rw [List.concat_eq_append] at *
      rw [List.length_append, List.length_singleton] at hl
      rcases hk with hk | hk
      · omega
      · have e : k - 1 = b.length := by omega
        rw [e] at hk
        simp at hk
        rw [trim_snoc hk]
  | succ d ih =>
    intro a hl h0 hk
    rcases List.eq_nil_or_concat a with rfl | ⟨b, x, rfl⟩
    · simp at hl
    · rw [List.concat_eq_append] at *
      have hl' := hl
      rw [List.length_append, List.length_singleton] at hl'
      have hx := h0 (b.length + 1) (by omega) (by simp)
      simp at hx
      subst hx
      rw [trim_snoc0, List.take_append_of_le_length (by omega)]
      refine ih b (by omega) (fun j h1 h2 => ?_) ?_
      · have := h0 j h1 (by simp; omega)
        rw [getD_left (by omega)] at this
        exact this
      · rcases hk with hk | hk
        · exact .inl hk
        · by_cases hk0 : k = 0
          · exact .inl hk0
          · right
            rw [getD_left (by omega)] at hk
            exact hk
theorem trim_val (B : Int) : ∀ (n : Nat) (a : List Int), a.length = n → val B (trim a) = val B a := by
  intro n
  induction n with
  | zero => intro a h; rw [List.length_eq_zero_iff.mp h]; rfl
  | succ n ih =>
    intro a h
    rcases List.eq_nil_or_concat a with rfl | ⟨b, x, rfl⟩
    · rfl
    · rw [List.concat_eq_append] at *
      rw [List.length_append, List.length_singleton] at h
      by_cases hx : x = 0
      · subst hx
        rw [trim_snoc0, ih b (by omega), val_snoc, Int.mul_zero, Int.add_zero]
      · rw [trim_snoc hx]
theorem trim_canon {B : Int} (hB : 2 ≤ B) : ∀ (n : Nat) (a : List Int), a.length = n → Dig B a → Canon B (trim a) := by
  intro n
  induction n with
  | zero => intro a h _; rw [List.length_eq_zero_iff.mp h]; exact ⟨fun _ h => (nomatch h), .inl rfl⟩
  | succ n ih =>
    intro a h hd
    rcases List.eq_nil_or_concat a with rfl | ⟨b, x, rfl⟩
    · exact ⟨fun _ h => (nomatch h), .inl rfl⟩
    · rw [List.concat_eq_append] at *
      rw [List.length_append, List.length_singleton] at h
      have hb : Dig B b := fun y hy => hd y (List.mem_append_left _ hy)
      have hxx := hd x (List.mem_append_right _ (List.mem_singleton.mpr rfl))
      by_cases hx : x = 0
      · subst hx
        rw [trim_snoc0]
        exact ih b (by omega) hb
      · rw [trim_snoc hx]
        refine ⟨hd, .inr ?_⟩
        rw [val_snoc]
        simp only [List.length_append, List.length_cons, List.length_nil, Nat.zero_add, Nat.add_sub_cancel]
        have h1 := val_nonneg hB hb
        have h2 : B ^ b.length * 1 ≤ B ^ b.length * x := Int.mul_le_mul_of_nonneg_left (by omega) (Int.le_of_lt (pow_pos' hB _))
        omega
theorem trim_limbs {w : Nat} (hw : 0 < w) {a : List Int} {N : Nat} (hd : Dig (2 ^ w) a) (hv : val (2 ^ w) a = N) : trim a = limbs w N :=
  canon_eq hw (trim_canon (base_ge hw) _ a rfl hd) (by rw [trim_val _ _ a rfl, hv])
end Mine
end

section
open PySem PySem.W PyProof.Rows
namespace Mine
structure SubInv (B : Int) (a b : List Int) (i : Nat) (fs : List Int) (c : Int) : Prop where
  len : fs.length = i
  dig : Dig B fs
  c0 : 0 ≤ c
  c1 : c ≤ 1
  eq : val B fs + val B (b.take i) = val B (a.take i) + B ^ i * c
theorem SubInv.zero {B : Int} {a b : List Int} : SubInv B a b 0 [] 0 := ⟨rfl, fun _ h => (nomatch h), by omega, by omega, by simp [val]⟩
theorem SubInv.neg {B : Int} (hB : 2 ≤ B) {a b : List Int} {i : Nat} {fs : List Int} {c x y : Int} (h : SubInv B a b i fs c) (ha : Dig B a) (hb : Dig B b) (hx : a.getD i 0 = x) (hy : b.getD i 0 = y) (hn : x - c - y < 0) :
    SubInv B a b (i + 1) (fs ++ [x - c - y + B]) 1 := by
  have h1 := dig_getD ha hB i
  have h2 := dig_getD hb hB i
  rw [hx] at h1
  rw [hy] at h2
  have hc0 := h.c0
  have hc1 := h.c1
  refine ⟨by simp [h.len], dig_snoc h.dig (by omega) (by omega), by omega, by omega, ?_⟩
  rw [val_snoc, h.len, val_take_any B a, val_take_any B b, Int.pow_succ, hx, hy]
  have he := h.eq
  generalize B ^ i = P at *
  grind
theorem SubInv.pos {B : Int} (hB : 2 ≤ B) {a b : List Int} {i : Nat} {fs : List Int} {c x y : Int} (h : SubInv B a b i fs c) (ha : Dig B a) (hb : Dig B b) (hx : a.getD i 0 = x) (hy : b.getD i 0 = y) (hn : ¬ x - c - y < 0) :
    SubInv B a b (i + 1) (fs ++ [x - c - y]) 0 := by
  have h1 := dig_getD ha hB i
  have h2 := dig_getD hb hB i
  rw [hx] at h1
  rw [hy] at h2
  have hc0 := h.c0
  have hc1 := h.c1
  refine ⟨by simp [h.len], dig_snoc h.dig (by omega) (by omega), by omega, by omega, ?_⟩
  rw [val_snoc, h.len, val_take_any B a, val_take_any B b, Int.pow_succ, hx, hy]
  have he := h.eq
  generalize B ^ i = P at *
  grind
theorem limbs_len_le {w : Nat} (hw : 0 < w) {A B : Nat} (h : A ≤ B) : (limbs w A).length ≤ (limbs w B).length := by
  by_cases hl : (limbs w B).length < (limbs w A).length
  · have := cmp_len hw hl
    omega
  · omega
theorem sub_done {w : Nat} (hw : 0 < w) {A B' : Nat} (hAB : B' ≤ A) {a b : List Int} (ha : a = limbs w A) (hb : b = limbs w B') {fs : List Int} {c : Int} (h : SubInv (2 ^ w) a b a.length fs c) : trim fs = limbs w (A - B') := by
  have hB := base_ge hw
  have hl : b.length ≤ a.length := by rw [ha, hb]; exact limbs_len_le hw hAB
  have he := h.eq
  rw [List.take_length, List.take_of_length_le hl] at he
  have hav : val (2 ^ w) a = (A : Int) := by rw [ha, limbs_val hw]
  have hbv : val (2 ^ w) b = (B' : Int) := by rw [hb, limbs_val hw]
  have hfl := val_lt hB h.dig
  rw [h.len] at hfl
  have hc1 := h.c1
  have hc0 := h.c0
  have e : c = 0 := by
    by_cases h1 : c = 1
    · subst h1
      omega
    · omega
  subst e
  exact trim_limbs hw h.dig (by omega)
end Mine
end

section
open PySem PySem.W PySem.Calls PyProof.Rows
namespace Mine
theorem fr_up {h₀ h h' : Heap} {L : Addr} {m : Str → Option Value} (F : Fr h₀ L h m) (k : h.StaysIn h') : Fr h₀ L h' m := by
  obtain ⟨oL, a1, a2, hL, a3⟩ := F.ns
  exact ⟨⟨oL, a1, a2, k _ _ hL, a3⟩, fun b o e => k _ _ (F.keep b o e), F.above⟩
theorem news_up {h₀ h h' : Heap} {L : Addr} {news : List (Addr × Obj)} (N : News h₀ L h news) (k : h.StaysIn h') : News h₀ L h' news := fun p hp => ⟨k _ _ (N p hp).1, (N p hp).2⟩
theorem news_add {h₀ h h' : Heap} {L r : Addr} {o : Obj} {m : Str → Option Value} {news : List (Addr × Obj)} (F : Fr h₀ L h m) (N : News h₀ L h news) (k : h.StaysIn h') (hr : h.get? r = none) (hg : h'.get? r = some o) : News h₀ L h' ((r, o) :: news) := by
  intro p hp
  rcases List.mem_cons.mp hp with rfl | hp
  · refine ⟨hg, fun e => ?_, ?_⟩
    · obtain ⟨oL, a1, a2, hL, a3⟩ := F.ns
      have e' : r = L := e
      rw [e', hL] at hr; cases hr
    · cases q : h₀.get? r with
      | none => rfl
      | some o' => rw [F.keep _ _ q] at hr; cases hr
  · exact news_up N k p hp
theorem news_off {h₀ h : Heap} {L r : Addr} {news : List (Addr × Obj)} (N : News h₀ L h news) (hr : h.get? r = none) : ∀ p ∈ news, p.1 ≠ r := fun p hp e => by
  have := (N p hp).1
  rw [e, hr] at this; cases this
end Mine
end

section
open PySem PySem.W PyProof.Rows
namespace Mine
theorem bitOr_shl {c x : Int} {f : Nat} (h0 : 0 ≤ c) (h1 : c < 2 ^ f) (hx : 0 ≤ x) : Builtin.bitOr c (x * 2 ^ f) = c + x * 2 ^ f := by
  have hp : (0 : Int) < 2 ^ f := Int.pow_pos (by omega)
  have hy : 0 ≤ x * 2 ^ f := Int.mul_nonneg hx (by omega)
  rw [bitOr_and, bitAnd_pp h0 hy]
  have e : c.toNat &&& (x * 2 ^ f).toNat = 0 := by
    have e1 : (x * 2 ^ f).toNat = x.toNat * 2 ^ f := by
      have : (((x * 2 ^ f).toNat : Nat) : Int) = ((x.toNat * 2 ^ f : Nat) : Int) := by
        push_cast
        rw [Int.toNat_of_nonneg hy, Int.toNat_of_nonneg hx]
      exact_mod_cast this
    have e2 : c.toNat < 2 ^ f := by
      have : ((c.toNat : Nat) : Int) < ((2 ^ f : Nat) : Int) := by
        rw [Int.toNat_of_nonneg h0]; push_cast; exact h1
      exact_mod_cast this
    rw [e1]
    apply Nat.eq_of_testBit_eq
    intro i
    rw [Nat.testBit_and, Nat.zero_testBit, Nat.testBit_mul_two_pow]
    by_cases hi : f ≤ i
    · have : c.toNat.testBit i = false := Nat.testBit_lt_two_pow (Nat.lt_of_lt_of_le e2 (Nat.pow_le_pow_right (by omega) hi))
      rw [this]; rfl
    · simp [hi]
  rw [e]
  simp
theorem pow_le_512 {w : Nat} (hw : w ≤ 9) : (2 : Int) ^ w ≤ 512 := by
  have h : 2 ^ w ≤ 2 ^ 9 := Nat.pow_le_pow_right (by omega) hw
  have h2 : ((2 ^ w : Nat) : Int) ≤ ((2 ^ 9 : Nat) : Int) := Int.ofNat_le.mpr h
  have e : ((2 ^ w : Nat) : Int) = (2 : Int) ^ w := Int.natCast_pow 2 w
  rw [e] at h2
  exact h2
structure ShlInv (B F : Int) (a : List Int) (sp i : Nat) (fs : List Int) (c : Int) : Prop where
  len : fs.length = sp + i
  dig : Dig B fs
  c0 : 0 ≤ c
  c1 : c < F
  eq : val B fs + B ^ (sp + i) * c = B ^ sp * F * val B (a.take i)
theorem ShlInv.zero {B F : Int} (hB : 2 ≤ B) (hF : 0 < F) {a : List Int} {sp : Nat} : ShlInv B F a sp 0 (List.replicate sp 0) 0 :=
  ⟨by simp, fun x h => by rw [(List.mem_replicate.mp h).2]; omega, by omega, hF, by simp [val, val_zeros]⟩
theorem ShlInv.step {B F : Int} (hB : 2 ≤ B) (hF : 0 < F) {a : List Int} {sp i : Nat} {fs : List Int} {c : Int} (h : ShlInv B F a sp i fs c) (ha : Dig B a) :
    ShlInv B F a sp (i + 1) (fs ++ [(c + a.getD i 0 * F) % B]) ((c + a.getD i 0 * F) / B) := by
  have h1 := dig_getD ha hB i
  have hc0 := h.c0
  have hc1 := h.c1
  have hxF : 0 ≤ a.getD i 0 * F := Int.mul_nonneg h1.1 (by omega)
  have hxF2 : (a.getD i 0 + 1) * F ≤ B * F := Int.mul_le_mul_of_nonneg_right (by omega) (by omega)
  rw [Int.add_mul, Int.one_mul] at hxF2
  have hm0 := Int.emod_nonneg (c + a.getD i 0 * F) (b := B) (by omega)
  have hm1 := Int.emod_lt_of_pos (c + a.getD i 0 * F) (b := B) (by omega)
  have hd0 : 0 ≤ (c + a.getD i 0 * F) / B := Int.ediv_nonneg (by omega) (by omega)
  have hd1 : (c + a.getD i 0 * F) / B < F := Int.ediv_lt_of_lt_mul (by omega) (by rw [Int.mul_comm F B]; omega)
  have hed := Int.emod_add_mul_ediv (c + a.getD i 0 * F) B
  refine ⟨by simp [h.len]; omega, dig_snoc h.dig hm0 hm1, hd0, hd1, ?_⟩
  rw [val_snoc, h.len, val_take_any B a, ← Nat.add_assoc, Int.pow_succ]
  have he := h.eq
  rw [Int.pow_add] at he ⊢
  generalize (c + a.getD i 0 * F) % B = q at *
  generalize (c + a.getD i 0 * F) / B = d at *
  generalize B ^ i = P at *
  generalize B ^ sp = S at *
  generalize a.getD i 0 = x at *
  generalize val B fs = V at *
  generalize val B (List.take i a) = U at *
  grind
theorem shl_done {w f : Nat} (hw : 0 < w) (hf : f < w) {A sp n : Nat} (hA : A ≠ 0) {a : List Int} (ha : a = limbs w A) (hn : n = w * sp + f) {fs : List Int} {c : Int} (h : ShlInv (2 ^ w) (2 ^ f) a sp a.length fs c) :
    (0 < c → fs ++ [c] = limbs w (A * 2 ^ n)) ∧ (¬ 0 < c → fs = limbs w (A * 2 ^ n)) := by
  have hB := base_ge hw
  have he := h.eq
  rw [List.take_length] at he
  have hav : val (2 ^ w) a = (A : Int) := by rw [ha, limbs_val hw]
  rw [hav] at he
  have hfs := val_nonneg hB h.dig
  have hac := limbs_canon hw A
  rw [← ha] at hac
  have hc1 := h.c1
  have hc0 := h.c0
  have hpf : (1 : Int) ≤ 2 ^ f := Int.pow_pos (by omega)
  have hfB : (2 : Int) ^ f ≤ 2 ^ w := by
    have h1 : 2 ^ f ≤ 2 ^ w := Nat.pow_le_pow_right (by omega) (by omega)
    exact_mod_cast h1
  have hval : ((A * 2 ^ n : Nat) : Int) = (2 ^ w) ^ sp * 2 ^ f * (A : Int) := by
    rw [hn, Nat.pow_add, Nat.pow_mul]
    push_cast
    rw [Int.mul_comm]
  have hane : a ≠ [] := by
    intro e
    rw [e] at hav
    simp [val] at hav
    omega
  have hS : (0 : Int) < (2 ^ w) ^ sp := pow_pos' hB sp
  constructor
  · intro hc
    refine canon_eq hw ⟨dig_snoc h.dig (by omega) (by omega), .inr ?_⟩ ?_
    · rw [val_snoc, h.len]
      simp only [List.length_append, List.length_cons, List.length_nil, h.len, Nat.zero_add, Nat.add_sub_cancel]
      have h2 : ((2 : Int) ^ w) ^ (sp + a.length) * 1 ≤ (2 ^ w) ^ (sp + a.length) * c := Int.mul_le_mul_of_nonneg_left (by omega) (Int.le_of_lt (pow_pos' hB _))
      omega
    · rw [val_snoc, h.len, he, hval]
  · intro hc
    have e : c = 0 := by omega
    subst e
    rw [Int.mul_zero, Int.add_zero] at he
    refine canon_eq hw ⟨h.dig, .inr ?_⟩ (by rw [he, hval])
    rw [h.len, he]
    rcases hac.2 with h1 | h1
    · exact absurd h1 hane
    · have hl : a.length ≠ 0 := fun e => hane (List.length_eq_zero_iff.mp e)
      have e2 : sp + a.length - 1 = sp + (a.length - 1) := by omega
      rw [e2, Int.pow_add, ← hav]
      have h3 : ((2 : Int) ^ w) ^ sp * (2 ^ w) ^ (a.length - 1) ≤ (2 ^ w) ^ sp * val (2 ^ w) a := Int.mul_le_mul_of_nonneg_left h1 (by omega)
      have hv0 : 0 ≤ val (2 ^ w) a := by rw [hav]; omega
      have h4 : (2 ^ w) ^ sp * 1 ≤ ((2 : Int) ^ w) ^ sp * 2 ^ f := Int.mul_le_mul_of_nonneg_left hpf (by omega)
      have h5 : (2 ^ w) ^ sp * 1 * val (2 ^ w) a ≤ ((2 : Int) ^ w) ^ sp * 2 ^ f * val (2 ^ w) a := Int.mul_le_mul_of_nonneg_right h4 hv0
      rw [Int.mul_one] at h5
      omega
end Mine
end

section
open PySem PySem.W PyProof.Rows
namespace Mine
def bl (N : Nat) : Nat := if N = 0 then 0 else N.log2 + 1
theorem bl_lt (N : Nat) : N < 2 ^ bl N := by
  unfold bl
  split
  · subst_vars; decide
  · rename_i h
    exact (Nat.log2_lt h).mp (Nat.lt_succ_self _)
theorem bl_ge {N : Nat} (h : N ≠ 0) : 2 ^ (bl N - 1) ≤ N := by
  unfold bl
  rw [if_neg h]
  exact (Nat.le_log2 h).mp (Nat.le_refl _)
theorem bl_unique {N k : Nat} (h1 : N < 2 ^ k) (h2 : k = 0 ∨ 2 ^ (k - 1) ≤ N) : bl N = k := by
  by_cases hN : N = 0
  · subst hN
    rcases h2 with rfl | h2
    · rfl
    · have := Nat.two_pow_pos (k - 1); omega
  · have h3 := bl_lt N
    have h4 := bl_ge hN
    have hk : k ≠ 0 := by
      intro e; subst e; simp at h1; omega
    rcases h2 with h2 | h2
    · exact absurd h2 hk
    · have h5 : 2 ^ (k - 1) < 2 ^ bl N := by omega
      have h6 : 2 ^ (bl N - 1) < 2 ^ k := by omega
      have h7 := (Nat.pow_lt_pow_iff_right (a := 2) (by omega)).mp h5
      have h8 := (Nat.pow_lt_pow_iff_right (a := 2) (by omega)).mp h6
      omega
theorem bl_le {N k : Nat} (h : N < 2 ^ k) : bl N ≤ k := by
  by_cases hN : N = 0
  · subst hN; simp [bl]
  · have h4 := bl_ge hN
    have h6 : 2 ^ (bl N - 1) < 2 ^ k := by omega
    have h8 := (Nat.pow_lt_pow_iff_right (a := 2) (by omega)).mp h6
    omega
theorem limbs_ne {w : Nat} (hw : 0 < w) {A : Nat} (h : A ≠ 0) : (limbs w A).length ≠ 0 := by
  rw [limbs_pos hw h]; simp
theorem bits_done {w : Nat} (hw : 0 < w) {A : Nat} (h : 0 < (limbs w A).length) : ((limbs w A).length - 1) * w + Builtin.Int.intBits ((limbs w A).getD ((limbs w A).length - 1) 0) = bl A := by
  have hB := base_ge hw
  have hA : A ≠ 0 := by
    intro e; subst e; simp [limbs_zero] at h
  have hv := limbs_val hw A
  have hd := limbs_dig hw A
  have hc := limbs_canon hw A
  generalize limbs w A = a at *
  obtain ⟨k, hk⟩ := Nat.exists_eq_succ_of_ne_zero (show a.length ≠ 0 by omega)
  have hk' : a.length - 1 = k := by omega
  rw [hk']
  have hx := dig_getD hd hB k
  have e := val_take_succ (2 ^ w) a k (by omega)
  rw [List.take_of_length_le (by omega), hv] at e
  have hV0 := val_nonneg hB (dig_take hd k)
  have hV1 := val_lt hB (dig_take hd k)
  have hl : (a.take k).length = k := by rw [List.length_take]; omega
  rw [hl] at hV1
  have hge : ((2 : Int) ^ w) ^ k ≤ A := by
    rcases hc.2 with h1 | h1
    · rw [h1] at h; simp at h
    · rw [hk', hv] at h1; exact h1
  have hP : (0 : Int) < (2 ^ w) ^ k := pow_pos' hB k
  have hx1 : 1 ≤ a.getD k 0 := by
    by_cases h0 : a.getD k 0 = 0
    · rw [h0, Int.mul_zero] at e; omega
    · omega
  have hPN : ((2 : Int) ^ w) ^ k = ((2 ^ (w * k) : Nat) : Int) := by
    rw [← Int.pow_mul]; push_cast; rfl
  obtain ⟨X, hX⟩ := Int.eq_ofNat_of_zero_le hx.1
  rw [hX] at e hx1 ⊢
  have hbx : Builtin.Int.intBits ((X : Nat) : Int) = bl X := by
    unfold Builtin.Int.intBits bl
    have hX0 : X ≠ 0 := by omega
    rw [if_neg (by simpa using hX0), if_neg hX0]
    rfl
  rw [hbx]
  have hX0 : X ≠ 0 := by omega
  have h1 := bl_lt X
  have h2 := bl_ge hX0
  rw [hPN] at e hV1
  have eN : val (2 ^ w) (List.take k a) + ((2 ^ (w * k) * X : Nat) : Int) = (A : Int) := by
    rw [e]; push_cast; rfl
  have hlo : 2 ^ (w * k) * X ≤ A := by omega
  have hhi : A < 2 ^ (w * k) * (X + 1) := by
    rw [Nat.mul_add, Nat.mul_one]; omega
  have hwk : k * w = w * k := Nat.mul_comm _ _
  rw [hwk]
  symm
  refine bl_unique ?_ (.inr ?_)
  · rw [Nat.pow_add]
    have : 2 ^ (w * k) * (X + 1) ≤ 2 ^ (w * k) * 2 ^ bl X := Nat.mul_le_mul_left _ h1
    omega
  · have hbl : bl X ≠ 0 := by unfold bl; rw [if_neg hX0]; omega
    have e3 : w * k + bl X - 1 = w * k + (bl X - 1) := by omega
    rw [e3, Nat.pow_add]
    have : 2 ^ (w * k) * 2 ^ (bl X - 1) ≤ 2 ^ (w * k) * X := Nat.mul_le_mul_left _ h2
    omega
theorem bits_zero {w : Nat} (hw : 0 < w) {A : Nat} (h : ¬ 0 < (limbs w A).length) : bl A = 0 := by
  by_cases hA : A = 0
  · subst hA; rfl
  · have := limbs_ne hw hA; omega

/-! low -/
theorem mod_pow_id {A w sp n : Nat} (hn : w * sp ≤ n) (h : A < 2 ^ (w * sp)) : A % 2 ^ n = A :=
  Nat.mod_eq_of_lt (Nat.lt_of_lt_of_le h (Nat.pow_le_pow_right (by omega) hn))
theorem low_all {w : Nat} (hw : 0 < w) {A sp n : Nat} (hn : w * sp ≤ n) (h : (limbs w A).length ≤ sp) : A % 2 ^ n = A := by
  refine mod_pow_id hn ?_
  have hB := base_ge hw
  have h1 := val_lt hB (limbs_dig hw A)
  rw [limbs_val hw] at h1
  have h2 : ((2 : Int) ^ w) ^ (limbs w A).length = ((2 ^ (w * (limbs w A).length) : Nat) : Int) := by
    rw [← Int.pow_mul]; push_cast; rfl
  rw [h2] at h1
  have h3 : A < 2 ^ (w * (limbs w A).length) := by exact_mod_cast h1
  exact Nat.lt_of_lt_of_le h3 (Nat.pow_le_pow_right (by omega) (Nat.mul_le_mul_left _ h))
theorem low_done {w : Nat} (hw : 0 < w) {A sp f n : Nat} (hf : f < w) (hn : n = w * sp + f) (h : sp < (limbs w A).length) : trim ((limbs w A).take sp ++ [(limbs w A).getD sp 0 % 2 ^ f]) = limbs w (A % 2 ^ n) := by
  have hB := base_ge hw
  have hv := limbs_val hw A
  have hd := limbs_dig hw A
  generalize limbs w A = a at *
  have hx := dig_getD hd hB sp
  have hF : (0 : Int) < 2 ^ f := Int.pow_pos (by omega)
  have hfB : (2 : Int) ^ f ≤ 2 ^ w := by
    have h1 : 2 ^ f ≤ 2 ^ w := Nat.pow_le_pow_right (by omega) (by omega)
    exact_mod_cast h1
  have hm0 := Int.emod_nonneg (a.getD sp 0) (b := 2 ^ f) (by omega)
  have hm1 := Int.emod_lt_of_pos (a.getD sp 0) (b := 2 ^ f) hF
  refine trim_limbs hw (dig_snoc (dig_take hd sp) hm0 (by omega)) ?_
  have hl : (a.take sp).length = sp := by rw [List.length_take]; omega
  rw [val_snoc, hl]
  have e := val_append (2 ^ w) (a.take sp) (a.drop sp)
  rw [List.take_append_drop, hv, hl] at e
  have e2 : a.drop sp = a.getD sp 0 :: a.drop (sp + 1) := by
    rw [List.drop_eq_getElem_cons h, List.getD_eq_getElem?_getD, List.getElem?_eq_getElem h]; rfl
  rw [e2] at e
  have e3 : val (2 ^ w) (a.getD sp 0 :: a.drop (sp + 1)) = a.getD sp 0 + 2 ^ w * val (2 ^ w) (a.drop (sp + 1)) := rfl
  rw [e3] at e
  have hV0 := val_nonneg hB (dig_take hd sp)
  have hV1 := val_lt hB (dig_take hd sp)
  rw [hl] at hV1
  have hed := Int.emod_add_mul_ediv (a.getD sp 0) (2 ^ f)
  have hP : (0 : Int) < (2 ^ w) ^ sp := pow_pos' hB sp
  have hw2 : (2 : Int) ^ w = 2 ^ f * 2 ^ (w - f) := by
    rw [← Int.pow_add]; congr 1; omega
  have hpn : ((2 ^ n : Nat) : Int) = (2 ^ w) ^ sp * 2 ^ f := by
    rw [hn, Nat.pow_add, Nat.pow_mul]; push_cast; rfl
  have e4 : (A : Int) = (val (2 ^ w) (a.take sp) + (2 ^ w) ^ sp * (a.getD sp 0 % 2 ^ f)) + ((2 ^ w) ^ sp * 2 ^ f) * (a.getD sp 0 / 2 ^ f + 2 ^ (w - f) * val (2 ^ w) (a.drop (sp + 1))) := by
    rw [e]
    generalize val (2 ^ w) (List.drop (sp + 1) a) = D at *
    generalize val (2 ^ w) (List.take sp a) = V at *
    generalize ((2 : Int) ^ w) ^ sp = P at *
    generalize a.getD sp 0 % 2 ^ f = q at *
    generalize a.getD sp 0 / 2 ^ f = d at *
    rw [hw2, ← hed]
    generalize (2 : Int) ^ f = F at *
    generalize (2 : Int) ^ (w - f) = G at *
    grind
  have hb : (val (2 ^ w) (a.take sp) + (2 ^ w) ^ sp * (a.getD sp 0 % 2 ^ f)) < (2 ^ w) ^ sp * 2 ^ f := by
    have : (2 ^ w) ^ sp * (a.getD sp 0 % 2 ^ f + 1) ≤ (2 ^ w) ^ sp * (2 : Int) ^ f := Int.mul_le_mul_of_nonneg_left (by omega) (by omega)
    rw [Int.mul_add, Int.mul_one] at this
    omega
  have hb0 : 0 ≤ (val (2 ^ w) (a.take sp) + (2 ^ w) ^ sp * (a.getD sp 0 % 2 ^ f)) := Int.add_nonneg hV0 (Int.mul_nonneg (by omega) hm0)
  have e5 : ((A % 2 ^ n : Nat) : Int) = (A : Int) % ((2 ^ n : Nat) : Int) := Int.natCast_emod A (2 ^ n)
  rw [e5, hpn, e4, Int.add_mul_emod_self_left, Int.emod_eq_of_lt hb0 hb]
end Mine
end

section
open PySem PySem.W PySem.Calls PyProof.Rows
namespace Mine
theorem fdiv_nat (a b : Nat) : ((a : Int)).fdiv (b : Int) = ((a / b : Nat) : Int) := by
  rw [Int.fdiv_eq_ediv_of_nonneg _ (by omega)]; simp
theorem fmod_nat (a b : Nat) : ((a : Int)).fmod (b : Int) = ((a % b : Nat) : Int) := by
  rw [Int.fmod_eq_emod_of_nonneg _ (by omega)]; simp
theorem foldl_rep (v : Value) : ∀ (n : Nat) (a : Array Value), List.foldl (fun x1 x2 => x1 ++ x2) a (List.replicate n #[v]) = a ++ (List.replicate n v).toArray := by
  intro n
  induction n with
  | zero => intro a; simp
  | succ n ih => intro a; rw [List.replicate_succ, List.foldl_cons, ih, List.replicate_succ]; apply Array.toList_inj.mp; simp
theorem zeros_mul {w : World} {A : Around} {E : Value → Shared → Prop} {s : Shared} {h₀ : Heap} {L l : Addr} {m : Str → Option Value} {news : List (Addr × Obj)} {v : Value} {k : Nat} {x : Int} {u : Tok} {Q : Value → Shared → Prop}
    (F : Fr h₀ L s.heap m) (N : News h₀ L s.heap news) (hm : (l, listOf #[v] k) ∈ news) (hx0 : 0 ≤ x) (hx : x ≤ 1000)
    (h : ∀ (D : Nat) h', Fr h₀ L h' m → News h₀ L h' ((D, listOf (List.replicate x.toNat v).toArray 0) :: news) → (∀ p ∈ news, p.1 < D) → Q (.ref D) { s with heap := h' }) :
    wpAny (model PG w) A (binaryOp .Mult (.ref l) (.int x u)) Q E s := by
  refine mul_list F N (N _ hm).1 (by omega) (by omega) (by simp; omega) fun h' F' N' => ?_
  have e : List.foldl (fun x1 x2 => x1 ++ x2) #[] (List.replicate (if (#[v] : Array Value).isEmpty = true then 0 else x.toNat) #[v]) = (List.replicate x.toNat v).toArray := by
    rw [if_neg (by simp), foldl_rep, Array.empty_append]
  rw [e] at N'
  exact h s.heap.objs.size h' F' N' fun p hp => Heap.lt_size (N p hp).1
def CutPost (Q : Flow → Shared → Prop) (I : Shared → Prop) (f : Flow) (s' : Shared) : Prop := match f with
  | .next => I s'
  | f => Q f s'
theorem CutPost.nxt {Q : Flow → Shared → Prop} {I : Shared → Prop} {s' : Shared} (h : I s') : CutPost Q I .next s' := h
theorem execs_cut {w : World} {A : Around} {E : Value → Shared → Prop} {s : Shared} {env : Env} {Q : Flow → Shared → Prop} {s1 : Stmt} {rest : List Stmt} (I : Shared → Prop) (h1 : wpAny (model PG w) A (exec s1 env) (CutPost Q I) E s)
    (h2 : ∀ s', I s' → wpAny (model PG w) A (execs rest env) Q E s') : wpAny (model PG w) A (execs (s1 :: rest) env) Q E s := by
  refine wpAny_execs_cons (wpAny_mono h1 (fun f s' h => ?_) fun _ _ x => x)
  cases f <;> first | exact h2 s' h | exact h
theorem ints_rep (n : Nat) (x : Int) (t : Tok) : IntsAre (List.replicate n (.int x t)) (List.replicate n x) := by
  induction n with
  | zero => exact .nil
  | succ n ih => exact .cons _ _ ih
theorem ints_at {vs : List Value} {ns : List Int} (h : IntsAre vs ns) {i : Nat} {v : Value} (hv : vs[i]? = some v) : i < ns.length ∧ ∃ t, v = .int (ns.getD i 0) t := by
  have hl := h.length
  have hi : i < vs.length := by
    by_cases h1 : i < vs.length
    · exact h1
    · rw [List.getElem?_eq_none (by omega)] at hv; cases hv
  obtain ⟨t, hx⟩ := h.get i ns[i] (by simp)
  refine ⟨by omega, t, ?_⟩
  rw [hx] at hv
  have e : ns.getD i 0 = ns[i] := by
    rw [List.getD_eq_getElem?_getD, List.getElem?_eq_getElem (by omega)]; rfl
  rw [e]
  exact (Option.some.inj hv).symm
end Mine
end

section
open PySem PySem.W PySem.Calls PyProof.Rows
namespace Mine
set_option pp.deepTerms false
set_option pp.deepTerms.threshold 2
set_option pp.proofs false
theorem fillN1 : (PySem.Challenge.rw_rr0056_01.Holds ∧ Mine.hd.heap_39 = Mine.hd.heap_39) → True := by
  k_fill
  w_top off
  exact fun _ => trivial
set_option maxRecDepth 100000 in
set_option maxHeartbeats 8000000 in
theorem normal_ok {w : World} {p : Program} {loose : List Str} {mean : ExcName → Option Value} {mg mb : Str → Option Value} {dp un : Nat} {gd : Option (List Code)} {fr : Option (List Env)} {h₀ : Heap} {L : Addr} {m : Str → Option Value} {s : Shared} {Q E : Value → Shared → Prop}
   {la : Addr} {vs : List Value} {ns : List Int}
   (F : Fr h₀ L s.heap m) (X : (hd.heap_39 w.params).In h₀) (T : Top p loose mean mg mb h₀)
   (hd : dp + 10 < recursionLimit) (hu : un + 100 < cLine)
   (hn : ns.length ≤ 1000) (hl : s.heap.IsList la vs.toArray) (hi : IntsAre vs ns)
   (ret : ∀ r vs' n' h' tk', s.heap.StaysIn h' → s.heap.get? r = none → h'.get? r = some (listOf vs'.toArray n') → IntsAre vs' (trim ns) → Q (.ref r) {s with heap := h', toks := tk'}) :
   wpAny (model PG w) (AA dp un fr gd) (call (.ref 46) [.ref la]) Q E s := by
  k_dflt (refine' enterP [(Str.ofString "a", .ref la)] [(Str.ofString "a", .ref la)] rfl F X T ?k6 ?k7 ?k8 ?k9 ?kB ?c5 ?c2 ?c3 ?c4 ?_; (case k6 => k_is); (case k7 => k_is); (case k8 => (show dp < _; exact room00 hd)); (case k9 => exact rfl); (case c5 => decide); (case kB => exact locs rfl); (case c2 => exact rfl); (case c3 => exact rfl); (case c4 => exact rfl); k_whole; intro L' h' tk' F' N' X' T'; (try dsimp only [kstB] at F'))
  k_steps
  clear X T X' T'
  rename Fr _ _ _ _ => F2; rename News _ _ _ _ => N2; rename MarkC _ _ _ => hM; clear hM
  rename IntsAre _ (List.take _ _) => hI
  rename_i k _ _ _ h1 h2 h3 h4 _ _ _ _ _ _
  obtain ⟨g1, g2, g3⟩ := N2 _ (List.Mem.head _)
  refine ret _ _ _ _ _ (fun b o e => F2.keep b o e) g3 g1 (take_trim k.toNat (ns.length - k.toNat) ns (by omega) ?_ ?_ ▸ hI)
  · intro j hj1 hj2
    have := h3 (j : Int) (by omega) (by omega)
    rw [if_pos (by omega)] at this
    have e : ((j : Int) - 1).toNat = j - 1 := by omega
    rw [e] at this
    simpa using this
  · by_cases hk : k.toNat = 0
    · exact .inl hk
    · right
      rw [if_pos (by omega)] at h4
      have e : (k - 1).toNat = k.toNat - 1 := by omega
      rw [e] at h4
      simpa using h4
end Mine
end

section
open PySem PySem.W PySem.Calls PyProof.Rows
namespace Mine
set_option pp.deepTerms false
set_option pp.deepTerms.threshold 2
set_option pp.proofs false
theorem fillC1 : (PySem.Challenge.rw_rr0056_01.Holds ∧ Mine.hd.heap_39 = Mine.hd.heap_39) → True := by
  k_fill
  w_top off
  k_with_none
  (k_with "pyIter ref" => ((with_reducible show wpAny _ _ (pyIter (Value.ref _)) (fun it s₂ => LoopAtV _ _ _ _ _ _ _ _ _ it s₂) _ _); refine Mine.unhold ?_))
  (k_with "exec While Compare cons nil" => (refine Mine.unhold ?_))
  (k_with "exec While BoolOp cons nil" => (refine Mine.unhold ?_))
  exact fun _ => trivial
set_option maxRecDepth 100000 in
set_option maxHeartbeats 8000000 in
theorem compare_ok {w : World} {p : Program} {loose : List Str} {mean : ExcName → Option Value} {mg mb : Str → Option Value} {dp un : Nat} {gd : Option (List Code)} {fr : Option (List Env)} {h₀ : Heap} {L : Addr} {m : Str → Option Value} {s : Shared} {Q E : Value → Shared → Prop}
   {la lb : Addr} {va vb : List Value} {A B wn : Nat}
   (F : Fr h₀ L s.heap m) (X : (hd.heap_39 w.params).In h₀) (T : Top p loose mean mg mb h₀)
   (hd : dp + 10 < recursionLimit) (hu : un + 100 < cLine)
   (hw1 : 1 ≤ wn) (hA : A < 2 ^ 200) (hB : B < 2 ^ 200) (hla : s.heap.IsList la va.toArray) (hia : IntsAre va (limbs wn A)) (hlb : s.heap.IsList lb vb.toArray) (hib : IntsAre vb (limbs wn B))
   (ret : ∀ t h' tk', s.heap.StaysIn h' → Q (.int (cmpI A B) t) {s with heap := h', toks := tk'}) :
   wpAny (model PG w) (AA dp un fr gd) (call (.ref 53) [.ref la, .ref lb]) Q E s := by
  have hna := limbs_len hw1 hA
  have hnb := limbs_len hw1 hB
  have hlt := @cmp_lt _ hw1 A B
  have hgt := @cmp_lt _ hw1 B A
  have hll := @cmp_len _ hw1 A B
  have hlg := @cmp_len _ hw1 B A
  have hij := @limbs_inj _ hw1 A B
  generalize ea : limbs wn A = na at *
  generalize eb : limbs wn B = nb at *
  k_dflt (refine' enterP [(Str.ofString "a", .ref la), (Str.ofString "b", .ref lb)] [(Str.ofString "b", .ref lb), (Str.ofString "a", .ref la)] rfl F X T ?k6 ?k7 ?k8 ?k9 ?kB ?c5 ?c2 ?c3 ?c4 ?_; (case k6 => k_is); (case k7 => k_is); (case k8 => (show dp < _; exact room00 hd)); (case k9 => exact rfl); (case c5 => decide); (case kB => exact locs rfl); (case c2 => exact rfl); (case c3 => exact rfl); (case c4 => exact rfl); k_whole; intro L' h' tk' F' N' X' T'; (try dsimp only [kstB] at F'))
  k_steps
  · rename (_ : Int) < _ => h1
    rw [cmpI_lt (hll (by omega))] at ret
    exact ret _ _ _ (fun b o e => F'.keep b o e)
  · rename ¬ (_ : Int) < _ => h1
    rw [cmpI_gt (hlg (by omega))] at ret
    exact ret _ _ _ (fun b o e => F'.keep b o e)
  apply Hold.mk
  rename IsRange _ _ _ _ _ _ _ _ => rg; rename Fr _ _ _ _ => F2; rename News _ _ _ _ => N2
  rename (_ : Int) = _ => hlen
  refine my_range (σ := Unit) (n := na.length) (fun _ => []) (fun _ => [(Str.ofString "a", .ref la), (Str.ofString "b", .ref lb)]) (fun i _ => ∀ j, na.length - i ≤ j → j < na.length → na[j]? = nb[j]?) () rfl rg (small_down (by omega) (by omega) (by decide) (by decide)) (by rw [rangeSize_downNat]; omega) (by simp) F2 N2 (by kst_all) (fun j h1 h2 => by omega) ?_ ?_
  · intro i; rintro ⟨⟩ t u h tk I oI hi hP hne F3 N3 R9 hR hQ; dsimp only [kstB] at F3; dsimp only [List.nil_append] at N3; try k_fold
    clear F2 N2 rg
    have e1 : ((na.length : Int) - 1 + (i : Int) * -1).toNat = na.length - 1 - i := by omega
    have hE : ∀ j, na.length - 1 - i < j → na[j]? = nb[j]? := fun j hj => by
      by_cases h2 : j < na.length
      · exact hP j (by omega) h2
      · rw [List.getElem?_eq_none (by omega), List.getElem?_eq_none (by omega)]
    k_steps
    · rename _ < _ => h1
      rw [e1] at h1
      rw [cmpI_lt (hlt _ (by omega) hE h1)] at ret
      exact hQ _ _ (ret _ _ _ (fun b o e => F3.keep b o e))
    · rename ¬ _ < _ => h1
      rename _ ≠ _ => h2
      rw [e1] at h1 h2
      rw [cmpI_gt (hgt _ (by omega) (fun j hj => (hE j hj).symm) (by omega))] at ret
      exact hQ _ _ (ret _ _ _ (fun b o e => F3.keep b o e))
    · rename (_ : Int) = _ => h2
      rw [e1] at h2
      refine hR () _ _ _ _ F3 N3 (by kst_in) (by k_memK) (by kst_all) ?_
      intro j h3 h4
      by_cases h5 : j = na.length - 1 - i
      · subst h5
        exact getD_ne_getElem? (by omega) (by omega) h2
      · exact hP j (by omega) h4
  · rintro ⟨⟩ u h tk hP F3 N3; dsimp only [kstB] at F3; try k_fold
    clear F2 N2 rg
    k_steps
    have e : na = nb := List.ext_getElem? fun j => by
      by_cases h2 : j < na.length
      · exact hP j (by omega) h2
      · rw [List.getElem?_eq_none (by omega), List.getElem?_eq_none (by omega)]
    rw [cmpI_eq (hij e)] at ret
    exact ret _ _ _ (fun b o e => F3.keep b o e)
end Mine
end

section
open PySem PySem.W PySem.Calls PyProof.Rows
namespace Mine
set_option pp.deepTerms false
set_option pp.deepTerms.threshold 2
set_option pp.proofs false
theorem fillA1 : (PySem.Challenge.rw_rr0056_01.Holds ∧ Mine.hd.heap_39 = Mine.hd.heap_39) → True := by
  k_fill
  w_top off
  k_with_none
  (k_with "pyIter ref" => ((with_reducible show wpAny _ _ (pyIter (Value.ref _)) (fun it s₂ => LoopAtV _ _ _ _ _ _ _ _ _ it s₂) _ _); refine Mine.unhold ?_))
  (k_with "exec While Compare cons nil" => (refine Mine.unhold ?_))
  (k_with "exec While BoolOp cons nil" => (refine Mine.unhold ?_))
  exact fun _ => trivial
set_option maxRecDepth 100000 in
set_option maxHeartbeats 8000000 in
theorem add_ok {w : World} {p : Program} {loose : List Str} {mean : ExcName → Option Value} {mg mb : Str → Option Value} {dp un : Nat} {gd : Option (List Code)} {fr : Option (List Env)} {h₀ : Heap} {L : Addr} {m : Str → Option Value} {s : Shared} {Q E : Value → Shared → Prop}
   {la lb : Addr} {va vb : List Value} {A B : Nat} {wn : Nat} {tw : Tok}
   (F : Fr h₀ L s.heap m) (X : (hd.heap_39 w.params).In h₀) (T : Top p loose mean mg mb h₀)
   (hd : dp + 10 < recursionLimit) (hu : un + 100 < cLine)
   (hw1 : 1 ≤ wn) (hw2 : wn ≤ 9) (hA : A < 2 ^ 200) (hB : B < 2 ^ 200) (hla : s.heap.IsList la va.toArray) (hia : IntsAre va (limbs wn A)) (hlb : s.heap.IsList lb vb.toArray) (hib : IntsAre vb (limbs wn B))
   (ret : ∀ r vs' n' h' tk', s.heap.StaysIn h' → s.heap.get? r = none → h'.get? r = some (listOf vs'.toArray n') → IntsAre vs' (limbs wn (A + B)) → Q (.ref r) {s with heap := h', toks := tk'}) :
   wpAny (model PG w) (AA dp un fr gd) (call (.ref 60) [.ref la, .ref lb, .int (wn : Int) tw]) Q E s := by
  have hna := limbs_len hw1 hA
  have hnb := limbs_len hw1 hB
  k_dflt (refine' enterP [(Str.ofString "a", .ref la), (Str.ofString "b", .ref lb), (Str.ofString "w", .int (wn : Int) tw)] [(Str.ofString "w", .int (wn : Int) tw), (Str.ofString "b", .ref lb), (Str.ofString "a", .ref la)] rfl F X T ?k6 ?k7 ?k8 ?k9 ?kB ?c5 ?c2 ?c3 ?c4 ?_; (case k6 => k_is); (case k7 => k_is); (case k8 => (show dp < _; exact room00 hd)); (case k9 => exact rfl); (case c5 => decide); (case kB => exact locs rfl); (case c2 => exact rfl); (case c3 => exact rfl); (case c4 => exact rfl); k_whole; intro L' h' tk' F' N' X' T'; (try dsimp only [kstB] at F'))
  refine execs_split (fun s' => ∃ h' tk' la' lb' va' vb' A' B' m', s' = {s with heap := h', toks := tk'} ∧ Fr s.heap L' h' m' ∧ (∀ p ∈ [(Str.ofString "w", Value.int wn tw), (Str.ofString "b", .ref lb'), (Str.ofString "a", .ref la')], m' p.1 = some p.2) ∧ s.heap.IsList la' va'.toArray ∧ IntsAre va' (limbs wn A') ∧ s.heap.IsList lb' vb'.toArray ∧ IntsAre vb' (limbs wn B') ∧ A' + B' = A + B ∧ (limbs wn A').length ≤ 200 ∧ (limbs wn B').length ≤ (limbs wn A').length) ?_ ?_
  · k_steps
    all_goals clear X T ret
    · rename Fr _ _ _ _ => F2
      rename _ < _ => hlt
      exact ⟨rfl, _, _, lb, la, vb, va, B, A, _, rfl, F2, by kst_all, hlb, hib, hla, hia, Nat.add_comm _ _, hnb, Nat.le_of_lt (Int.ofNat_lt.mp hlt)⟩
    · rename Fr _ _ _ _ => F2
      rename ¬ _ < _ => hlt
      exact ⟨rfl, _, _, la, lb, va, vb, A, B, _, rfl, F2, by kst_all, hla, hia, hlb, hib, rfl, hna, Nat.le_of_not_lt fun q => hlt (Int.ofNat_lt.mpr q)⟩
  · rintro _ ⟨h2, tk2, la2, lb2, va2, vb2, A2, B2, m2, rfl, F2, hm2, hla2, hia2, hlb2, hib2, hAB, hna2, hnb2⟩
    clear F' N' hla hia hlb hib
    rw [← kstB_id hm2] at F2
    dsimp only [kstB] at F2
    have hBB := base_ge hw1
    have hda := limbs_dig hw1 A2
    have hdb := limbs_dig hw1 B2
    rw [← hAB] at ret
    generalize ea : limbs wn A2 = na2 at *
    generalize eb : limbs wn B2 = nb2 at *
    have N2 : News s.heap L' h2 [] := News.nil
    k_steps
    apply Hold.mk
    rename_i lf _ _ _ _ _ _ _ _ _ _ _ _ _ _ _ _ rg F3 N3 kp
    refine my_range (σ := List Value × List Int × Nat × Int × Tok) (n := nb2.length) (fun c => [(lf, listOf c.1.toArray c.2.2.1)]) (fun c => [(Str.ofString "found", .ref lf), (Str.ofString "carry", .int c.2.2.2.1 c.2.2.2.2), (Str.ofString "mask", .int _ _), (Str.ofString "a", .ref la2), (Str.ofString "b", .ref lb2), (Str.ofString "w", .int wn tw)]) (fun i c => IntsAre c.1 c.2.1 ∧ AddInv (2 ^ wn) na2 nb2 i c.2.1 c.2.2.2.1) ([], [], 0, 0, tk2) rfl rg (small0 (Nat.le_trans hnb2 (le1000 hna2))) (rs0 _) (by simp) F3 (kst_newsOf N3 (by kst_inAny)) (by kst_all) ⟨IntsAre.nil, AddInv.zero⟩ ?_ ?_
    · intro i; refine prod5 ?_; rintro vs fs nn carry tc t u h tk I oI hi ⟨hP1, hP2⟩ hne F4 N4 R9 hR hQ; dsimp only [kstB] at F4 hP1 hP2 hi hne; dsimp only [List.nil_append, List.cons_append] at N4; try k_fold
      clear F3 N3 rg
      replace hne : @Ne Nat lf I := hne _ (List.Mem.head _)
      have hP3 := hP2.len
      k_steps
      rename Fr _ _ _ _ => F5; rename News _ _ _ _ => N5
      rw [toArr_push] at N5
      refine hR (_, _, _, _, _) _ _ _ _ F5 N5 (by kst_in) (by k_memK) (by kst_all) ⟨IntsAre.append hP1 (.cons _ _ .nil), ?_⟩
      have e1 : (0 + (i : Int) * 1).toNat = i := idx0 i
      have e2 : ((wn : Int)).toNat = wn := Int.toNat_natCast _
      simp only [e1, e2, Int.one_mul, kbt_mask, fdiv_pos' hBB]
      exact hP2.step hBB hda hdb
    · refine prod5 ?_; rintro vs fs nn carry tc u h tk ⟨hP1, hP2⟩ F4 N4; dsimp only [kstB] at F4 hP1 hP2; dsimp only [List.nil_append, List.cons_append] at N4; try k_fold
      clear F3 N3 rg
      have hP3 := hP2.len
      k_steps
      apply Hold.mk
      rename IsRange _ _ _ _ _ _ _ _ => rg
      rename Fr _ _ _ _ => F3
      rename News _ _ _ _ => N3
      refine my_range (σ := List Value × List Int × Nat × Int × Tok) (n := na2.length - nb2.length) (fun c => [(lf, listOf c.1.toArray c.2.2.1)]) (fun c => [(Str.ofString "found", .ref lf), (Str.ofString "carry", .int c.2.2.2.1 c.2.2.2.2), (Str.ofString "mask", .int _ _), (Str.ofString "a", .ref la2), (Str.ofString "b", .ref lb2), (Str.ofString "w", .int wn tw)]) (fun i c => IntsAre c.1 c.2.1 ∧ AddInv (2 ^ wn) na2 nb2 (nb2.length + i) c.2.1 c.2.2.2.1) (vs, fs, nn, carry, tc) rfl rg (smalln (Nat.le_trans hnb2 (le1000 hna2)) (le1000 hna2)) (rsn hnb2) (by simp) F3 (kst_newsOf N3 (by kst_inAny)) (by kst_all) ⟨hP1, hP2⟩ ?_ ?_
      · clear hP1 hP2; intro i; refine prod5 ?_; rintro vs fs nn carry tc t u h tk I oI hi ⟨hP1, hP2⟩ hne F4 N4 R9 hR hQ; dsimp only [kstB] at F4 hP1 hP2 hi hne; dsimp only [List.nil_append, List.cons_append] at N4; try k_fold
        clear F3 N3 rg
        replace hne : @Ne Nat lf I := hne _ (List.Mem.head _)
        have hP3 := hP2.len
        k_steps
        rename Fr _ _ _ _ => F5; rename News _ _ _ _ => N5
        rw [toArr_push] at N5
        refine hR (_, _, _, _, _) _ _ _ _ F5 N5 (by kst_in) (by k_memK) (by kst_all) ⟨IntsAre.append hP1 (.cons _ _ .nil), ?_⟩
        have e1 : ((nb2.length : Int) + (i : Int) * 1).toNat = nb2.length + i := idxn _ _
        have e2 : ((wn : Int)).toNat = wn := Int.toNat_natCast _
        have e3 : nb2.getD (nb2.length + i) 0 = 0 := by rw [List.getD_eq_getElem?_getD, List.getElem?_eq_none (Nat.le_add_right _ _)]; rfl
        have e4 := hP2.step hBB hda hdb
        rw [e3, Int.add_zero] at e4
        simp only [e1, e2, Int.one_mul, kbt_mask, fdiv_pos' hBB]
        exact e4
      · refine prod5 ?_; rintro vs fs nn carry tc u h tk ⟨hP1, hP2⟩ F4 N4; dsimp only [kstB] at F4 hP1 hP2; dsimp only [List.nil_append, List.cons_append] at N4; try k_fold
        clear F3 N3 rg
        have hP3 := hP2.len
        k_steps
        all_goals clear X T
        · rename Fr _ _ _ _ => F5; rename News _ _ _ _ => N5; rename 0 < _ => hc
          rw [toArr_push] at N5
          obtain ⟨g1, g2, g3⟩ := N5 _ (List.Mem.head _)
          exact ret _ _ _ _ _ (fun b o e => F5.keep b o e) g3 g1 ((add_done hw1 ea.symm eb.symm hnb2 (by rw [show na2.length = nb2.length + (na2.length - nb2.length) from (Nat.add_sub_cancel' hnb2).symm]; exact hP2)).1 hc ▸ IntsAre.append hP1 (.cons _ _ .nil))
        · rename ¬ 0 < _ => hc
          obtain ⟨g1, g2, g3⟩ := N4 _ (List.Mem.head _)
          exact ret _ _ _ _ _ (fun b o e => F4.keep b o e) g3 g1 ((add_done hw1 ea.symm eb.symm hnb2 (by rw [show na2.length = nb2.length + (na2.length - nb2.length) from (Nat.add_sub_cancel' hnb2).symm]; exact hP2)).2 hc ▸ hP1)
end Mine
end

section
open PySem PySem.W PySem.Calls PyProof.Rows
namespace Mine
set_option pp.deepTerms false
set_option pp.deepTerms.threshold 2
set_option pp.proofs false
theorem fillS1 : (PySem.Challenge.rw_rr0056_01.Holds ∧ Mine.hd.heap_39 = Mine.hd.heap_39) → True := by
  k_fill
  w_top off
  k_with_none
  (k_with "pyIter ref" => ((with_reducible show wpAny _ _ (pyIter (Value.ref _)) (fun it s₂ => LoopAtV _ _ _ _ _ _ _ _ _ it s₂) _ _); refine Mine.unhold ?_))
  (k_with "exec While Compare cons nil" => (refine Mine.unhold ?_))
  (k_with "exec While BoolOp cons nil" => (refine Mine.unhold ?_))
  (k_with "call ref" => (k_here; (with_reducible show wpAny _ _ (call (Value.ref 53) [Value.ref _, Value.ref _]) _ _ _); (rename Fr _ _ _ _ => cF); (rename News _ _ _ _ => cN); (rename Top _ _ _ _ _ _ => cT); k_dflt (refine' compare_ok cF ?cX cT ?cd ?cu ?cw ?cA ?cB ?c1 ?c2 ?c3 ?c4 ?_; (case c1 => is_list); (case c2 => assumption); (case c3 => is_list); (case c4 => assumption); (case cw => assumption); (case cA => omega); (case cB => omega); (case cX => assumption); (case cd => ((try dsimp only [Around.deeper, Around.in1, Around.depth, Around.units]); first | exact room (by assumption) rfl | exact room0 (by assumption) rfl | omega)); (case cu => ((try dsimp only [Around.deeper, Around.in1, Around.depth, Around.units]); first | exact room (by assumption) rfl | exact room0 (by assumption) rfl | omega)); k_whole); intro t' h' tk' k'; (have F' := fr_up cF k'); (have N' := news_up cN k'); clear cF cN; (try dsimp only); (revert t' h' tk' k' F' N'; intros)))
  (k_with "call ref" => (k_here; (with_reducible show wpAny _ _ (call (Value.ref 46) [Value.ref _]) _ _ _); (rename Fr _ _ _ _ => cF); (rename News _ _ _ _ => cN); (rename Top _ _ _ _ _ _ => cT); k_dflt (refine' normal_ok cF ?cX cT ?cd ?cu ?cn ?c1 ?c2 ?_; (case c1 => is_list); (case c2 => assumption); (case cn => omega); (case cX => assumption); (case cd => ((try dsimp only [Around.deeper, Around.in1, Around.depth, Around.units]); first | exact room (by assumption) rfl | exact room0 (by assumption) rfl | omega)); (case cu => ((try dsimp only [Around.deeper, Around.in1, Around.depth, Around.units]); first | exact room (by assumption) rfl | exact room0 (by assumption) rfl | omega)); k_whole); intro r' vs' n' h' tk' k' f' g' i'; (have F' := fr_up cF k'); (have N' := news_add cF cN k' f' g'); (have o' := news_off cN f'); clear cF cN; (try dsimp only); (revert r' vs' n' h' tk' k' f' g' i' F' N' o'; intros)))
  exact fun _ => trivial
set_option maxRecDepth 100000 in
set_option maxHeartbeats 8000000 in
theorem sub_ok {w : World} {p : Program} {loose : List Str} {mean : ExcName → Option Value} {mg mb : Str → Option Value} {dp un : Nat} {gd : Option (List Code)} {fr : Option (List Env)} {h₀ : Heap} {L : Addr} {m : Str → Option Value} {s : Shared} {Q E : Value → Shared → Prop}
   {la lb : Addr} {va vb : List Value} {A B : Nat} {wn : Nat} {tw : Tok}
   (F : Fr h₀ L s.heap m) (X : (hd.heap_39 w.params).In h₀) (T : Top p loose mean mg mb h₀)
   (hd : dp + 20 < recursionLimit) (hu : un + 200 < cLine)
   (hw1 : 1 ≤ wn) (hw2 : wn ≤ 9) (hA : A < 2 ^ 200) (hB : B < 2 ^ 200) (hAB : B ≤ A) (hla : s.heap.IsList la va.toArray) (hia : IntsAre va (limbs wn A)) (hlb : s.heap.IsList lb vb.toArray) (hib : IntsAre vb (limbs wn B))
   (ret : ∀ r vs' n' h' tk', s.heap.StaysIn h' → s.heap.get? r = none → h'.get? r = some (listOf vs'.toArray n') → IntsAre vs' (limbs wn (A - B)) → Q (.ref r) {s with heap := h', toks := tk'}) :
   wpAny (model PG w) (AA dp un fr gd) (call (.ref 67) [.ref la, .ref lb, .int (wn : Int) tw]) Q E s := by
  have hna := limbs_len hw1 hA
  have hnb := limbs_len hw1 hB
  have hcp : ¬ cmpI A B < 0 := by unfold cmpI; split <;> (try split) <;> omega
  k_dflt (refine' enterP [(Str.ofString "a", .ref la), (Str.ofString "b", .ref lb), (Str.ofString "w", .int (wn : Int) tw)] [(Str.ofString "w", .int (wn : Int) tw), (Str.ofString "b", .ref lb), (Str.ofString "a", .ref la)] rfl F X T ?k6 ?k7 ?k8 ?k9 ?kB ?c5 ?c2 ?c3 ?c4 ?_; (case k6 => k_is); (case k7 => k_is); (case k8 => (show dp < _; exact room00 hd)); (case k9 => exact rfl); (case c5 => decide); (case kB => exact locs rfl); (case c2 => exact rfl); (case c3 => exact rfl); (case c4 => exact rfl); k_whole; intro L' h' tk' F' N' X' T'; (try dsimp only [kstB] at F'))
  refine execs_split (fun s' => ∃ h' tk' m', s' = {s with heap := h', toks := tk'} ∧ Fr s.heap L' h' m' ∧ (∀ p ∈ [(Str.ofString "a", Value.ref la), (Str.ofString "b", .ref lb), (Str.ofString "w", .int wn tw)], m' p.1 = some p.2)) ?_ ?_
  · k_steps
    rename Fr _ _ _ _ => F2
    exact ⟨rfl, _, _, _, rfl, F2, by kst_all⟩
  · rintro _ ⟨h2, tk2, m2, rfl, F2, hm2⟩
    clear F' N'
    rw [← kstB_id hm2] at F2
    dsimp only [kstB] at F2
    have hBB := base_ge hw1
    have hda := limbs_dig hw1 A
    have hdb := limbs_dig hw1 B
    generalize ea : limbs wn A = na at *
    generalize eb : limbs wn B = nb at *
    have N2 : News s.heap L' h2 [] := News.nil
    k_steps
    apply Hold.mk
    rename_i lf _ _ _ _ _ _ _ _ _ _ _ _ _ _ _ _ rg F3 N3 kp
    refine my_range (σ := List Value × List Int × Nat × Int × Tok) (n := na.length) (fun c => [(lf, listOf c.1.toArray c.2.2.1)]) (fun c => [(Str.ofString "found", .ref lf), (Str.ofString "borrow", .int c.2.2.2.1 c.2.2.2.2), (Str.ofString "base", .int _ _), (Str.ofString "a", .ref la), (Str.ofString "b", .ref lb), (Str.ofString "w", .int wn tw)]) (fun i c => IntsAre c.1 c.2.1 ∧ SubInv (2 ^ wn) na nb i c.2.1 c.2.2.2.1) ([], [], 0, 0, tk2) rfl rg (small0 (le1000 hna)) (rs0 _) (by simp) F3 (kst_newsOf N3 (by kst_inAny)) (by kst_all) ⟨IntsAre.nil, SubInv.zero⟩ ?_ ?_
    · intro i; refine prod5 ?_; rintro vs fs nn carry tc t u h tk I oI hi ⟨hP1, hP2⟩ hne F4 N4 R9 hR hQ; dsimp only [kstB] at F4 hP1 hP2 hi hne; dsimp only [List.nil_append, List.cons_append] at N4; try k_fold
      clear F3 N3 rg
      replace hne : @Ne Nat lf I := hne _ (List.Mem.head _)
      have hP3 := hP2.len
      have e1 : (0 + (i : Int) * 1).toNat = i := idx0 i
      have e2 : ((wn : Int)).toNat = wn := Int.toNat_natCast _
      k_steps
      all_goals (rename Fr _ _ _ _ => F5; rename News _ _ _ _ => N5; rw [toArr_push] at N5)
      all_goals (refine hR (_, _, _, _, _) _ _ _ _ F5 N5 (by kst_in) (by k_memK) (by kst_all) ⟨IntsAre.append hP1 (.cons _ _ .nil), ?_⟩)
      all_goals simp only [e1, e2, Int.one_mul]
      · rename _ - _ - _ < 0 => hn
        rw [e1] at hn
        exact hP2.neg hBB hda hdb rfl rfl hn
      · rename ¬ _ - _ - _ < 0 => hn
        rw [e1] at hn
        exact hP2.pos hBB hda hdb rfl rfl hn
      · rename _ - _ - _ < 0 => hn
        rw [e1] at hn
        exact hP2.neg hBB hda hdb rfl (by rw [List.getD_eq_getElem?_getD, List.getElem?_eq_none (by omega)]; rfl) hn
      · rename ¬ _ - _ - _ < 0 => hn
        rw [e1] at hn
        exact hP2.pos hBB hda hdb rfl (by rw [List.getD_eq_getElem?_getD, List.getElem?_eq_none (by omega)]; rfl) hn
    · refine prod5 ?_; rintro vs fs nn carry tc u h tk ⟨hP1, hP2⟩ F4 N4; dsimp only [kstB] at F4 hP1 hP2; dsimp only [List.nil_append, List.cons_append] at N4; try k_fold
      clear F3 N3 rg
      have hP3 := hP2.len
      k_steps
      rename_i r vs2 n2 h3 tk3 k3 f3 g3 i3 F5 N5 o5
      rw [sub_done hw1 hAB ea.symm eb.symm hP2] at i3
      exact ret _ _ _ _ _ (fun b o e => F5.keep b o e) (N5 _ (List.Mem.head _)).2.2 (N5 _ (List.Mem.head _)).1 i3
end Mine
end

section
open PySem PySem.W PySem.Calls PyProof.Rows
namespace Mine
set_option pp.deepTerms false
set_option pp.deepTerms.threshold 2
set_option pp.proofs false
theorem fillL1 : (PySem.Challenge.rw_rr0056_01.Holds ∧ Mine.hd.heap_39 = Mine.hd.heap_39) → True := by
  k_fill
  w_top off
  k_with_none
  (k_with "pyIter ref" => ((with_reducible show wpAny _ _ (pyIter (Value.ref _)) (fun it s₂ => LoopAtV _ _ _ _ _ _ _ _ _ it s₂) _ _); refine Mine.unhold ?_))
  (k_with "exec While Compare cons nil" => (refine Mine.unhold ?_))
  (k_with "exec While BoolOp cons nil" => (refine Mine.unhold ?_))
  (k_with "binaryOp LShift int int" => (k_here; refine lshift_int_small (by first | exact Int.natCast_nonneg _ | decide | omega) (by first | exact mill9 (by assumption) | decide | omega) (by first | decide | omega) ?_))
  (k_with "binaryOp Mult ref int" => ((rename Fr _ _ _ _ => cF); (rename News _ _ _ _ => cN); k_dflt (refine' zeros_mul cF cN ?c1 ?c2 ?c3 ?_; (case c1 => k_mem); (case c2 => omega); (case c3 => omega); k_whole); intro D' h' F' N' l1; k_lt l1; clear cF cN; (revert D' h' F' N' l1; intros)))
  exact fun _ => trivial
set_option maxRecDepth 100000 in
set_option maxHeartbeats 8000000 in
theorem shl_ok {w : World} {p : Program} {loose : List Str} {mean : ExcName → Option Value} {mg mb : Str → Option Value} {dp un : Nat} {gd : Option (List Code)} {fr : Option (List Env)} {h₀ : Heap} {L : Addr} {m : Str → Option Value} {s : Shared} {Q E : Value → Shared → Prop}
   {la : Addr} {va : List Value} {A n : Nat} {wn : Nat} {tn tw : Tok}
   (F : Fr h₀ L s.heap m) (X : (hd.heap_39 w.params).In h₀) (T : Top p loose mean mg mb h₀)
   (hd : dp + 10 < recursionLimit) (hu : un + 100 < cLine)
   (hw1 : 1 ≤ wn) (hw2 : wn ≤ 9) (hA : A < 2 ^ 200) (hn : n ≤ 200) (hla : s.heap.IsList la va.toArray) (hia : IntsAre va (limbs wn A))
   (ret : ∀ r vs' n' h' tk', s.heap.StaysIn h' → s.heap.get? r = none → h'.get? r = some (listOf vs'.toArray n') → IntsAre vs' (limbs wn (A * 2 ^ n)) → Q (.ref r) {s with heap := h', toks := tk'}) :
   wpAny (model PG w) (AA dp un fr gd) (call (.ref 74) [.ref la, .int (n : Int) tn, .int (wn : Int) tw]) Q E s := by
  have hna := limbs_len hw1 hA
  have hdl : n / wn ≤ 200 := by have := Nat.div_le_self n wn; omega
  have hml : n % wn < wn := Nat.mod_lt _ (by omega)
  k_dflt (refine' enterP [(Str.ofString "a", .ref la), (Str.ofString "n", .int (n : Int) tn), (Str.ofString "w", .int (wn : Int) tw)] [(Str.ofString "w", .int (wn : Int) tw), (Str.ofString "n", .int (n : Int) tn), (Str.ofString "a", .ref la)] rfl F X T ?k6 ?k7 ?k8 ?k9 ?kB ?c5 ?c2 ?c3 ?c4 ?_; (case k6 => k_is); (case k7 => k_is); (case k8 => (show dp < _; exact room00 hd)); (case k9 => exact rfl); (case c5 => decide); (case kB => exact locs rfl); (case c2 => exact rfl); (case c3 => exact rfl); (case c4 => exact rfl); k_whole; intro L' h' tk' F' N' X' T'; (try dsimp only [kstB] at F'))
  refine execs_cut (fun s' => ∃ h' tk' m', s' = {s with heap := h', toks := tk'} ∧ A ≠ 0 ∧ Fr s.heap L' h' m' ∧ (∀ p ∈ [(Str.ofString "a", Value.ref la), (Str.ofString "n", .int n tn), (Str.ofString "w", .int wn tw)], m' p.1 = some p.2)) ?_ ?_
  · k_steps
    all_goals clear X T
    · rename News _ _ _ _ => N2; rename Fr _ _ _ _ => F2
      rename (_ : Int) = _ => h0
      have e : limbs wn A = [] := List.length_eq_zero_iff.mp (by omega)
      have e2 : A = 0 := by have := limbs_val hw1 A; rw [e] at this; simpa [val] using this.symm
      subst e2
      rw [Nat.zero_mul] at ret
      exact ret _ _ _ _ _ (fun b o e => F2.keep b o e) (N2 _ (List.Mem.head _)).2.2 (N2 _ (List.Mem.head _)).1 .nil
    · rename Fr _ _ _ _ => F2
      rename (_ : Int) ≠ _ => h0
      exact ⟨_, _, _, rfl, (fun e => h0 (by rw [e]; rfl)), F2, by kst_all⟩
  rintro _ ⟨h2, tk2, m2, rfl, hA0, F2, hm2⟩
  clear F' N'
  rw [← kstB_id hm2] at F2
  dsimp only [kstB] at F2
  have N2 : News s.heap L' h2 [] := News.nil
  refine execs_cut (fun s' => ∃ h' tk' m' t1 t2, s' = {s with heap := h', toks := tk'} ∧ Fr s.heap L' h' m' ∧ (∀ p ∈ [(Str.ofString "a", Value.ref la), (Str.ofString "spots", .int (n / wn : Nat) t1), (Str.ofString "few", .int (n % wn : Nat) t2), (Str.ofString "w", .int wn tw)], m' p.1 = some p.2)) ?_ ?_
  · k_steps
    rename Fr _ _ _ _ => F3
    rw [fdiv_nat, fmod_nat] at F3
    exact ⟨_, _, _, _, _, rfl, F3, by kst_all⟩
  rintro _ ⟨h3, tk3, m3, t1, t2, rfl, F3, hm3⟩
  clear F2 N2
  rw [← kstB_id hm3] at F3
  dsimp only [kstB] at F3
  have N3 : News s.heap L' h3 [] := News.nil
  generalize hsp : n / wn = sp at *
  generalize hfw : n % wn = fw at *
  clear hm3
  k_steps
  apply Hold.mk
  rename_i _ _ _ lf _ _ _ _ _ _ _ _ _ F4 N4
  have hBB := base_ge hw1
  have hda := limbs_dig hw1 A
  have hsum : n = wn * sp + fw := by rw [← hsp, ← hfw]; exact (Nat.div_add_mod n wn).symm
  have hF : (0 : Int) < 2 ^ fw := Int.pow_pos (by omega)
  generalize ea : limbs wn A = na at *
  refine my_list (σ := List Value × List Int × Nat × Int × Tok) (fun c => [(lf, listOf c.1.toArray c.2.2.1)]) (fun c => [(Str.ofString "found", .ref lf), (Str.ofString "carry", .int c.2.2.2.1 c.2.2.2.2), (Str.ofString "mask", .int _ _), (Str.ofString "few", .int fw t2), (Str.ofString "w", .int wn tw)]) (fun i c => IntsAre c.1 c.2.1 ∧ ShlInv (2 ^ wn) (2 ^ fw) na sp i c.2.1 c.2.2.2.1) (List.replicate sp (.int 0 tk3), List.replicate sp 0, 0, 0, tk3 + 1) rfl (isl_keep hla F4.keep) (.inl ?_) ?_ (by simp) F4 (kst_newsOf N4 (by kst_inAny)) (by kst_all) ⟨ints_rep _ _ _, ShlInv.zero hBB hF⟩ ?_ ?_
  · obtain ⟨o, ho, _⟩ := hla
    exact ⟨o, ho⟩
  · obtain ⟨o, ho, _⟩ := hla
    exact Nat.ne_of_lt (Nat.lt_of_lt_of_le (Heap.lt_size ho) F4.above)
  · intro i; refine prod5 ?_; rintro vs fs nn carry tc v u h tk I oI hi hv ⟨hP1, hP2⟩ hne F5 N5 R9 hR hQ; dsimp only [kstB] at F5 hP1 hP2 hi hne; dsimp only [List.nil_append, List.cons_append] at N5
    obtain ⟨hi2, t, rfl⟩ := ints_at (by assumption) hv
    try k_fold
    clear F4 N4
    replace hne : @Ne Nat lf I := hne _ (List.Mem.head _)
    have hP3 := hP2.len
    have hx := dig_getD hda hBB i
    have hB9 := pow_le_512 hw2
    k_steps
    rename Fr _ _ _ _ => F6; rename News _ _ _ _ => N6
    rw [toArr_push] at N6
    refine hR (_, _, _, _, _) _ _ _ _ F6 N6 (by kst_in) (by k_memK) (by kst_all) ⟨IntsAre.append hP1 (.cons _ _ .nil), ?_⟩
    have e2 : ((wn : Int)).toNat = wn := Int.toNat_natCast _
    have e3 : ((fw : Int)).toNat = fw := Int.toNat_natCast _
    simp only [e2, e3, Int.one_mul, kbt_mask, fdiv_pos' hBB, bitOr_shl hP2.c0 hP2.c1 hx.1]
    exact hP2.step hBB hF hda
  · refine prod5 ?_; rintro vs fs nn carry tc u h tk ⟨hP1, hP2⟩ F5 N5; dsimp only [kstB] at F5 hP1 hP2; dsimp only [List.nil_append, List.cons_append] at N5; try k_fold
    clear F4 N4
    have hln : va.length = na.length := IntsAre.length (by assumption)
    rw [hln] at hP2
    have hP3 := hP2.len
    k_steps
    · rename Fr _ _ _ _ => F6; rename News _ _ _ _ => N6; rename 0 < _ => hc
      rw [toArr_push] at N6
      obtain ⟨g1, g2, g3⟩ := N6 _ (List.Mem.head _)
      exact ret _ _ _ _ _ (fun b o e => F6.keep b o e) g3 g1 ((shl_done hw1 hml hA0 ea.symm hsum hP2).1 hc ▸ IntsAre.append hP1 (.cons _ _ .nil))
    · rename ¬ 0 < _ => hc
      obtain ⟨g1, g2, g3⟩ := N5 _ (List.Mem.head _)
      exact ret _ _ _ _ _ (fun b o e => F5.keep b o e) g3 g1 ((shl_done hw1 hml hA0 ea.symm hsum hP2).2 hc ▸ hP1)
end Mine
end

section
open PySem PySem.W PySem.Calls PyProof.Rows
namespace Mine
set_option pp.deepTerms false
set_option pp.deepTerms.threshold 2
set_option pp.proofs false
theorem fillT1 : (PySem.Challenge.rw_rr0056_01.Holds ∧ Mine.hd.heap_39 = Mine.hd.heap_39) → True := by
  k_fill
  w_top off
  k_with_none
  (k_with "pyIter ref" => ((with_reducible show wpAny _ _ (pyIter (Value.ref _)) (fun it s₂ => LoopAtV _ _ _ _ _ _ _ _ _ it s₂) _ _); refine Mine.unhold ?_))
  (k_with "exec While Compare cons nil" => (refine Mine.unhold ?_))
  (k_with "exec While BoolOp cons nil" => (refine Mine.unhold ?_))
  (k_with "binaryOp LShift int int" => (k_here; refine lshift_int_small (by first | exact Int.natCast_nonneg _ | decide | omega) (by first | exact mill9 (by assumption) | decide | omega) (by first | decide | omega) ?_))
  (k_with "call ref" => (k_here; (with_reducible show wpAny _ _ (call (Value.ref 46) [Value.ref _]) _ _ _); (rename Fr _ _ _ _ => cF); (rename News _ _ _ _ => cN); (rename Top _ _ _ _ _ _ => cT); k_dflt (refine' normal_ok cF ?cX cT ?cd ?cu ?cn ?c1 ?c2 ?_; (case c1 => is_list); (case c2 => assumption); (case cn => first | omega | ((simp only [List.length_append, List.length_take, List.length_cons, List.length_nil]); omega)); (case cX => assumption); (case cd => ((try dsimp only [Around.deeper, Around.in1, Around.depth, Around.units]); first | exact room (by assumption) rfl | exact room0 (by assumption) rfl | omega)); (case cu => ((try dsimp only [Around.deeper, Around.in1, Around.depth, Around.units]); first | exact room (by assumption) rfl | exact room0 (by assumption) rfl | omega)); k_whole); intro r' vs' n' h' tk' k' f' g' i'; (have F' := fr_up cF k'); (have N' := news_add cF cN k' f' g'); (have o' := news_off cN f'); clear cF cN; (try dsimp only); (revert r' vs' n' h' tk' k' f' g' i' F' N' o'; intros)))
  exact fun _ => trivial
set_option maxRecDepth 100000 in
set_option maxHeartbeats 8000000 in
theorem bits_ok {w : World} {p : Program} {loose : List Str} {mean : ExcName → Option Value} {mg mb : Str → Option Value} {dp un : Nat} {gd : Option (List Code)} {fr : Option (List Env)} {h₀ : Heap} {L : Addr} {m : Str → Option Value} {s : Shared} {Q E : Value → Shared → Prop}
   {la : Addr} {va : List Value} {A : Nat} {wn : Nat} {tw : Tok}
   (F : Fr h₀ L s.heap m) (X : (hd.heap_39 w.params).In h₀) (T : Top p loose mean mg mb h₀)
   (hd : dp + 10 < recursionLimit) (hu : un + 100 < cLine)
   (hw1 : 1 ≤ wn) (hw2 : wn ≤ 9) (hA : A < 2 ^ 200) (hla : s.heap.IsList la va.toArray) (hia : IntsAre va (limbs wn A))
   (ret : ∀ t h' tk', s.heap.StaysIn h' → Q (.int (bl A : Nat) t) {s with heap := h', toks := tk'}) :
   wpAny (model PG w) (AA dp un fr gd) (call (.ref 81) [.ref la, .int (wn : Int) tw]) Q E s := by
  have hna := limbs_len hw1 hA
  k_dflt (refine' enterP [(Str.ofString "a", .ref la), (Str.ofString "w", .int (wn : Int) tw)] [(Str.ofString "w", .int (wn : Int) tw), (Str.ofString "a", .ref la)] rfl F X T ?k6 ?k7 ?k8 ?k9 ?kB ?c5 ?c2 ?c3 ?c4 ?_; (case k6 => k_is); (case k7 => k_is); (case k8 => (show dp < _; exact room00 hd)); (case k9 => exact rfl); (case c5 => decide); (case kB => exact locs rfl); (case c2 => exact rfl); (case c3 => exact rfl); (case c4 => exact rfl); k_whole; intro L' h' tk' F' N' X' T'; (try dsimp only [kstB] at F'))
  k_steps
  · rename (_ : Int) < _ => h0
    have hb := bits_done hw1 (A := A) (by omega)
    have h2 : ∀ X t h' tk', s.heap.StaysIn h' → X = ((bl A : Nat) : Int) → Q (.int X t) {s with heap := h', toks := tk'} := by
      rintro X t h' tk' k rfl
      exact ret t h' tk' k
    refine h2 _ _ _ _ (fun b o e => F'.keep b o e) ?_
    have e : (-1 + ((limbs wn A).length : Int)).toNat = (limbs wn A).length - 1 := by omega
    have e3 : ((limbs wn A).length : Int) - 1 = (((limbs wn A).length - 1 : Nat) : Int) := by omega
    rw [e, ← hb, e3]
    push_cast
    rfl
  · rename ¬ (_ : Int) < _ => h0
    have hb := bits_zero hw1 (A := A) (by omega)
    rw [hb] at ret
    exact ret _ _ _ (fun b o e => F'.keep b o e)
set_option maxRecDepth 100000 in
set_option maxHeartbeats 8000000 in
theorem low_ok {w : World} {p : Program} {loose : List Str} {mean : ExcName → Option Value} {mg mb : Str → Option Value} {dp un : Nat} {gd : Option (List Code)} {fr : Option (List Env)} {h₀ : Heap} {L : Addr} {m : Str → Option Value} {s : Shared} {Q E : Value → Shared → Prop}
   {la : Addr} {va : List Value} {A n : Nat} {wn : Nat} {tn tw : Tok}
   (F : Fr h₀ L s.heap m) (X : (hd.heap_39 w.params).In h₀) (T : Top p loose mean mg mb h₀)
   (hd : dp + 20 < recursionLimit) (hu : un + 200 < cLine)
   (hw1 : 1 ≤ wn) (hw2 : wn ≤ 9) (hA : A < 2 ^ 200) (hn : n ≤ 200) (hla : s.heap.IsList la va.toArray) (hia : IntsAre va (limbs wn A))
   (ret : ∀ r vs' n' h' tk', s.heap.StaysIn h' → s.heap.get? r = none → h'.get? r = some (listOf vs'.toArray n') → IntsAre vs' (limbs wn (A % 2 ^ n)) → Q (.ref r) {s with heap := h', toks := tk'}) :
   wpAny (model PG w) (AA dp un fr gd) (call (.ref 88) [.ref la, .int (n : Int) tn, .int (wn : Int) tw]) Q E s := by
  have hna := limbs_len hw1 hA
  have hml : n % wn < wn := Nat.mod_lt _ (by omega)
  k_dflt (refine' enterP [(Str.ofString "a", .ref la), (Str.ofString "n", .int (n : Int) tn), (Str.ofString "w", .int (wn : Int) tw)] [(Str.ofString "w", .int (wn : Int) tw), (Str.ofString "n", .int (n : Int) tn), (Str.ofString "a", .ref la)] rfl F X T ?k6 ?k7 ?k8 ?k9 ?kB ?c5 ?c2 ?c3 ?c4 ?_; (case k6 => k_is); (case k7 => k_is); (case k8 => (show dp < _; exact room00 hd)); (case k9 => exact rfl); (case c5 => decide); (case kB => exact locs rfl); (case c2 => exact rfl); (case c3 => exact rfl); (case c4 => exact rfl); k_whole; intro L' h' tk' F' N' X' T'; (try dsimp only [kstB] at F'))
  refine execs_cut (fun s' => ∃ h' tk' m' t1 t2, s' = {s with heap := h', toks := tk'} ∧ Fr s.heap L' h' m' ∧ (∀ p ∈ [(Str.ofString "a", Value.ref la), (Str.ofString "spots", .int (n / wn : Nat) t1), (Str.ofString "few", .int (n % wn : Nat) t2), (Str.ofString "w", .int wn tw)], m' p.1 = some p.2)) ?_ ?_
  · k_steps
    rename Fr _ _ _ _ => F3
    rw [fdiv_nat, fmod_nat] at F3
    exact ⟨_, _, _, _, _, rfl, F3, by kst_all⟩
  rintro _ ⟨h3, tk3, m3, t1, t2, rfl, F3, hm3⟩
  clear F' N'
  rw [← kstB_id hm3] at F3
  dsimp only [kstB] at F3
  have N3 : News s.heap L' h3 [] := News.nil
  have hsum : n = wn * (n / wn) + n % wn := (Nat.div_add_mod n wn).symm
  generalize hsp : n / wn = sp at *
  generalize hfw : n % wn = fw at *
  clear hm3
  generalize ea : limbs wn A = na at *
  have e1 : ((sp : Int)).toNat = sp := Int.toNat_natCast _
  have e2 : ((fw : Int)).toNat = fw := Int.toNat_natCast _
  k_steps
  · rename News _ _ _ _ => N5; rename Fr _ _ _ _ => F5; rename (_ : Int) ≤ _ => h0
    rename IntsAre _ na => hI
    have e : A % 2 ^ n = A := low_all hw1 (sp := sp) (by omega) (by rw [ea]; omega)
    rw [e, ea] at ret
    exact ret _ _ _ _ _ (fun b o e => F5.keep b o e) (N5 _ (List.Mem.head _)).2.2 (N5 _ (List.Mem.head _)).1 hI
  · rename News _ _ _ _ => N5; rename Fr _ _ _ _ => F5; rename ¬ (_ : Int) ≤ _ => h0
    rename IntsAre _ (trim _) => hI
    have e := low_done hw1 (A := A) hml hsum (by rw [ea]; omega)
    rw [ea] at e
    simp only [e1, e2, Int.one_mul, kbt_mask] at hI
    rw [e] at hI
    exact ret _ _ _ _ _ (fun b o e => F5.keep b o e) (N5 _ (List.Mem.head _)).2.2 (N5 _ (List.Mem.head _)).1 hI
end Mine
end

section
open PySem PySem.W PySem.Calls PyProof.Rows
namespace Mine
set_option pp.deepTerms false
set_option pp.deepTerms.threshold 2
set_option pp.proofs false
theorem fillO1 : (PySem.Challenge.rw_rr0056_01.Holds ∧ Mine.hd.heap_39 = Mine.hd.heap_39) → True := by
  k_fill
  w_top off
  k_with_none
  (k_with "pyIter ref" => ((with_reducible show wpAny _ _ (pyIter (Value.ref _)) (fun it s₂ => LoopAtV _ _ _ _ _ _ _ _ _ it s₂) _ _); refine Mine.unhold ?_))
  (k_with "exec While Compare cons nil" => (refine Mine.unhold ?_))
  (k_with "exec While BoolOp cons nil" => (refine Mine.unhold ?_))
  (k_with "binaryOp LShift int int" => (k_here; refine lshift_int_small (by first | exact Int.natCast_nonneg _ | decide | omega) (by first | exact mill9 (by assumption) | decide | omega) (by first | decide | omega) ?_))
  (k_with "call ref" => (k_here; (with_reducible show wpAny _ _ (call (Value.ref 67) [Value.ref _, Value.ref _, Value.int _ _]) _ _ _); (rename Fr _ _ _ _ => cF); (rename News _ _ _ _ => cN); (rename Top _ _ _ _ _ _ => cT); k_dflt (refine' sub_ok cF ?cX cT ?cd ?cu ?cw1 ?cw2 ?cA ?cB ?cAB ?c1 ?c2 ?c3 ?c4 ?_; (case c1 => is_list); (case c2 => first | assumption | exact IntsAre.nil | ((rename (∀ t, IntsAre [Value.int 1 t] _) => hone); exact hone _)); (case c3 => is_list); (case c4 => first | assumption | exact IntsAre.nil | ((rename (∀ t, IntsAre [Value.int 1 t] _) => hone); exact hone _)); (case cw1 => assumption); (case cw2 => assumption); (case cA => first | assumption | omega | decide); (case cB => first | assumption | omega | decide); (case cAB => first | assumption | omega | decide); (case cX => assumption); (case cd => ((try dsimp only [Around.deeper, Around.in1, Around.depth, Around.units]); first | exact room (by assumption) rfl | exact room0 (by assumption) rfl | omega)); (case cu => ((try dsimp only [Around.deeper, Around.in1, Around.depth, Around.units]); first | exact room (by assumption) rfl | exact room0 (by assumption) rfl | omega)); k_whole); intro r' vs' n' h' tk' k' f' g' i'; (have F' := fr_up cF k'); (have N' := news_add cF cN k' f' g'); (have o' := news_off cN f'); clear cF cN; (try dsimp only); (revert r' vs' n' h' tk' k' f' g' i' F' N' o'; intros)))
  (k_with "call ref" => (k_here; (with_reducible show wpAny _ _ (call (Value.ref 74) [Value.ref _, Value.int _ _, Value.int _ _]) _ _ _); (rename Fr _ _ _ _ => cF); (rename News _ _ _ _ => cN); (rename Top _ _ _ _ _ _ => cT); k_dflt (refine' shl_ok cF ?cX cT ?cd ?cu ?cw1 ?cw2 ?cA ?cn ?c1 ?c2 ?_; (case c1 => is_list); (case c2 => first | assumption | exact IntsAre.nil | ((rename (∀ t, IntsAre [Value.int 1 t] _) => hone); exact hone _)); (case cw1 => assumption); (case cw2 => assumption); (case cA => first | assumption | omega | decide); (case cn => first | assumption | omega | decide); (case cX => assumption); (case cd => ((try dsimp only [Around.deeper, Around.in1, Around.depth, Around.units]); first | exact room (by assumption) rfl | exact room0 (by assumption) rfl | omega)); (case cu => ((try dsimp only [Around.deeper, Around.in1, Around.depth, Around.units]); first | exact room (by assumption) rfl | exact room0 (by assumption) rfl | omega)); k_whole); intro r' vs' n' h' tk' k' f' g' i'; (have F' := fr_up cF k'); (have N' := news_add cF cN k' f' g'); (have o' := news_off cN f'); clear cF cN; (try dsimp only); (revert r' vs' n' h' tk' k' f' g' i' F' N' o'; intros)))
  (k_with "call ref" => (k_here; (with_reducible show wpAny _ _ (call (Value.ref 123) [Value.int _ _]) _ _ _); (rename Fr _ _ _ _ => cF); (rename News _ _ _ _ => cN); (rename Top _ _ _ _ _ _ => cT); k_dflt (refine' need_ok cF ?cX cT ?cd ?cu ?cn ?_; (case cn => omega); (case cX => assumption); (case cd => ((try dsimp only [Around.deeper, Around.in1, Around.depth, Around.units]); first | exact room (by assumption) rfl | exact room0 (by assumption) rfl | omega)); (case cu => ((try dsimp only [Around.deeper, Around.in1, Around.depth, Around.units]); first | exact room (by assumption) rfl | exact room0 (by assumption) rfl | omega)); k_whole); intro h' tk' k'; (have F' := fr_up cF k'); (have N' := news_up cN k'); clear cF cN; (try dsimp only); (revert h' tk' k' F' N'; intros)))
  exact fun _ => trivial
set_option maxRecDepth 100000 in
set_option maxHeartbeats 8000000 in
theorem need_ok {w : World} {p : Program} {loose : List Str} {mean : ExcName → Option Value} {mg mb : Str → Option Value} {dp un : Nat} {gd : Option (List Code)} {fr : Option (List Env)} {h₀ : Heap} {L : Addr} {m : Str → Option Value} {s : Shared} {Q E : Value → Shared → Prop}
   {n : Int} {tn : Tok}
   (F : Fr h₀ L s.heap m) (X : (hd.heap_39 w.params).In h₀) (T : Top p loose mean mg mb h₀)
   (hd : dp + 10 < recursionLimit) (hu : un + 100 < cLine)
   (hn : 0 ≤ n)
   (ret : ∀ h' tk', s.heap.StaysIn h' → Q .none {s with heap := h', toks := tk'}) :
   wpAny (model PG w) (AA dp un fr gd) (call (.ref 123) [.int n tn]) Q E s := by
  k_dflt (refine' enterP [(Str.ofString "n", .int n tn)] [(Str.ofString "n", .int n tn)] rfl F X T ?k6 ?k7 ?k8 ?k9 ?kB ?c5 ?c2 ?c3 ?c4 ?_; (case k6 => k_is); (case k7 => k_is); (case k8 => (show dp < _; exact room00 hd)); (case k9 => exact rfl); (case c5 => decide); (case kB => exact locs rfl); (case c2 => exact rfl); (case c3 => exact rfl); (case c4 => exact rfl); k_whole; intro L' h' tk' F' N' X' T'; (try dsimp only [kstB] at F'))
  k_steps
  exact ret _ _ (fun b o e => F'.keep b o e)
theorem limbs_one {w : Nat} (hw : 1 ≤ w) : limbs w 1 = [1] := by
  rw [limbs_pos hw (by omega)]
  have h : 2 ^ 1 ≤ 2 ^ w := Nat.pow_le_pow_right (by omega) hw
  have e : 1 % 2 ^ w = 1 := Nat.mod_eq_of_lt (by omega)
  have e2 : 1 / 2 ^ w = 0 := Nat.div_eq_of_lt (by omega)
  rw [e, e2, limbs_zero]
  rfl
theorem ints_one {w : Nat} (hw : 1 ≤ w) : ∀ t, IntsAre [Value.int 1 t] (limbs w 1) := fun t => limbs_one hw ▸ .cons _ _ .nil
set_option maxRecDepth 100000 in
set_option maxHeartbeats 8000000 in
theorem ones_ok {w : World} {p : Program} {loose : List Str} {mean : ExcName → Option Value} {mg mb : Str → Option Value} {dp un : Nat} {gd : Option (List Code)} {fr : Option (List Env)} {h₀ : Heap} {L : Addr} {m : Str → Option Value} {s : Shared} {Q E : Value → Shared → Prop}
   {n : Nat} {wn : Nat} {tn tw : Tok}
   (F : Fr h₀ L s.heap m) (X : (hd.heap_39 w.params).In h₀) (T : Top p loose mean mg mb h₀)
   (hd : dp + 30 < recursionLimit) (hu : un + 300 < cLine)
   (hw1 : 1 ≤ wn) (hw2 : wn ≤ 9) (hn : n ≤ 100)
   (ret : ∀ r vs' n' h' tk', s.heap.StaysIn h' → s.heap.get? r = none → h'.get? r = some (listOf vs'.toArray n') → IntsAre vs' (limbs wn (2 ^ n - 1)) → Q (.ref r) {s with heap := h', toks := tk'}) :
   wpAny (model PG w) (AA dp un fr gd) (call (.ref 172) [.int (n : Int) tn, .int (wn : Int) tw]) Q E s := by
  have h1 := ints_one hw1
  have hpw : 1 * 2 ^ n < 2 ^ 200 := by rw [Nat.one_mul]; exact Nat.pow_lt_pow_right (by omega) (by omega)
  have hge : 1 ≤ 1 * 2 ^ n := by rw [Nat.one_mul]; exact Nat.two_pow_pos n
  have hn0 : 0 ≤ (n : Int) := by omega
  k_dflt (refine' enterP [(Str.ofString "n", .int (n : Int) tn), (Str.ofString "w", .int (wn : Int) tw)] [(Str.ofString "w", .int (wn : Int) tw), (Str.ofString "n", .int (n : Int) tn)] rfl F X T ?k6 ?k7 ?k8 ?k9 ?kB ?c5 ?c2 ?c3 ?c4 ?_; (case k6 => k_is); (case k7 => k_is); (case k8 => (show dp < _; exact room00 hd)); (case k9 => exact rfl); (case c5 => decide); (case kB => exact locs rfl); (case c2 => exact rfl); (case c3 => exact rfl); (case c4 => exact rfl); k_whole; intro L' h' tk' F' N' X' T'; (try dsimp only [kstB] at F'))
  k_steps
  · rename News _ _ _ _ => N5; rename Fr _ _ _ _ => F5; rename (_ : Int) = _ => h0
    have e : n = 0 := by omega
    subst e
    exact ret _ [] _ _ _ (fun b o e => F5.keep b o e) (N5 _ (List.Mem.head _)).2.2 (N5 _ (List.Mem.head _)).1 .nil
  · rename News _ _ _ _ => N5; rename Fr _ _ _ _ => F5
    rename IntsAre _ (limbs _ (_ - _)) => hI
    rw [Nat.one_mul] at hI
    exact ret _ _ _ _ _ (fun b o e => F5.keep b o e) (N5 _ (List.Mem.head _)).2.2 (N5 _ (List.Mem.head _)).1 hI
end Mine
end

section
open PySem PySem.W PySem.Calls PyProof.Rows
namespace Mine
/-- what is fixed of a source's dict -/
structure SD where
  ra : Addr
  h1 : Int
  h2 : Int
  h3 : Int
  k1 : Tok
  k2 : Tok
  k3 : Tok
  t2 : Tok
  size : Nat
abbrev SD.obj (d : SD) (i : Nat) (t : Tok) : Obj :=
  dictOf [⟨d.h1, .str (Str.ofString "numbers") d.k1, .ref d.ra⟩, ⟨d.h2, .str (Str.ofString "many") d.k2, .int (d.size : Int) d.t2⟩, ⟨d.h3, .str (Str.ofString "at") d.k3, .int (i : Int) t⟩] 3
/-- the rows told -/
structure TR (h : Heap) (ra : Addr) (w : Nat) (told : List Nat) (rvs : List Value) : Prop where
  list : h.IsList ra rvs.toArray
  len : rvs.length = told.length
  rows : ∀ i v, rvs[i]? = some v → ∃ r vs, v = .ref r ∧ h.IsList r vs.toArray ∧ IntsAre vs (limbs w (told.getD i 0))
theorem TR.keep {h h' : Heap} {ra : Addr} {w : Nat} {told : List Nat} {rvs : List Value} (R : TR h ra w told rvs) (k : ∀ l items, h.IsList l items → h'.IsList l items) : TR h' ra w told rvs :=
  ⟨k _ _ R.list, R.len, fun i v hv => by
    obtain ⟨r, vs, e, h1, h2⟩ := R.rows i v hv
    exact ⟨r, vs, e, k _ _ h1, h2⟩⟩
theorem isl_hide {h : Heap} {news : List (Addr × Obj)} (hn : ∀ p ∈ news, h.get? p.1 = some p.2) (hc : ∀ p ∈ news, p.2.cls ≠ .type "list") {l : Addr} {items : Array Value} (x : h.IsList l items) : (hideAll h (news.map (·.1))).IsList l items := by
  obtain ⟨o, ho, hcl, r⟩ := x
  refine ⟨o, hideAll_get _ ho fun hm => ?_, hcl, r⟩
  obtain ⟨p, hp, e⟩ := List.mem_map.mp hm
  have h1 := hn p hp
  rw [e, ho] at h1
  exact hc p hp ((Option.some.inj h1) ▸ hcl)
theorem item_list {w : World} {A : Around} {E : Value → Shared → Prop} {s : Shared} {value slice : PySem.Expr} {l : Addr} {vs : List Value} {k : Int} {u : Tok} {v : Value} {Q : Value → Shared → Prop}
    (hl : s.heap.IsList l vs.toArray) (h0 : 0 ≤ k) (hhi : k < 2 ^ 63) (hx : vs[k.toNat]? = some v) (h : Q v s)
    (hs : subscripted slice false (.ref l) (.int k u) = operate [.ref l, .int k u] (getItem (.ref l) (.int k u))) :
    wpAny (model PG w) A (subscriptTail value slice (.ref l) (.int k u)) Q E s :=
  tail_any hl.typeIs slot_list_getitem.lookup (wpAny_getItem_list hl h0 hhi (by simpa using hx) h) hs
end Mine
end

section
open PySem PySem.W PySem.Calls PyProof.Rows
namespace Mine
/-- one object of the ledger has turned -/
theorem fr_set {h₀ h h' : Heap} {L d : Addr} {m : Str → Option Value} {o : Obj} {news : List (Addr × Obj)} (F : Fr h₀ L h m) (N : News h₀ L h news) (hm : (d, o) ∈ news)
    (hk : ∀ b o, b ≠ d → h.get? b = some o → h'.get? b = some o) : Fr h₀ L h' m := by
  obtain ⟨oL, a1, a2, hL, a3⟩ := F.ns
  have hd := N _ hm
  refine ⟨⟨oL, a1, a2, hk _ _ (Ne.symm hd.2.1) hL, a3⟩, fun b o' e => hk _ _ (fun q => ?_) (F.keep b o' e), F.above⟩
  have := hd.2.2
  rw [← q, e] at this; cases this
theorem news_set {h₀ h h' : Heap} {L d : Addr} {o o' : Obj} {news l : List (Addr × Obj)} (N : News h₀ L h news) (hm : (d, o) ∈ news)
    (hk : ∀ b o, b ≠ d → h.get? b = some o → h'.get? b = some o) (hd : h'.get? d = some o') (hl : ∀ p ∈ l, (p ∈ news ∧ p.2.cls ≠ o.cls) ∨ p = (d, o')) : News h₀ L h' l := by
  intro p hp
  rcases hl p hp with ⟨h1, h2⟩ | rfl
  · refine ⟨hk _ _ (fun e => ?_) (N p h1).1, (N p h1).2⟩
    have e1 := (N p h1).1
    rw [e, (N _ hm).1] at e1
    exact h2 (congrArg Obj.cls (Option.some.inj e1)).symm
  · exact ⟨hd, (N _ hm).2⟩
theorem news_cons {h₀ h h' : Heap} {L r : Addr} {o : Obj} {m : Str → Option Value} {news : List (Addr × Obj)} (F : Fr h₀ L h m) (N : News h₀ L h' news) (hr : h.get? r = none) (hg : h'.get? r = some o) : News h₀ L h' ((r, o) :: news) := by
  intro p hp
  rcases List.mem_cons.mp hp with rfl | hp
  · refine ⟨hg, fun e => ?_, ?_⟩
    · obtain ⟨oL, a1, a2, hL, a3⟩ := F.ns
      have e' : r = L := e
      rw [e', hL] at hr; cases hr
    · cases q : h₀.get? r with
      | none => rfl
      | some o' => rw [F.keep _ _ q] at hr; cases hr
  · exact N p hp

theorem TPW.nxt {σ : Type} {h₀ : Heap} {L : Addr} {s s₂ : Shared} {Led : σ → List (Addr × Obj)} {ps : σ → List (Str × Value)} {P : σ → Prop} {μ : σ → Nat} {k : Nat} {Q : Flow → Shared → Prop} (h : TE h₀ L s Led ps (fun c => P c ∧ μ c < k) [] s₂) : TPW h₀ L s Led ps P μ k Q .next s₂ := h
/-- what the draws tell -/
def bsum (told : List Nat) (size i : Nat) : Nat → Nat
  | 0 => 0
  | k + 1 => bsum told size i k + told.getD ((i + k) % told.length) 0 * 2 ^ (k * size)
def turns (n size : Nat) : Nat := (n + size - 1) / size
theorem turns_eq {n size k : Nat} (hs : 1 ≤ size) (h1 : n ≤ k * size) (h2 : k = 0 ∨ (k - 1) * size < n) : turns n size = k := by
  unfold turns
  rcases h2 with rfl | h2
  · rw [Nat.zero_mul] at h1
    have : n = 0 := by omega
    subst this
    exact Nat.div_eq_of_lt (by omega)
  · by_cases hk : k = 0
    · subst hk
      rw [Nat.zero_mul] at h1
      have : n = 0 := by omega
      subst this
      exact Nat.div_eq_of_lt (by omega)
    · obtain ⟨j, rfl⟩ := Nat.exists_eq_succ_of_ne_zero hk
      simp only [Nat.succ_eq_add_one, Nat.add_sub_cancel] at h2
      rw [Nat.succ_eq_add_one, Nat.add_mul, Nat.one_mul] at h1
      apply Nat.div_eq_of_lt_le
      · rw [Nat.succ_eq_add_one, Nat.add_mul, Nat.one_mul]; omega
      · rw [Nat.succ_eq_add_one, Nat.add_mul, Nat.add_mul, Nat.one_mul]; omega
def TB (told : List Nat) (size : Nat) : Prop := ∀ x ∈ told, x < 2 ^ size
theorem tb_getD {told : List Nat} {size : Nat} (h : TB told size) (j : Nat) : told.getD j 0 < 2 ^ size := by
  rw [List.getD_eq_getElem?_getD]
  cases e : told[j]? with
  | none => exact Nat.two_pow_pos _
  | some x => exact h x (List.mem_of_getElem? e)
theorem bsum_lt {told : List Nat} {size : Nat} (h : TB told size) (i : Nat) : ∀ k, bsum told size i k < 2 ^ (k * size)
  | 0 => by simp [bsum]
  | k + 1 => by
    have h1 := bsum_lt h i k
    have h2 := tb_getD h ((i + k) % told.length)
    have h3 : (told.getD ((i + k) % told.length) 0 + 1) * 2 ^ (k * size) ≤ 2 ^ size * 2 ^ (k * size) := Nat.mul_le_mul_right _ h2
    rw [Nat.add_mul, Nat.one_mul] at h3
    show _ + _ < _
    have e : (k + 1) * size = size + k * size := by rw [Nat.add_mul, Nat.one_mul, Nat.add_comm]
    rw [e, Nat.pow_add]
    omega
def drawn (told : List Nat) (size i n : Nat) : Nat := bsum told size i (turns n size) % 2 ^ n
theorem drawn_lt (told : List Nat) (size i n : Nat) : drawn told size i n < 2 ^ n := Nat.mod_lt _ (Nat.two_pow_pos _)
end Mine
end

section
open PySem PySem.W PySem.Calls PyProof.Rows
namespace Mine
set_option pp.deepTerms false
set_option pp.deepTerms.threshold 2
set_option pp.proofs false
theorem fillK1 : (PySem.Challenge.rw_rr0056_01.Holds ∧ Mine.hd.heap_39 = Mine.hd.heap_39) → True := by
  k_fill
  w_top off
  k_with_none
  (k_with "pyIter ref" => ((with_reducible show wpAny _ _ (pyIter (Value.ref _)) (fun it s₂ => LoopAtV _ _ _ _ _ _ _ _ _ it s₂) _ _); refine Mine.unhold ?_))
  (k_with "exec While Compare cons nil" => (refine Mine.unhold ?_))
  (k_with "exec While BoolOp cons nil" => (refine Mine.unhold ?_))
  (k_with "binaryOp LShift int int" => (k_here; refine lshift_int_small (by first | exact Int.natCast_nonneg _ | decide | omega) (by first | exact mill9 (by assumption) | decide | omega) (by first | decide | omega) ?_))
  exact fun _ => trivial
set_option maxRecDepth 100000 in
set_option maxHeartbeats 8000000 in
theorem take_ok {w : World} {p : Program} {loose : List Str} {mean : ExcName → Option Value} {mg mb : Str → Option Value} {dp un : Nat} {gd : Option (List Code)} {fr : Option (List Env)} {h₀ : Heap} {L : Addr} {m : Str → Option Value} {s : Shared} {Q E : Value → Shared → Prop}
   {x dx : Addr} {d : SD} {i : Nat} {t : Tok} {wn : Nat} {told : List Nat} {rvs : List Value}
   (F : Fr h₀ L s.heap m) (X : (hd.heap_39 w.params).In h₀) (T : Top p loose mean mg mb h₀)
   (hd : dp + 10 < recursionLimit) (hu : un + 100 < cLine)
   (N : News h₀ L s.heap [(x, instObj 112 dx), (dx, d.obj i t)]) (R : TR s.heap d.ra wn told rvs) (ht : told ≠ []) (ht2 : told.length ≤ 1000)
   (ret : ∀ D r h' tk' t', (∀ b o, b ≠ dx → s.heap.get? b = some o → h'.get? b = some o) → h'.get? dx = some (d.obj (i + 1) t') → s.heap.get? D = none → h'.get? D = some { cls := .type "tuple", data := .seq #[.ref r, .int (d.size : Int) d.t2] } → rvs[i % told.length]? = some (.ref r) → Q (.ref D) {s with heap := h', toks := tk'}) :
   wpAny (model PG w) (AA dp un fr gd) (call (.ref 109) [.ref x]) Q E s := by
  have hne : @Ne Nat x dx := fun e => by
    have h1 := (N _ (List.Mem.head _)).1
    have h2 := (N _ (List.Mem.tail _ (List.Mem.head _))).1
    rw [e, h2] at h1
    cases h1
  have hlist := fun {l items} => isl_hide (l := l) (items := items) (h := s.heap) (news := [(x, instObj 112 dx), (dx, d.obj i t)]) (fun p hp => (N p hp).1) (by simp)
  have hst : ∀ b o, b ≠ x → b ≠ dx → s.heap.get? b = some o → (hideAll s.heap ([(x, instObj 112 dx), (dx, d.obj i t)].map (·.1))).get? b = some o := fun b o h1 h2 e => hideAll_get _ e (by simp; exact ⟨h1, h2⟩)
  k_dflt (refine' enter [(x, instObj 112 dx), (dx, d.obj i t)] [(Str.ofString "self", .ref x)] [(Str.ofString "self", .ref x)] rfl F X T N ?k6 ?k7 ?k8 ?k9 ?kB ?c5 ?c2 ?c3 ?c4 ?_; (case k6 => k_is); (case k7 => k_is); (case k8 => (show dp < _; exact room00 hd)); (case k9 => exact rfl); (case c5 => decide); (case kB => exact locs rfl); (case c2 => exact rfl); (case c3 => exact rfl); (case c4 => exact rfl); k_whole; intro g' L' h' tk' eg' eL' F' N' X' T'; (try dsimp only [kstB] at F'))
  rw [← eg'] at hlist hst
  have hg0 : ∀ b o, g'.get? b = some o → s.heap.get? b = some o := fun b o e => of_hideAll _ (eg' ▸ e)
  have R' := R.keep (fun l items => hlist)
  clear eg'
  obtain ⟨ra, h1, h2, h3, k1, k2, k3, t2, size⟩ := d
  have hrl := R'.list
  have hrn := R'.len
  have hsz : rvs.toArray.size = told.length := by simp [hrn]
  have htl : 0 < told.length := List.length_pos_iff.mpr ht
  have hmt : i % told.length < told.length := Nat.mod_lt _ htl
  have hfm : ((i : Int)).fmod (rvs.toArray.size : Int) = ((i % told.length : Nat) : Int) := by rw [hsz, fmod_nat]
  obtain ⟨r, vs, hre, hrl2, hri⟩ := R'.rows (i % told.length) (rvs[i % told.length]'(by omega)) (List.getElem?_eq_getElem (by omega))
  have hx : rvs[i % told.length]? = some (.ref r) := by rw [List.getElem?_eq_getElem (by omega), hre]
  have hrl3 : s.heap.IsList r vs.toArray := isl_keep hrl2 hg0
  clear hre
  generalize hj : i % told.length = j at *
  k_steps
  refine item_list (v := .ref r) (isl_keep hrl (fun b o e => F'.keep b o e)) (by rw [hfm]; omega) (by rw [hfm]; omega) (by rw [hfm]; simpa using hx) ?_ (by with_unfolding_all rfl)
  k_steps
  rename Fr _ _ _ _ => F5; rename News _ _ _ _ => N5
  rename (_ : Nat) < _ ∧ _ < _ => hlt
  obtain ⟨hlt1, hlt2⟩ := hlt
  refine ret _ r _ _ _ ?_ (N5 _ (List.Mem.tail _ (List.Mem.tail _ (List.Mem.head _)))).1 ?_ (N5 _ (List.Mem.head _)).1 hx
  · intro b o hb e
    by_cases hbx : b = x
    · subst hbx
      have e1 := (N _ (List.Mem.head _)).1
      have e2 := (N5 _ (List.Mem.tail _ (List.Mem.head _))).1
      exact e2.trans (e1.symm.trans e)
    · exact F5.keep b o (hst b o hbx hb e)
  · have e3 := (N5 _ (List.Mem.head _)).2.2
    cases q : s.heap.get? _ with
    | none => rfl
    | some o => rw [hst _ _ (Nat.ne_of_gt hlt1) (Nat.ne_of_gt hlt2) q] at e3; cases e3
end Mine
end

section
open PySem PySem.W PySem.Calls PyProof.Rows
namespace Mine
set_option pp.deepTerms false
set_option pp.deepTerms.threshold 2
set_option pp.proofs false
theorem fillR1 : (PySem.Challenge.rw_rr0056_01.Holds ∧ Mine.hd.heap_39 = Mine.hd.heap_39) → True := by
  k_fill
  w_top off
  k_with_none
  (k_with "pyIter ref" => ((with_reducible show wpAny _ _ (pyIter (Value.ref _)) (fun it s₂ => LoopAtV _ _ _ _ _ _ _ _ _ it s₂) _ _); refine Mine.unhold ?_))
  (k_with "exec While Compare cons nil" => (refine Mine.unhold ?_))
  (k_with "exec While BoolOp cons nil" => (refine Mine.unhold ?_))
  (k_with "binaryOp LShift int int" => (k_here; refine lshift_int_small (by first | exact Int.natCast_nonneg _ | decide | omega) (by first | exact mill9 (by assumption) | decide | omega) (by first | decide | omega) ?_))
  (k_with "call ref" => (k_here; (with_reducible show wpAny _ _ (call (Value.ref 60) [Value.ref _, Value.ref _, Value.int _ _]) _ _ _); (rename Fr _ _ _ _ => cF); (rename News _ _ _ _ => cN); (rename Top _ _ _ _ _ _ => cT); k_dflt (refine' add_ok cF ?cX cT ?cd ?cu ?cw1 ?cw2 ?cA ?cB ?c1 ?c2 ?c3 ?c4 ?_; (case c1 => is_list); (case c2 => first | assumption | exact IntsAre.nil | ((rename (∀ t, IntsAre [Value.int 1 t] _) => hone); exact hone _)); (case c3 => is_list); (case c4 => first | assumption | exact IntsAre.nil | ((rename (∀ t, IntsAre [Value.int 1 t] _) => hone); exact hone _)); (case cw1 => assumption); (case cw2 => assumption); (case cA => first | assumption | omega | decide); (case cB => first | assumption | omega | decide); (case cX => assumption); (case cd => ((try dsimp only [Around.deeper, Around.in1, Around.depth, Around.units]); first | exact room (by assumption) rfl | exact room0 (by assumption) rfl | omega)); (case cu => ((try dsimp only [Around.deeper, Around.in1, Around.depth, Around.units]); first | exact room (by assumption) rfl | exact room0 (by assumption) rfl | omega)); k_whole); intro r' vs' n' h' tk' k' f' g' i'; (have F' := fr_up cF k'); (have N' := news_add cF cN k' f' g'); (have o' := news_off cN f'); clear cF cN; (try dsimp only); (revert r' vs' n' h' tk' k' f' g' i' F' N' o'; intros)))
  (k_with "call ref" => (k_here; (with_reducible show wpAny _ _ (call (Value.ref 74) [Value.ref _, Value.int _ _, Value.int _ _]) _ _ _); (rename Fr _ _ _ _ => cF); (rename News _ _ _ _ => cN); (rename Top _ _ _ _ _ _ => cT); k_dflt (refine' shl_ok cF ?cX cT ?cd ?cu ?cw1 ?cw2 ?cA ?cn ?c1 ?c2 ?_; (case c1 => is_list); (case c2 => first | assumption | exact IntsAre.nil | ((rename (∀ t, IntsAre [Value.int 1 t] _) => hone); exact hone _)); (case cw1 => assumption); (case cw2 => assumption); (case cA => first | assumption | omega | decide); (case cn => first | assumption | omega | decide); (case cX => assumption); (case cd => ((try dsimp only [Around.deeper, Around.in1, Around.depth, Around.units]); first | exact room (by assumption) rfl | exact room0 (by assumption) rfl | omega)); (case cu => ((try dsimp only [Around.deeper, Around.in1, Around.depth, Around.units]); first | exact room (by assumption) rfl | exact room0 (by assumption) rfl | omega)); k_whole); intro r' vs' n' h' tk' k' f' g' i'; (have F' := fr_up cF k'); (have N' := news_add cF cN k' f' g'); (have o' := news_off cN f'); clear cF cN; (try dsimp only); (revert r' vs' n' h' tk' k' f' g' i' F' N' o'; intros)))
  (k_with "call ref" => (k_here; (with_reducible show wpAny _ _ (call (Value.ref 88) [Value.ref _, Value.int _ _, Value.int _ _]) _ _ _); (rename Fr _ _ _ _ => cF); (rename News _ _ _ _ => cN); (rename Top _ _ _ _ _ _ => cT); k_dflt (refine' low_ok cF ?cX cT ?cd ?cu ?cw1 ?cw2 ?cA ?cn ?c1 ?c2 ?_; (case c1 => is_list); (case c2 => first | assumption | exact IntsAre.nil | ((rename (∀ t, IntsAre [Value.int 1 t] _) => hone); exact hone _)); (case cw1 => assumption); (case cw2 => assumption); (case cA => first | assumption | omega | decide); (case cn => first | assumption | omega | decide); (case cX => assumption); (case cd => ((try dsimp only [Around.deeper, Around.in1, Around.depth, Around.units]); first | exact room (by assumption) rfl | exact room0 (by assumption) rfl | omega)); (case cu => ((try dsimp only [Around.deeper, Around.in1, Around.depth, Around.units]); first | exact room (by assumption) rfl | exact room0 (by assumption) rfl | omega)); k_whole); intro r' vs' n' h' tk' k' f' g' i'; (have F' := fr_up cF k'); (have N' := news_add cF cN k' f' g'); (have o' := news_off cN f'); clear cF cN; (try dsimp only); (revert r' vs' n' h' tk' k' f' g' i' F' N' o'; intros)))
  (k_with "call ref" => (k_here; (with_reducible show wpAny _ _ (call (Value.ref 123) [Value.int _ _]) _ _ _); (rename Fr _ _ _ _ => cF); (rename News _ _ _ _ => cN); (rename Top _ _ _ _ _ _ => cT); k_dflt (refine' need_ok cF ?cX cT ?cd ?cu ?cn ?_; (case cn => omega); (case cX => assumption); (case cd => ((try dsimp only [Around.deeper, Around.in1, Around.depth, Around.units]); first | exact room (by assumption) rfl | exact room0 (by assumption) rfl | omega)); (case cu => ((try dsimp only [Around.deeper, Around.in1, Around.depth, Around.units]); first | exact room (by assumption) rfl | exact room0 (by assumption) rfl | omega)); k_whole); intro h' tk' k'; (have F' := fr_up cF k'); (have N' := news_up cN k'); clear cF cN; (try dsimp only); (revert h' tk' k' F' N'; intros)))
  exact fun _ => trivial
set_option maxRecDepth 100000 in
set_option maxHeartbeats 8000000 in
theorem rbits_ok {w : World} {p : Program} {loose : List Str} {mean : ExcName → Option Value} {mg mb : Str → Option Value} {dp un : Nat} {gd : Option (List Code)} {fr : Option (List Env)} {h₀ : Heap} {L : Addr} {m : Str → Option Value} {s : Shared} {Q E : Value → Shared → Prop}
   {x dx : Addr} {d : SD} {i : Nat} {t : Tok} {n wn : Nat} {tn tw : Tok} {told : List Nat} {rvs : List Value}
   (F : Fr h₀ L s.heap m) (X : (hd.heap_39 w.params).In h₀) (T : Top p loose mean mg mb h₀)
   (hd : dp + 40 < recursionLimit) (hu : un + 400 < cLine)
   (N : News h₀ L s.heap [(x, instObj 112 dx), (dx, d.obj i t)]) (R : TR s.heap d.ra wn told rvs) (ht : told ≠ []) (ht2 : told.length ≤ 1000) (hw1 : 1 ≤ wn) (hw2 : wn ≤ 9) (hn : n ≤ 100) (hs1 : 1 ≤ d.size) (hs2 : d.size ≤ 9) (hTB : TB told d.size)
   (ret : ∀ r vs n' h' tk' t', (∀ b o, b ≠ dx → s.heap.get? b = some o → h'.get? b = some o) → h'.get? dx = some (d.obj (i + turns n d.size) t') → s.heap.get? r = none → h'.get? r = some (listOf vs.toArray n') → IntsAre vs (limbs wn (drawn told d.size i n)) → Q (.ref r) {s with heap := h', toks := tk'}) :
   wpAny (model PG w) (AA dp un fr gd) (call (.ref 130) [.ref x, .int (n : Int) tn, .int (wn : Int) tw]) Q E s := by
  have hne : @Ne Nat x dx := fun e => by
    have h1 := (N _ (List.Mem.head _)).1
    have h2 := (N _ (List.Mem.tail _ (List.Mem.head _))).1
    rw [e, h2] at h1
    cases h1
  have hlist := fun {l items} => isl_hide (l := l) (items := items) (h := s.heap) (news := [(x, instObj 112 dx), (dx, d.obj i t)]) (fun p hp => (N p hp).1) (by simp)
  have hst : ∀ b o, b ≠ x → b ≠ dx → s.heap.get? b = some o → (hideAll s.heap ([(x, instObj 112 dx), (dx, d.obj i t)].map (·.1))).get? b = some o := fun b o h1 h2 e => hideAll_get _ e (by simp; exact ⟨h1, h2⟩)
  k_dflt (refine' enter [(x, instObj 112 dx), (dx, d.obj i t)] [(Str.ofString "source", .ref x), (Str.ofString "n", .int (n : Int) tn), (Str.ofString "w", .int (wn : Int) tw)] [(Str.ofString "w", .int (wn : Int) tw), (Str.ofString "n", .int (n : Int) tn), (Str.ofString "source", .ref x)] rfl F X T N ?k6 ?k7 ?k8 ?k9 ?kB ?c5 ?c2 ?c3 ?c4 ?_; (case k6 => k_is); (case k7 => k_is); (case k8 => (show dp < _; exact room00 hd)); (case k9 => exact rfl); (case c5 => decide); (case kB => exact locs rfl); (case c2 => exact rfl); (case c3 => exact rfl); (case c4 => exact rfl); k_whole; intro g' L' h' tk' eg' eL' F' N' X' T'; (try dsimp only [kstB] at F'))
  rw [← eg'] at hlist hst
  have hg0 : ∀ b o, g'.get? b = some o → s.heap.get? b = some o := fun b o e => of_hideAll _ (eg' ▸ e)
  have hgn : ∀ b, b ≠ x → b ≠ dx → g'.get? b = none → s.heap.get? b = none := fun b h1 h2 e => by
    cases q : s.heap.get? b with
    | none => rfl
    | some o => rw [hst _ _ h1 h2 q] at e; cases e
  have R' := R.keep (fun l items => hlist)
  have hxs := (N _ (List.Mem.head _)).1
  clear eg' hlist
  have hn0 : 0 ≤ (n : Int) := Int.natCast_nonneg _
  k_steps
  apply Hold.mk
  rename_i lf _ _ _ _ _ _ _ _ F2 N2
  refine my_while (σ := Nat × Addr × List Value × Nat × Tok × Tok) (fun c => [(c.2.1, listOf c.2.2.1.toArray c.2.2.2.1), (x, instObj 112 dx), (dx, d.obj (i + c.1) c.2.2.2.2.2)]) (fun c => [(Str.ofString "found", .ref c.2.1), (Str.ofString "have", .int ((c.1 * d.size : Nat) : Int) c.2.2.2.2.1), (Str.ofString "source", .ref x), (Str.ofString "n", .int n tn), (Str.ofString "w", .int wn tw)]) (fun c => IntsAre c.2.2.1 (limbs wn (bsum told d.size i c.1)) ∧ (c.1 = 0 ∨ (c.1 - 1) * d.size < n)) (fun c => n - c.1 * d.size) (0, lf, [], 0, _, t) F2 (kst_newsOf N2 (by kst_inAny)) (by dsimp only; rw [Nat.zero_mul]; kst_all) ⟨IntsAre.nil, .inl rfl⟩ ?_ PassesOwn.never
  refine prod6 ?_; rintro k lf vf nf th ta u h tk ⟨hP1, hP2⟩ F3 N3 R9 hR hQ
  dsimp only [kstB] at F3 hP1 hP2 N3
  clear F2 N2
  have hbl := bsum_lt hTB i k
  have hkk : (k + 1) * d.size = k * d.size + d.size := by rw [Nat.add_mul, Nat.one_mul]
  have hks9 : k * d.size ≤ 109 := by
    rcases hP2 with e | h1
    · subst e; omega
    · obtain ⟨j, rfl⟩ | e : (∃ j, k = j + 1) ∨ k = 0 := by cases k with | zero => exact .inr rfl | succ j => exact .inl ⟨j, rfl⟩
      · rw [Nat.add_sub_cancel] at h1
        rw [Nat.add_mul, Nat.one_mul]; omega
      · subst e; omega
  have hp1' : bsum told d.size i k < 2 ^ 200 := Nat.lt_of_lt_of_le hbl (Nat.pow_le_pow_right (by omega) (by omega))
  have htd := tb_getD hTB ((i + k) % told.length)
  have htd2 : told.getD ((i + k) % told.length) 0 < 2 ^ 200 := Nat.lt_of_lt_of_le htd (Nat.pow_le_pow_right (by omega) (by omega))
  have hstep : bsum told d.size i (k + 1) = bsum told d.size i k + told.getD ((i + k) % told.length) 0 * 2 ^ (k * d.size) := rfl
  have htd3 : k * d.size < n → told.getD ((i + k) % told.length) 0 * 2 ^ (k * d.size) < 2 ^ 200 := fun h1 => by
    have h2 : told.getD ((i + k) % told.length) 0 * 2 ^ (k * d.size) < 2 ^ d.size * 2 ^ (k * d.size) := Nat.mul_lt_mul_of_pos_right htd (Nat.two_pow_pos _)
    rw [← Nat.pow_add] at h2
    exact Nat.lt_of_lt_of_le h2 (Nat.pow_le_pow_right (by omega) (by omega))
  have htn : ¬ k * d.size < n → turns n d.size = k := fun h1 => turns_eq hs1 (by omega) hP2
  have hdr : ¬ k * d.size < n → drawn told d.size i n = bsum told d.size i k % 2 ^ n := fun h1 => by unfold drawn; rw [htn h1]
  generalize hks : k * d.size = ks at *
  have hm : (dx, d.obj (i + k) ta) ∈ [(lf, listOf vf.toArray nf), (x, instObj 112 dx), (dx, d.obj (i + k) ta)] := List.Mem.tail _ (List.Mem.tail _ (List.Mem.head _))
  k_steps
  · rename (ks : Int) < _ => hlt
    have htd3' := htd3 (by omega)
    refine take_ok (d := d) (i := i + k) F3 X' (by assumption) (by ((try dsimp only [Around.deeper, Around.in1, Around.depth, Around.units]); first | exact room (by assumption) rfl | exact room0 (by assumption) rfl | omega)) (by ((try dsimp only [Around.deeper, Around.in1, Around.depth, Around.units]); first | exact room (by assumption) rfl | exact room0 (by assumption) rfl | omega)) (kst_newsOf N3 (by kst_inAny)) (R'.keep fun l items hl => isl_keep hl F3.keep) ht ht2 ?_
    intro D r h4 tk4 t4 hk4 hd4 hD hDt hx
    have F4 := fr_set F3 N3 hm hk4
    have N4 := news_cons F3 (news_set N3 hm hk4 hd4 (l := [(lf, listOf vf.toArray nf), (x, instObj 112 dx), (dx, d.obj (i + k + 1) t4)]) (by simp)) hD hDt
    obtain ⟨r', vr, er, hr1, hr2⟩ := R'.rows _ _ hx
    cases er
    clear F3 N3 hm
    try dsimp only
    k_steps
    rename Fr _ _ _ _ => F5; rename News _ _ _ _ => N5; rename IntsAre _ (limbs _ (_ + _)) => hI
    rw [← hstep] at hI
    have e : (ks : Int) + (d.size : Int) = (((k + 1) * d.size : Nat) : Int) := by omega
    rw [e] at F5
    refine hR (k + 1, _, _, _, _, t4) _ _ _ _ F5 N5 (by kst_in) (by kst_all) ⟨⟨hI, .inr (by simp only [Nat.add_sub_cancel]; omega)⟩, by dsimp only; omega⟩
  · rename ¬ (ks : Int) < _ => hlt
    k_steps
    rename Fr _ _ _ _ => F5; rename News _ _ _ _ => N5; rename IntsAre _ (limbs _ (_ % _)) => hI
    rename_i ho
    rw [← hdr (by omega)] at hI
    refine ret _ _ _ _ _ ta ?_ ?_ ?_ (N5 _ (List.Mem.head _)).1 hI
    · intro b o hb e
      by_cases hbx : b = x
      · subst hbx
        exact (N5 _ (List.Mem.tail _ (List.Mem.tail _ (List.Mem.head _)))).1.trans (hxs.symm.trans e)
      · exact F5.keep b o (hst b o hbx hb e)
    · rw [htn (by omega)]
      exact (N5 _ (List.Mem.tail _ (List.Mem.tail _ (List.Mem.tail _ (List.Mem.head _))))).1
    · exact hgn _ (Ne.symm (ho _ (List.Mem.tail _ (List.Mem.head _)))) (Ne.symm (ho _ (List.Mem.tail _ (List.Mem.tail _ (List.Mem.head _))))) (N5 _ (List.Mem.head _)).2.2
end Mine
end

section
open PySem PySem.W PySem.Calls PyProof.Rows
namespace Mine
/-- after a call that has turned the source alone -/
theorem src_back {g h h' : Heap} {L x dx : Addr} {m : Str → Option Value} {news : List (Addr × Obj)} {d : SD} {i j : Nat} {t t' : Tok} (F : Fr g L h m) (N : News g L h news) (hx : (x, instObj 112 dx) ∈ news) (hm : (dx, d.obj i t) ∈ news)
    (hk : ∀ b o, b ≠ dx → h.get? b = some o → h'.get? b = some o) (hd : h'.get? dx = some (d.obj j t')) (l : List (Addr × Obj)) (hl : ∀ p ∈ l, p ∈ news ∧ (p.2.cls ≠ .type "dict" ∨ p.1 ≠ dx)) :
    Fr g L h' m ∧ News g L h' (l ++ [(x, instObj 112 dx), (dx, d.obj j t')]) := by
  refine ⟨fr_set F N hm hk, fun p hp => ?_⟩
  have hxd : x ≠ dx := fun e => by
    have e1 := (N _ hx).1
    have e3 : x = dx := e
    rw [e3, (N _ hm).1] at e1
    cases e1
  have keepOne : ∀ p, p ∈ news → p.1 ≠ dx → h'.get? p.1 = some p.2 ∧ p.1 ≠ L ∧ g.get? p.1 = none := fun p h1 h2 => ⟨hk _ _ h2 (N p h1).1, (N p h1).2⟩
  rcases List.mem_append.mp hp with h1 | h1
  · refine keepOne p (hl p h1).1 ?_
    rcases (hl p h1).2 with h2 | h2
    · intro e
      have e1 := (N p (hl p h1).1).1
      rw [e, (N _ hm).1] at e1
      exact h2 (congrArg Obj.cls (Option.some.inj e1)).symm
    · exact h2
  · rcases List.mem_cons.mp h1 with rfl | h1
    · exact keepOne _ hx hxd
    · rw [List.mem_singleton.mp h1]
      exact ⟨hd, (N _ hm).2⟩
theorem news_ne {g h : Heap} {L a b : Addr} {news : List (Addr × Obj)} {o o' : Obj} (N : News g L h news) (h1 : (a, o) ∈ news) (h2 : (b, o') ∈ news) (hc : o.cls ≠ o'.cls) : a ≠ b := fun e => by
  have e1 := (N _ h1).1
  have e2 := (N _ h2).1
  have e3 : a = b := e
  rw [e3] at e1
  exact hc (congrArg Obj.cls (Option.some.inj (e1.symm.trans e2)))
theorem fin_src {H g h : Heap} {L x dx r : Addr} {m : Str → Option Value} {news : List (Addr × Obj)} {d : SD} {j : Nat} {t : Tok} {its : Array Value} {n : Nat}
    (hst : ∀ b o, b ≠ x → b ≠ dx → H.get? b = some o → g.get? b = some o) (hgn : ∀ b, b ≠ x → b ≠ dx → g.get? b = none → H.get? b = none) (hxs : H.get? x = some (instObj 112 dx))
    (F : Fr g L h m) (N : News g L h news) (hr : (r, listOf its n) ∈ news) (hx : (x, instObj 112 dx) ∈ news) (hd : (dx, d.obj j t) ∈ news) :
    (∀ b o, b ≠ dx → H.get? b = some o → h.get? b = some o) ∧ h.get? dx = some (d.obj j t) ∧ H.get? r = none ∧ h.get? r = some (listOf its n) := by
  refine ⟨fun b o hb e => ?_, (N _ hd).1, hgn _ (news_ne N hr hx (by simp)) (news_ne N hr hd (by simp)) (N _ hr).2.2, (N _ hr).1⟩
  by_cases hbx : b = x
  · subst hbx
    exact (N _ hx).1.trans (hxs.symm.trans e)
  · exact F.keep b o (hst b o hbx hb e)
theorem fin_src0 {H g h : Heap} {L x dx : Addr} {m : Str → Option Value} {news : List (Addr × Obj)} {d : SD} {j : Nat} {t : Tok}
    (hst : ∀ b o, b ≠ x → b ≠ dx → H.get? b = some o → g.get? b = some o) (hxs : H.get? x = some (instObj 112 dx))
    (F : Fr g L h m) (N : News g L h news) (hx : (x, instObj 112 dx) ∈ news) (hd : (dx, d.obj j t) ∈ news) :
    (∀ b o, b ≠ dx → H.get? b = some o → h.get? b = some o) ∧ h.get? dx = some (d.obj j t) := by
  refine ⟨fun b o hb e => ?_, (N _ hd).1⟩
  by_cases hbx : b = x
  · subst hbx
    exact (N _ hx).1.trans (hxs.symm.trans e)
  · exact F.keep b o (hst b o hbx hb e)

def blw (told : List Nat) (size m bd : Nat) : Nat → Nat → Nat → Nat × Nat
  | 0, i, f => (if bd ≤ f then f - bd else f, i)
  | k + 1, i, f => if f < bd then (f, i) else blw told size m bd k (i + turns m size) (drawn told size i m)
def below (told : List Nat) (size i bd : Nat) : Nat × Nat :=
  blw told size (bl (bd - 1)) bd 80 (i + turns (bl (bd - 1)) size) (drawn told size i (bl (bd - 1)))
theorem blw_lt {told : List Nat} {size bd : Nat} (hb : 1 ≤ bd) : ∀ k i f, f < 2 ^ bl (bd - 1) → (blw told size (bl (bd - 1)) bd k i f).1 < bd := by
  have h2 : 2 ^ bl (bd - 1) ≤ 2 * bd := by
    by_cases h0 : bd - 1 = 0
    · rw [h0]; simp [bl]; omega
    · have h1 := bl_ge h0
      have h3 : bl (bd - 1) ≠ 0 := by unfold bl; rw [if_neg h0]; omega
      obtain ⟨j, hj⟩ := Nat.exists_eq_succ_of_ne_zero h3
      rw [hj, Nat.succ_eq_add_one, Nat.add_sub_cancel] at h1
      rw [hj, Nat.succ_eq_add_one, Nat.pow_succ]
      omega
  intro k
  induction k with
  | zero =>
    intro i f hf
    show (if bd ≤ f then f - bd else f) < bd
    split <;> omega
  | succ k ih =>
    intro i f hf
    show (if f < bd then (f, i) else blw told size (bl (bd - 1)) bd k (i + turns (bl (bd - 1)) size) (drawn told size i (bl (bd - 1)))).1 < bd
    split
    · assumption
    · exact ih _ _ (drawn_lt _ _ _ _)
theorem below_lt {told : List Nat} {size i bd : Nat} (hb : 1 ≤ bd) : (below told size i bd).1 < bd := blw_lt hb _ _ _ (drawn_lt _ _ _ _)
theorem cmpI_neg {A B : Nat} : cmpI A B < 0 ↔ A < B := by
  unfold cmpI
  split
  · simp; assumption
  · split <;> simp <;> omega
end Mine
end

section
open PySem PySem.W PySem.Calls PyProof.Rows
namespace Mine
set_option pp.deepTerms false
set_option pp.deepTerms.threshold 2
set_option pp.proofs false
theorem fillW1 : (PySem.Challenge.rw_rr0056_01.Holds ∧ Mine.hd.heap_39 = Mine.hd.heap_39) → True := by
  k_fill
  w_top off
  k_with_none
  (k_with "pyIter ref" => ((with_reducible show wpAny _ _ (pyIter (Value.ref _)) (fun it s₂ => LoopAtV _ _ _ _ _ _ _ _ _ it s₂) _ _); refine Mine.unhold ?_))
  (k_with "exec While Compare cons nil" => (refine Mine.unhold ?_))
  (k_with "exec While BoolOp cons nil" => (refine Mine.unhold ?_))
  (k_with "binaryOp LShift int int" => (k_here; refine lshift_int_small (by first | exact Int.natCast_nonneg _ | decide | omega) (by first | exact mill9 (by assumption) | decide | omega) (by first | decide | omega) ?_))
  (k_with "call ref" => (k_here; (with_reducible show wpAny _ _ (call (Value.ref 67) [Value.ref _, Value.ref _, Value.int _ _]) _ _ _); (rename Fr _ _ _ _ => cF); (rename News _ _ _ _ => cN); (rename Top _ _ _ _ _ _ => cT); k_dflt (refine' sub_ok cF ?cX cT ?cd ?cu ?cw1 ?cw2 ?cA ?cB ?cAB ?c1 ?c2 ?c3 ?c4 ?_; (case c1 => is_list); (case c2 => first | assumption | exact IntsAre.nil | ((rename (∀ t, IntsAre [Value.int 1 t] _) => hone); exact hone _)); (case c3 => is_list); (case c4 => first | assumption | exact IntsAre.nil | ((rename (∀ t, IntsAre [Value.int 1 t] _) => hone); exact hone _)); (case cw1 => assumption); (case cw2 => assumption); (case cA => first | assumption | omega | decide); (case cB => first | assumption | omega | decide); (case cAB => first | assumption | omega | decide); (case cX => assumption); (case cd => ((try dsimp only [Around.deeper, Around.in1, Around.depth, Around.units]); first | exact room (by assumption) rfl | exact room0 (by assumption) rfl | omega)); (case cu => ((try dsimp only [Around.deeper, Around.in1, Around.depth, Around.units]); first | exact room (by assumption) rfl | exact room0 (by assumption) rfl | omega)); k_whole); intro r' vs' n' h' tk' k' f' g' i'; (have F' := fr_up cF k'); (have N' := news_add cF cN k' f' g'); (have o' := news_off cN f'); clear cF cN; (try dsimp only); (revert r' vs' n' h' tk' k' f' g' i' F' N' o'; intros)))
  (k_with "call ref" => (k_here; (with_reducible show wpAny _ _ (call (Value.ref 81) [Value.ref _, Value.int _ _]) _ _ _); (rename Fr _ _ _ _ => cF); (rename News _ _ _ _ => cN); (rename Top _ _ _ _ _ _ => cT); k_dflt (refine' bits_ok cF ?cX cT ?cd ?cu ?cw1 ?cw2 ?cA ?c1 ?c2 ?_; (case c1 => is_list); (case c2 => first | assumption | exact IntsAre.nil | ((rename (∀ t, IntsAre [Value.int 1 t] _) => hone); exact hone _)); (case cw1 => assumption); (case cw2 => assumption); (case cA => first | assumption | omega | decide); (case cX => assumption); (case cd => ((try dsimp only [Around.deeper, Around.in1, Around.depth, Around.units]); first | exact room (by assumption) rfl | exact room0 (by assumption) rfl | omega)); (case cu => ((try dsimp only [Around.deeper, Around.in1, Around.depth, Around.units]); first | exact room (by assumption) rfl | exact room0 (by assumption) rfl | omega)); k_whole); intro t' h' tk' k'; (have F' := fr_up cF k'); (have N' := news_up cN k'); clear cF cN; (try dsimp only); (revert t' h' tk' k' F' N'; intros)))
  (k_with "call ref" => (k_here; (with_reducible show wpAny _ _ (call (Value.ref 53) [Value.ref _, Value.ref _]) _ _ _); (rename Fr _ _ _ _ => cF); (rename News _ _ _ _ => cN); (rename Top _ _ _ _ _ _ => cT); k_dflt (refine' compare_ok cF ?cX cT ?cd ?cu ?cw ?cA ?cB ?c1 ?c2 ?c3 ?c4 ?_; (case c1 => is_list); (case c2 => assumption); (case c3 => is_list); (case c4 => assumption); (case cw => assumption); (case cA => omega); (case cB => omega); (case cX => assumption); (case cd => ((try dsimp only [Around.deeper, Around.in1, Around.depth, Around.units]); first | exact room (by assumption) rfl | exact room0 (by assumption) rfl | omega)); (case cu => ((try dsimp only [Around.deeper, Around.in1, Around.depth, Around.units]); first | exact room (by assumption) rfl | exact room0 (by assumption) rfl | omega)); k_whole); intro t' h' tk' k'; (have F' := fr_up cF k'); (have N' := news_up cN k'); clear cF cN; (try dsimp only); (revert t' h' tk' k' F' N'; intros)))
  exact fun _ => trivial
set_option maxRecDepth 100000 in
set_option maxHeartbeats 8000000 in
theorem rbelow_ok {w : World} {p : Program} {loose : List Str} {mean : ExcName → Option Value} {mg mb : Str → Option Value} {dp un : Nat} {gd : Option (List Code)} {fr : Option (List Env)} {h₀ : Heap} {L : Addr} {m : Str → Option Value} {s : Shared} {Q E : Value → Shared → Prop}
   {x dx lb : Addr} {d : SD} {i : Nat} {t : Tok} {bd wn : Nat} {tw : Tok} {told : List Nat} {rvs vb : List Value}
   (F : Fr h₀ L s.heap m) (X : (hd.heap_39 w.params).In h₀) (T : Top p loose mean mg mb h₀)
   (hd : dp + 60 < recursionLimit) (hu : un + 600 < cLine)
   (N : News h₀ L s.heap [(x, instObj 112 dx), (dx, d.obj i t)]) (R : TR s.heap d.ra wn told rvs) (ht : told ≠ []) (ht2 : told.length ≤ 1000) (hw1 : 1 ≤ wn) (hw2 : wn ≤ 9) (hb1 : 1 ≤ bd) (hb2 : bd ≤ 1000) (hs1 : 1 ≤ d.size) (hs2 : d.size ≤ 9) (hTB : TB told d.size) (hlb : s.heap.IsList lb vb.toArray) (hib : IntsAre vb (limbs wn bd))
   (ret : ∀ r vs n' h' tk' t', (∀ b o, b ≠ dx → s.heap.get? b = some o → h'.get? b = some o) → h'.get? dx = some (d.obj (below told d.size i bd).2 t') → s.heap.get? r = none → h'.get? r = some (listOf vs.toArray n') → IntsAre vs (limbs wn (below told d.size i bd).1) → Q (.ref r) {s with heap := h', toks := tk'}) :
   wpAny (model PG w) (AA dp un fr gd) (call (.ref 137) [.ref x, .ref lb, .int (wn : Int) tw]) Q E s := by
  have hne : @Ne Nat x dx := fun e => by
    have h1 := (N _ (List.Mem.head _)).1
    have h2 := (N _ (List.Mem.tail _ (List.Mem.head _))).1
    rw [e, h2] at h1
    cases h1
  have hlist := fun {l items} => isl_hide (l := l) (items := items) (h := s.heap) (news := [(x, instObj 112 dx), (dx, d.obj i t)]) (fun p hp => (N p hp).1) (by simp)
  have hst : ∀ b o, b ≠ x → b ≠ dx → s.heap.get? b = some o → (hideAll s.heap ([(x, instObj 112 dx), (dx, d.obj i t)].map (·.1))).get? b = some o := fun b o h1 h2 e => hideAll_get _ e (by simp; exact ⟨h1, h2⟩)
  k_dflt (refine' enter [(x, instObj 112 dx), (dx, d.obj i t)] [(Str.ofString "source", .ref x), (Str.ofString "bound", .ref lb), (Str.ofString "w", .int (wn : Int) tw)] [(Str.ofString "w", .int (wn : Int) tw), (Str.ofString "bound", .ref lb), (Str.ofString "source", .ref x)] rfl F X T N ?k6 ?k7 ?k8 ?k9 ?kB ?c5 ?c2 ?c3 ?c4 ?_; (case k6 => k_is); (case k7 => k_is); (case k8 => (show dp < _; exact room00 hd)); (case k9 => exact rfl); (case c5 => decide); (case kB => exact locs rfl); (case c2 => exact rfl); (case c3 => exact rfl); (case c4 => exact rfl); k_whole; intro g' L' h' tk' eg' eL' F' N' X' T'; (try dsimp only [kstB] at F'))
  rw [← eg'] at hlist hst
  have hg0 : ∀ b o, g'.get? b = some o → s.heap.get? b = some o := fun b o e => of_hideAll _ (eg' ▸ e)
  have hgn : ∀ b, b ≠ x → b ≠ dx → g'.get? b = none → s.heap.get? b = none := fun b h1 h2 e => by
    cases q : s.heap.get? b with
    | none => rfl
    | some o => rw [hst _ _ h1 h2 q] at e; cases e
  have hlb' := hlist hlb
  have R' := R.keep (fun l items => hlist)
  have hxs := (N _ (List.Mem.head _)).1
  clear eg' hlist
  have hone := ints_one hw1
  have hA : bd < 2 ^ 200 := by have : (1000 : Nat) < 2 ^ 200 := by decide
                               omega
  have hA1 : bd - 1 < 2 ^ 200 := by omega
  have h12 : 1 < 2 ^ 200 := by decide
  have hm10 : bl (bd - 1) ≤ 10 := bl_le (show bd - 1 < 2 ^ 10 by omega)
  have hne0 : (limbs wn bd).length ≠ 0 := limbs_ne hw1 (by omega)
  have hlbl := limbs_len hw1 hA
  k_steps
  rename Fr _ _ _ _ => F2; rename News _ _ _ _ => N2
  refine rbits_ok (d := d) (i := i) F2 X' (by assumption) (by ((try dsimp only [Around.deeper, Around.in1, Around.depth, Around.units]); first | exact room (by assumption) rfl | exact room0 (by assumption) rfl | omega)) (by ((try dsimp only [Around.deeper, Around.in1, Around.depth, Around.units]); first | exact room (by assumption) rfl | exact room0 (by assumption) rfl | omega)) (kst_newsOf N2 (by kst_inAny)) (R'.keep fun l items hl => isl_keep hl F2.keep) ht ht2 hw1 hw2 (by omega) hs1 hs2 hTB ?_
  intro q vs n1 h1 tk1 t1 hkq hdq hnq hgq hiq
  obtain ⟨Fq, N0q⟩ := src_back F2 N2 (by k_memK) (by k_memK) hkq hdq [] (by simp)
  have Nq := news_cons F2 N0q hnq hgq
  dsimp only [List.nil_append, List.cons_append] at Nq
  clear N0q F2 N2
  try dsimp only

  k_steps
  apply Hold.mk
  rename IsRange _ _ _ _ _ _ _ _ => rg; rename Fr _ _ _ _ => F3; rename News _ _ _ _ => N3
  rename_i tmany _ _ _ _ _ _ _ _ _
  clear hkq hdq hnq hgq
  have hdl := drawn_lt told d.size i (bl (bd - 1))
  have hbe : below told d.size i bd = blw told d.size (bl (bd - 1)) bd 80 (i + turns (bl (bd - 1)) d.size) (drawn told d.size i (bl (bd - 1))) := rfl
  generalize hm : bl (bd - 1) = mb' at *
  have h2m : ∀ f, f < 2 ^ mb' → f < 2 ^ 200 := fun f hf => Nat.lt_of_lt_of_le hf (Nat.pow_le_pow_right (by omega) (by omega))
  refine my_range (σ := Nat × Nat × Addr × List Value × Nat × Tok) (n := 80) (fun c => [(c.2.2.1, listOf c.2.2.2.1.toArray c.2.2.2.2.1), (x, instObj 112 dx), (dx, d.obj c.1 c.2.2.2.2.2)]) (fun c => [(Str.ofString "found", .ref c.2.2.1), (Str.ofString "many", .int (mb' : Int) _), (Str.ofString "source", .ref x), (Str.ofString "bound", .ref lb), (Str.ofString "w", .int wn tw)]) (fun idx c => IntsAre c.2.2.2.1 (limbs wn c.2.1) ∧ c.2.1 < 2 ^ mb' ∧ below told d.size i bd = blw told d.size mb' bd (80 - idx) c.1 c.2.1) (i + turns mb' d.size, drawn told d.size i mb', q, vs, n1, t1) rfl rg (by decide) (rs0 80) (by simp) F3 (kst_newsOf N3 (by kst_inAny)) (by kst_all) ⟨hiq, hdl, hbe⟩ ?_ ?_
  · intro idx; refine prod6 ?_; rintro j f lf vf nf ta tt u h tk I oI hidx ⟨hP1, hP2, hP3⟩ hneI F4 N4 R9 hR hQ; dsimp only [kstB] at F4 hP1 hP2 hP3 hidx hneI; dsimp only [List.nil_append, List.cons_append] at N4; try k_fold
    clear F3 N3 rg
    have hf2 := h2m f hP2
    have hdI : ¬ I = dx := fun e => hneI _ (List.Mem.tail _ (List.Mem.tail _ (List.Mem.head _))) e.symm
    k_steps
    · rename cmpI f bd < 0 => hc
      rw [cmpI_neg] at hc
      have hbb : below told d.size i bd = (f, j) := by
        rw [hP3]
        obtain ⟨q, hq, _⟩ := step80 hidx
        rw [hq]
        show (if f < bd then (f, j) else _) = (f, j)
        rw [if_pos hc]
      rename Fr _ _ _ _ => F5; rename News _ _ _ _ => N5
      obtain ⟨q1, q2, q3, q4⟩ := fin_src hst hgn hxs F5 N5 (List.Mem.head _) (List.Mem.tail _ (List.Mem.head _)) (List.Mem.tail _ (List.Mem.tail _ (List.Mem.head _)))
      rw [hbb] at ret
      exact hQ _ _ (ret _ _ _ _ _ _ q1 q2 q3 q4 hP1)
    · rename ¬ cmpI f bd < 0 => hc
      rw [cmpI_neg] at hc
      rename Fr _ _ _ _ => F5; rename News _ _ _ _ => N5
      refine rbits_ok (d := d) (i := j) F5 X' (by assumption) (by ((try dsimp only [Around.deeper, Around.in1, Around.depth, Around.units]); first | exact room (by assumption) rfl | exact room0 (by assumption) rfl | omega)) (by ((try dsimp only [Around.deeper, Around.in1, Around.depth, Around.units]); first | exact room (by assumption) rfl | exact room0 (by assumption) rfl | omega)) (kst_newsOf N5 (by kst_inAny)) (R'.keep fun l items hl => isl_keep hl F5.keep) ht ht2 hw1 hw2 (by omega) hs1 hs2 hTB ?_
      intro r2 vs2 n2 h2 tk2 t2 hkr2 hdr2 hnr2 hgr2 hir2
      obtain ⟨Fr2, N0r2⟩ := src_back F5 N5 (by k_memK) (by k_memK) hkr2 hdr2 [(I, oI)] (by simp [hdI])
      have Nr2 := news_cons F5 N0r2 hnr2 hgr2
      dsimp only [List.nil_append, List.cons_append] at Nr2
      clear N0r2 F5 N5
      try dsimp only

      k_steps
      rename Fr _ _ _ _ => F6; rename News _ _ _ _ => N6
      refine hR (j + turns mb' d.size, drawn told d.size j mb', r2, vs2, n2, t2) _ _ _ _ F6 N6 (by kst_in) (by k_memK) (by kst_all) ⟨hir2, drawn_lt _ _ _ _, ?_⟩
      rw [hP3]
      obtain ⟨q, hq, hq2⟩ := step80 hidx
      rw [hq, hq2]
      show (if f < bd then (f, j) else _) = _
      rw [if_neg hc]
  · refine prod6 ?_; rintro j f lf vf nf ta u h tk ⟨hP1, hP2, hP3⟩ F4 N4; dsimp only [kstB] at F4 hP1 hP2 hP3; dsimp only [List.nil_append, List.cons_append] at N4; try k_fold
    clear F3 N3 rg
    have hf2 := h2m f hP2
    k_steps
    · have hcb : ¬ cmpI f bd < 0 := by omega
      rw [cmpI_neg] at hcb
      have hcb2 : bd ≤ f := by omega
      k_steps
      have hbb : below told d.size i bd = (f - bd, j) := by
        rw [hP3]
        show (if bd ≤ f then f - bd else f, j) = _
        rw [if_pos hcb2]
      rename Fr _ _ _ _ => F5; rename News _ _ _ _ => N5; rename IntsAre _ (limbs _ (f - bd)) => hI
      obtain ⟨q1, q2, q3, q4⟩ := fin_src hst hgn hxs F5 N5 (List.Mem.head _) (by k_memK) (by k_memK)
      rw [hbb] at ret
      exact ret _ _ _ _ _ _ q1 q2 q3 q4 hI
    · have hcb : cmpI f bd < 0 := by omega
      rw [cmpI_neg] at hcb
      have hbb : below told d.size i bd = (f, j) := by
        rw [hP3]
        show (if bd ≤ f then f - bd else f, j) = _
        rw [if_neg (by omega)]
      rename Fr _ _ _ _ => F5; rename News _ _ _ _ => N5
      obtain ⟨q1, q2, q3, q4⟩ := fin_src hst hgn hxs F5 N5 (List.Mem.head _) (by k_memK) (by k_memK)
      rw [hbb] at ret
      exact ret _ _ _ _ _ _ q1 q2 q3 q4 hP1
end Mine
end

section
open PySem PySem.W PySem.Calls PyProof.Rows
namespace Mine
section
variable {prog : Program} {w : World} {A : Around} {E : Value → Shared → Prop} {s : Shared} {env : Env} {h₀ : Heap} {x : Str} {body : List Stmt} {Q : Flow → Shared → Prop}
theorem my_rev {σ : Type} {I l : Addr} {vs : List Value} {m₀ : Str → Option Value} (Led : σ → List (Addr × Obj)) (ps : σ → List (Str × Value)) (P : Nat → σ → Prop) (c : σ)
    (hh : A.handled = none) (hit : s.heap.IsRevIter I l ((vs.length : Int) - 1)) (hI0 : h₀.get? I = none) (hIL : I ≠ env.locals) (hls : s.heap.IsList l vs.toArray) (hl : (∃ o, h₀.get? l = some o) ∨ ∃ o, ∀ c, (l, o) ∈ Led c) (hlL : l ≠ env.locals) (hlI : l ≠ I)
    (hplain : ∀ c, ∀ p ∈ Led c, p.2.cls ≠ .type "list_reverseiterator")
    (F : Fr h₀ env.locals s.heap m₀) (N : News h₀ env.locals s.heap (Led c)) (hk : ∀ p ∈ ps c, m₀ p.1 = some p.2) (hp : P 0 c)
    (turn : ∀ (i : Nat) (c : σ) v (u : Str → Option Value) h tk oI, i < vs.length → vs[vs.length - 1 - i]? = some v → P i c → (∀ p ∈ Led c, p.1 ≠ I) →
      Fr h₀ env.locals h (fun y => if y = x then some v else kstB u (ps c) y) → News h₀ env.locals h (Led c ++ [(I, oI)]) →
      ∀ R : Flow → Shared → Prop, (∀ c' h' tk' m' news', Fr h₀ env.locals h' m' → News h₀ env.locals h' news' → (∀ p ∈ Led c', p ∈ news') → (I, oI) ∈ news' → (∀ p ∈ ps c', m' p.1 = some p.2) → P (i + 1) c' → R .next { s with heap := h', toks := tk' }) →
        (∀ v s', Q (.ret v) s' → R (.ret v) s') → wpAny (model prog w) A (execs body env) R E { s with heap := h, toks := tk })
    (done : ∀ (c : σ) (u : Str → Option Value) h tk, P vs.length c → Fr h₀ env.locals h (kstB u (ps c)) → News h₀ env.locals h (Led c) → Q .next { s with heap := h, toks := tk }) :
    wpAny (model prog w) A (pyIter (.ref I)) (fun it s₂ => LoopAtV prog w A h₀ env x body Q E it s₂) E s := by
  refine wpAny_pyIter_revIter hit ?_
  have W := Walks.listRev (prog := prog) (w := w) hh I l hlI vs.toArray
  have hlen : vs.toArray.size = vs.length := by simp
  rw [hlen] at W
  refine loop_gen "list_reverseiterator" Led ps P c W (fun i h st => by obtain ⟨_, ⟨o, ho, hc, _⟩, _⟩ := st; exact ⟨o, ho, hc⟩) ?_ hI0 (by simp) (fun b hb => ?_) hplain ⟨Nat.zero_le _, by simpa using hit, hls⟩ F N hk hp ?_ done
  · intro hm
    rcases List.mem_cons.mp hm with e | hm
    · exact hIL e.symm
    · exact hlL (List.mem_singleton.mp hm).symm
  · rcases List.mem_cons.mp hb with e | hb
    · exact .inl e
    · rw [List.mem_singleton.mp hb]
      exact .inr hl
  · rintro i c v u h tk oI hi hv hPc hoff F' N'
    exact turn i c v u h tk oI hi (by simpa using hv) hPc hoff F' N' _ (fun c' h' tk' m' news' F1 N1 a b d e => TP.nxt (TE.intro c' F1 N1 a (fun p hp => by rw [List.mem_singleton.mp hp]; exact b) d e)) (fun v s' q => q)
end
theorem val_drop (B : Int) (a : List Int) (k : Nat) (h : k < a.length) : val B (a.drop k) = a.getD k 0 + B * val B (a.drop (k + 1)) := by
  rw [List.drop_eq_getElem_cons h, List.getD_eq_getElem?_getD, List.getElem?_eq_getElem h]; rfl
theorem val_drop_le {B : Int} (hB : 2 ≤ B) {a : List Int} (ha : Dig B a) (k : Nat) : val B (a.drop k) ≤ val B a := by
  have h := val_append B (a.take k) (a.drop k)
  rw [List.take_append_drop] at h
  have h1 := val_nonneg hB (dig_take ha k)
  have h2 := val_nonneg hB (a := a.drop k) (fun x hx => ha x (List.mem_of_mem_drop hx))
  have h3 : (1 : Int) ≤ B ^ (a.take k).length := pow_pos' hB _
  have h4 : 1 * val B (a.drop k) ≤ B ^ (a.take k).length * val B (a.drop k) := Int.mul_le_mul_of_nonneg_right h3 h2
  omega
end Mine
end

section
open PySem PySem.W PySem.Calls PyProof.Rows
namespace Mine
set_option pp.deepTerms false
set_option pp.deepTerms.threshold 2
set_option pp.proofs false
theorem fillV1 : (PySem.Challenge.rw_rr0056_01.Holds ∧ Mine.hd.heap_39 = Mine.hd.heap_39) → True := by
  k_fill
  w_top off
  k_with_none
  (k_with "pyIter ref" => ((with_reducible show wpAny _ _ (pyIter (Value.ref _)) (fun it s₂ => LoopAtV _ _ _ _ _ _ _ _ _ it s₂) _ _); refine Mine.unhold ?_))
  (k_with "exec While Compare cons nil" => (refine Mine.unhold ?_))
  (k_with "exec While BoolOp cons nil" => (refine Mine.unhold ?_))
  (k_with "binaryOp LShift int int" => (k_here; refine lshift_int_small (by first | exact Int.natCast_nonneg _ | decide | omega) (by first | exact mill9 (by assumption) | decide | omega) (by first | decide | omega) ?_))
  exact fun _ => trivial
set_option maxRecDepth 100000 in
set_option maxHeartbeats 8000000 in
theorem snum_ok {w : World} {p : Program} {loose : List Str} {mean : ExcName → Option Value} {mg mb : Str → Option Value} {dp un : Nat} {gd : Option (List Code)} {fr : Option (List Env)} {h₀ : Heap} {L : Addr} {m : Str → Option Value} {s : Shared} {Q E : Value → Shared → Prop}
   {n : Nat} {wn : Nat} {tn tw : Tok}
   (F : Fr h₀ L s.heap m) (X : (hd.heap_39 w.params).In h₀) (T : Top p loose mean mg mb h₀)
   (hd : dp + 10 < recursionLimit) (hu : un + 100 < cLine)
   (hw1 : 1 ≤ wn) (hw2 : wn ≤ 9) (hn : n ≤ 1000)
   (ret : ∀ r vs' n' h' tk', s.heap.StaysIn h' → s.heap.get? r = none → h'.get? r = some (listOf vs'.toArray n') → IntsAre vs' (limbs wn n) → Q (.ref r) {s with heap := h', toks := tk'}) :
   wpAny (model PG w) (AA dp un fr gd) (call (.ref 151) [.int (n : Int) tn, .int (wn : Int) tw]) Q E s := by
  k_dflt (refine' enterP [(Str.ofString "n", .int (n : Int) tn), (Str.ofString "w", .int (wn : Int) tw)] [(Str.ofString "w", .int (wn : Int) tw), (Str.ofString "n", .int (n : Int) tn)] rfl F X T ?k6 ?k7 ?k8 ?k9 ?kB ?c5 ?c2 ?c3 ?c4 ?_; (case k6 => k_is); (case k7 => k_is); (case k8 => (show dp < _; exact room00 hd)); (case k9 => exact rfl); (case c5 => decide); (case kB => exact locs rfl); (case c2 => exact rfl); (case c3 => exact rfl); (case c4 => exact rfl); k_whole; intro L' h' tk' F' N' X' T'; (try dsimp only [kstB] at F'))
  have hBB := base_ge hw1
  have hB9 := pow_le_512 hw2
  have e2 : ((wn : Int)).toNat = wn := Int.toNat_natCast _
  k_steps
  apply Hold.mk
  rename_i lf _ _ _ F2 N2
  refine my_while (σ := Nat × List Value × List Int × Nat × Tok) (fun c => [(lf, listOf c.2.1.toArray c.2.2.2.1)]) (fun c => [(Str.ofString "found", .ref lf), (Str.ofString "n", .int (c.1 : Int) c.2.2.2.2), (Str.ofString "w", .int wn tw)]) (fun c => IntsAre c.2.1 c.2.2.1 ∧ c.1 ≤ n ∧ c.2.2.1.length + c.1 ≤ n ∧ limbs wn n = c.2.2.1 ++ limbs wn c.1) (fun c => c.1) (n, [], [], 0, tn) F2 (kst_newsOf N2 (by kst_inAny)) (by kst_all) ⟨IntsAre.nil, Nat.le_refl _, by simp, by simp⟩ ?_ PassesOwn.never
  refine prod5 ?_; rintro k vf fs nf tk0 u h tk ⟨hP1, hP2, hP3, hP4⟩ F3 N3 R9 hR hQ
  dsimp only [kstB] at F3 hP1 hP2 hP3 hP4 N3
  clear F2 N2
  k_steps
  · rename Fr _ _ _ _ => F5; rename News _ _ _ _ => N5; rename (0 : Int) < _ => hc
    rw [toArr_push] at N5
    have hk : k ≠ 0 := by omega
    have hL := limbs_pos hw1 hk
    have h2w : 2 ≤ 2 ^ wn := by have : 2 ^ 1 ≤ 2 ^ wn := Nat.pow_le_pow_right (by omega) hw1
                                omega
    have hdl : k / 2 ^ wn < k := Nat.div_lt_self (by omega) h2w
    have eB : (2 : Int) ^ wn = ((2 ^ wn : Nat) : Int) := by push_cast; rfl
    have e3 : ((k : Int)).fdiv (2 ^ (wn : Int).toNat) = ((k / 2 ^ wn : Nat) : Int) := by rw [e2, eB, fdiv_nat]
    have e4 : ((k : Int)).fmod (1 * 2 ^ (wn : Int).toNat) = ((k % 2 ^ wn : Nat) : Int) := by rw [e2, Int.one_mul, eB, fmod_nat]
    rw [e3] at F5
    rw [e4] at N5
    refine hR (k / 2 ^ wn, _, _, _, _) _ _ _ _ F5 N5 (by kst_in) (by kst_all) ⟨⟨IntsAre.append hP1 (.cons _ _ .nil), by dsimp only; omega, ?_, ?_⟩, hdl⟩
    · simp only [List.length_append, List.length_cons, List.length_nil]
      omega
    · rw [hP4, hL, List.append_assoc]; rfl
  · rename ¬ (0 : Int) < _ => hc
    have hk : k = 0 := by omega
    subst hk
    rw [limbs_zero, List.append_nil] at hP4
    rw [hP4] at ret
    exact ret _ _ _ _ _ (fun b o e => F3.keep b o e) (N3 _ (List.Mem.head _)).2.2 (N3 _ (List.Mem.head _)).1 hP1
end Mine
end

section
open PySem PySem.W PySem.Calls PyProof.Rows
namespace Mine
set_option pp.deepTerms false
set_option pp.deepTerms.threshold 2
set_option pp.proofs false
theorem fillV2 : (PySem.Challenge.rw_rr0056_01.Holds ∧ Mine.hd.heap_39 = Mine.hd.heap_39) → True := by
  k_fill
  w_top off
  k_with_none
  (k_with "pyIter ref" => ((with_reducible show wpAny _ _ (pyIter (Value.ref _)) (fun it s₂ => LoopAtV _ _ _ _ _ _ _ _ _ it s₂) _ _); refine Mine.unhold ?_))
  (k_with "exec While Compare cons nil" => (refine Mine.unhold ?_))
  (k_with "exec While BoolOp cons nil" => (refine Mine.unhold ?_))
  (k_with "binaryOp LShift int int" => (k_here; refine lshift_int_small (by first | exact Int.natCast_nonneg _ | decide | omega) (by first | exact mill9 (by assumption) | decide | omega) (by first | decide | omega) ?_))
  (k_with "call ref" => (k_here; (with_reducible show wpAny _ _ (call (Value.ref 151) [Value.int _ _, Value.int _ _]) _ _ _); (rename Fr _ _ _ _ => cF); (rename News _ _ _ _ => cN); (rename Top _ _ _ _ _ _ => cT); k_dflt (refine' snum_ok cF ?cX cT ?cd ?cu ?cw1 ?cw2 ?cn ?_; (case cw1 => assumption); (case cw2 => assumption); (case cn => omega); (case cX => assumption); (case cd => ((try dsimp only [Around.deeper, Around.in1, Around.depth, Around.units]); first | exact room (by assumption) rfl | exact room0 (by assumption) rfl | omega)); (case cu => ((try dsimp only [Around.deeper, Around.in1, Around.depth, Around.units]); first | exact room (by assumption) rfl | exact room0 (by assumption) rfl | omega)); k_whole); intro r' vs' n' h' tk' k' f' g' i'; (have F' := fr_up cF k'); (have N' := news_add cF cN k' f' g'); (have o' := news_off cN f'); clear cF cN; (try dsimp only); (revert r' vs' n' h' tk' k' f' g' i' F' N' o'; intros)))
  exact fun _ => trivial
set_option maxRecDepth 100000 in
set_option maxHeartbeats 8000000 in
theorem sbelow_ok {w : World} {p : Program} {loose : List Str} {mean : ExcName → Option Value} {mg mb : Str → Option Value} {dp un : Nat} {gd : Option (List Code)} {fr : Option (List Env)} {h₀ : Heap} {L : Addr} {m : Str → Option Value} {s : Shared} {Q E : Value → Shared → Prop}
   {x dx : Addr} {d : SD} {i : Nat} {t : Tok} {bd wn : Nat} {tn tw : Tok} {told : List Nat} {rvs : List Value}
   (F : Fr h₀ L s.heap m) (X : (hd.heap_39 w.params).In h₀) (T : Top p loose mean mg mb h₀)
   (hd : dp + 80 < recursionLimit) (hu : un + 800 < cLine)
   (N : News h₀ L s.heap [(x, instObj 112 dx), (dx, d.obj i t)]) (R : TR s.heap d.ra wn told rvs) (ht : told ≠ []) (ht2 : told.length ≤ 1000) (hw1 : 1 ≤ wn) (hw2 : wn ≤ 9) (hb1 : 1 ≤ bd) (hb2 : bd ≤ 1000) (hs1 : 1 ≤ d.size) (hs2 : d.size ≤ 9) (hTB : TB told d.size)
   (ret : ∀ t0 h' tk' t', (∀ b o, b ≠ dx → s.heap.get? b = some o → h'.get? b = some o) → h'.get? dx = some (d.obj (below told d.size i bd).2 t') → Q (.int ((below told d.size i bd).1 : Nat) t0) {s with heap := h', toks := tk'}) :
   wpAny (model PG w) (AA dp un fr gd) (call (.ref 144) [.ref x, .int (bd : Int) tn, .int (wn : Int) tw]) Q E s := by
  have hne : @Ne Nat x dx := fun e => by
    have h1 := (N _ (List.Mem.head _)).1
    have h2 := (N _ (List.Mem.tail _ (List.Mem.head _))).1
    rw [e, h2] at h1
    cases h1
  have hlist := fun {l items} => isl_hide (l := l) (items := items) (h := s.heap) (news := [(x, instObj 112 dx), (dx, d.obj i t)]) (fun p hp => (N p hp).1) (by simp)
  have hst : ∀ b o, b ≠ x → b ≠ dx → s.heap.get? b = some o → (hideAll s.heap ([(x, instObj 112 dx), (dx, d.obj i t)].map (·.1))).get? b = some o := fun b o h1 h2 e => hideAll_get _ e (by simp; exact ⟨h1, h2⟩)
  k_dflt (refine' enter [(x, instObj 112 dx), (dx, d.obj i t)] [(Str.ofString "source", .ref x), (Str.ofString "n", .int (bd : Int) tn), (Str.ofString "w", .int (wn : Int) tw)] [(Str.ofString "w", .int (wn : Int) tw), (Str.ofString "n", .int (bd : Int) tn), (Str.ofString "source", .ref x)] rfl F X T N ?k6 ?k7 ?k8 ?k9 ?kB ?c5 ?c2 ?c3 ?c4 ?_; (case k6 => k_is); (case k7 => k_is); (case k8 => (show dp < _; exact room00 hd)); (case k9 => exact rfl); (case c5 => decide); (case kB => exact locs rfl); (case c2 => exact rfl); (case c3 => exact rfl); (case c4 => exact rfl); k_whole; intro g' L' h' tk' eg' eL' F' N' X' T'; (try dsimp only [kstB] at F'))
  rw [← eg'] at hlist hst
  have hg0 : ∀ b o, g'.get? b = some o → s.heap.get? b = some o := fun b o e => of_hideAll _ (eg' ▸ e)
  have hgn : ∀ b, b ≠ x → b ≠ dx → g'.get? b = none → s.heap.get? b = none := fun b h1 h2 e => by
    cases q : s.heap.get? b with
    | none => rfl
    | some o => rw [hst _ _ h1 h2 q] at e; cases e
  have R' := R.keep (fun l items => hlist)
  have hxs := (N _ (List.Mem.head _)).1
  clear eg' hlist
  k_steps
  rename Fr _ _ _ _ => F2; rename News _ _ _ _ => N2
  refine rbelow_ok (d := d) (i := i) F2 X' (by assumption) (by ((try dsimp only [Around.deeper, Around.in1, Around.depth, Around.units]); first | exact room (by assumption) rfl | exact room0 (by assumption) rfl | omega)) (by ((try dsimp only [Around.deeper, Around.in1, Around.depth, Around.units]); first | exact room (by assumption) rfl | exact room0 (by assumption) rfl | omega)) (kst_newsOf N2 (by kst_inAny)) (R'.keep fun l items hl => isl_keep hl F2.keep) ht ht2 hw1 hw2 hb1 hb2 hs1 hs2 hTB (by is_list) (by assumption) ?_
  intro q vs n1 h1 tk1 t1 hkq hdq hnq hgq hiq
  obtain ⟨Fq, N0q⟩ := src_back F2 N2 (by k_memK) (by k_memK) hkq hdq [] (by simp)
  have Nq := news_cons F2 N0q hnq hgq
  dsimp only [List.nil_append, List.cons_append] at Nq
  clear N0q F2 N2
  try dsimp only
  have hbl := below_lt (told := told) (size := d.size) (i := i) hb1
  generalize hbe : below told d.size i bd = be at *
  obtain ⟨v, j⟩ := be
  dsimp only at hiq hdq hbl ret
  k_steps
  apply Hold.mk
  rename_i D2 _ F3 N3 hlt
  have hBB := base_ge hw1
  have hB9 := pow_le_512 hw2
  have e2 : ((wn : Int)).toNat = wn := Int.toNat_natCast _
  have hda := limbs_dig hw1 v
  have hva := limbs_val hw1 v
  clear hkq hdq hnq hgq
  generalize ea : limbs wn v = na at *
  have hlen := IntsAre.length hiq
  obtain ⟨gI1, gI2, gI3⟩ := N3 _ (List.Mem.head _)
  obtain ⟨gq1, gq2, gq3⟩ := N3 _ (List.Mem.tail _ (List.Mem.head _))
  refine my_rev (σ := Int × Tok) (I := D2) (l := q) (vs := vs) (fun c => [(q, listOf vs.toArray n1), (x, instObj 112 dx), (dx, d.obj j t1)]) (fun c => [(Str.ofString "value", .int c.1 c.2), (Str.ofString "w", .int wn tw)]) (fun idx c => c.1 = val (2 ^ wn) (na.drop (vs.length - idx))) (0, _) rfl ⟨_, gI1, rfl, rfl⟩ gI3 gI2 ⟨_, gq1, rfl, _, rfl⟩ (.inr ⟨_, fun c => List.Mem.head _⟩) gq2 (Nat.ne_of_lt hlt.1) (by simp) F3 (kst_newsOf N3 (by kst_inAny)) (by kst_all) (by dsimp only; rw [hlen, Nat.sub_zero, List.drop_length]; rfl) ?_ ?_
  · intro idx; refine prod2 ?_; rintro vv tv v1 u h tk oI hidx hv hP hneI F4 N4 R9 hR hQ; dsimp only [kstB] at F4 hP hidx hneI; dsimp only [List.nil_append, List.cons_append] at N4
    obtain ⟨hi2, tt, rfl⟩ := ints_at hiq hv
    try k_fold
    clear F3 N3
    have hx := dig_getD hda hBB (vs.length - 1 - idx)
    have hle := val_drop_le hBB hda (vs.length - idx)
    have hnn := val_nonneg hBB (a := na.drop (vs.length - idx)) (fun y hy => hda y (List.mem_of_mem_drop hy))
    rw [← hP, hva] at hle
    rw [← hP] at hnn
    k_steps
    rename Fr _ _ _ _ => F5; rename News _ _ _ _ => N5
    refine hR (_, _) _ _ _ _ F5 N5 (by kst_in) (by k_memK) (by kst_all) ?_
    dsimp only
    rw [show vs.length - (idx + 1) = vs.length - 1 - idx by omega, val_drop _ _ _ hi2, show vs.length - 1 - idx + 1 = vs.length - idx by omega, ← hP, e2, Int.mul_comm, Int.add_comm]
  · refine prod2 ?_; rintro vv tv u h tk hP F4 N4; dsimp only [kstB] at F4 hP; try k_fold
    clear F3 N3
    rw [Nat.sub_self, List.drop_zero, hva] at hP
    subst hP
    k_steps
    rename Fr _ _ _ _ => F5; rename News _ _ _ _ => N5
    obtain ⟨q1, q2⟩ := fin_src0 hst hxs F5 N5 (by k_memK) (by k_memK)
    exact ret _ _ _ _ q1 q2
end Mine
end

section
open PySem PySem.W PySem.Calls PyProof.Rows
namespace Mine
def rowsL (told : List Nat) (size most : Nat) : Nat → Nat → Nat → List Nat × Nat
  | 0, _, i => ([], i)
  | k + 1, left, i => if left = 0 then ([], i) else
    (min (1 + (below told size i most).1) left :: (rowsL told size most k (left - min (1 + (below told size i most).1) left) (below told size i most).2).1,
      (rowsL told size most k (left - min (1 + (below told size i most).1) left) (below told size i most).2).2)
def mostOf (told : List Nat) (size i n : Nat) : Nat := max (n / ((below told size i 4).1 + 1)) 1
def rows (told : List Nat) (size i n : Nat) : List Nat × Nat := rowsL told size (mostOf told size i n) n n (below told size i 4).2
theorem rowsL_zero (told : List Nat) (size most k i : Nat) : rowsL told size most k 0 i = ([], i) := by
  cases k <;> rfl
theorem rowsL_sum (told : List Nat) (size most : Nat) : ∀ k left i, left ≤ k → (rowsL told size most k left i).1.sum = left
  | 0, left, i, h => by rw [Nat.le_zero.mp h]; rfl
  | k + 1, left, i, h => by
    by_cases h0 : left = 0
    · subst h0; rfl
    · show (if left = 0 then (([], i) : List Nat × Nat) else _).1.sum = left
      rw [if_neg h0]
      dsimp only
      rw [List.sum_cons, rowsL_sum told size most k _ _ (by omega)]
      omega
theorem rows_sum (told : List Nat) (size i n : Nat) : (rows told size i n).1.sum = n := rowsL_sum _ _ _ _ _ _ (Nat.le_refl _)
def castL (l : List Nat) : List Int := l.map (fun n : Nat => (n : Int))
theorem castL_append (a b : List Nat) : castL (a ++ b) = castL a ++ castL b := by simp [castL]
theorem castL_len (a : List Nat) : (castL a).length = a.length := by simp [castL]
end Mine
end

section
open PySem PySem.W PySem.Calls PyProof.Rows
namespace Mine
set_option pp.deepTerms false
set_option pp.deepTerms.threshold 2
set_option pp.proofs false
theorem fillG1 : (PySem.Challenge.rw_rr0056_01.Holds ∧ Mine.hd.heap_39 = Mine.hd.heap_39) → True := by
  k_fill
  w_top off
  k_with_none
  (k_with "pyIter ref" => ((with_reducible show wpAny _ _ (pyIter (Value.ref _)) (fun it s₂ => LoopAtV _ _ _ _ _ _ _ _ _ it s₂) _ _); refine Mine.unhold ?_))
  (k_with "exec While Compare cons nil" => (refine Mine.unhold ?_))
  (k_with "exec While BoolOp cons nil" => (refine Mine.unhold ?_))
  (k_with "binaryOp LShift int int" => (k_here; refine lshift_int_small (by first | exact Int.natCast_nonneg _ | decide | omega) (by first | exact mill9 (by assumption) | decide | omega) (by first | decide | omega) ?_))
  (k_with "call ref" => (k_here; (with_reducible show wpAny _ _ (call (Value.ref 123) [Value.int _ _]) _ _ _); (rename Fr _ _ _ _ => cF); (rename News _ _ _ _ => cN); (rename Top _ _ _ _ _ _ => cT); k_dflt (refine' need_ok cF ?cX cT ?cd ?cu ?cn ?_; (case cn => omega); (case cX => assumption); (case cd => ((try dsimp only [Around.deeper, Around.in1, Around.depth, Around.units]); first | exact room (by assumption) rfl | exact room0 (by assumption) rfl | omega)); (case cu => ((try dsimp only [Around.deeper, Around.in1, Around.depth, Around.units]); first | exact room (by assumption) rfl | exact room0 (by assumption) rfl | omega)); k_whole); intro h' tk' k'; (have F' := fr_up cF k'); (have N' := news_up cN k'); clear cF cN; (try dsimp only); (revert h' tk' k' F' N'; intros)))
  exact fun _ => trivial
set_option maxRecDepth 100000 in
set_option maxHeartbeats 8000000 in
theorem rowl_ok {w : World} {p : Program} {loose : List Str} {mean : ExcName → Option Value} {mg mb : Str → Option Value} {dp un : Nat} {gd : Option (List Code)} {fr : Option (List Env)} {h₀ : Heap} {L : Addr} {m : Str → Option Value} {s : Shared} {Q E : Value → Shared → Prop}
   {x dx : Addr} {d : SD} {i : Nat} {t : Tok} {n wn : Nat} {tn tw : Tok} {told : List Nat} {rvs : List Value}
   (F : Fr h₀ L s.heap m) (X : (hd.heap_39 w.params).In h₀) (T : Top p loose mean mg mb h₀)
   (hd : dp + 100 < recursionLimit) (hu : un + 1000 < cLine)
   (N : News h₀ L s.heap [(x, instObj 112 dx), (dx, d.obj i t)]) (R : TR s.heap d.ra wn told rvs) (ht : told ≠ []) (ht2 : told.length ≤ 1000) (hw1 : 1 ≤ wn) (hw2 : wn ≤ 9) (hn : n ≤ 100) (hs1 : 1 ≤ d.size) (hs2 : d.size ≤ 9) (hTB : TB told d.size)
   (ret : ∀ r vs n' h' tk' t', (∀ b o, b ≠ dx → s.heap.get? b = some o → h'.get? b = some o) → h'.get? dx = some (d.obj (rows told d.size i n).2 t') → s.heap.get? r = none → h'.get? r = some (listOf vs.toArray n') → IntsAre vs (castL (rows told d.size i n).1) → Q (.ref r) {s with heap := h', toks := tk'}) :
   wpAny (model PG w) (AA dp un fr gd) (call (.ref 158) [.ref x, .int (n : Int) tn, .int (wn : Int) tw]) Q E s := by
  have hne : @Ne Nat x dx := fun e => by
    have h1 := (N _ (List.Mem.head _)).1
    have h2 := (N _ (List.Mem.tail _ (List.Mem.head _))).1
    rw [e, h2] at h1
    cases h1
  have hlist := fun {l items} => isl_hide (l := l) (items := items) (h := s.heap) (news := [(x, instObj 112 dx), (dx, d.obj i t)]) (fun p hp => (N p hp).1) (by simp)
  have hst : ∀ b o, b ≠ x → b ≠ dx → s.heap.get? b = some o → (hideAll s.heap ([(x, instObj 112 dx), (dx, d.obj i t)].map (·.1))).get? b = some o := fun b o h1 h2 e => hideAll_get _ e (by simp; exact ⟨h1, h2⟩)
  k_dflt (refine' enter [(x, instObj 112 dx), (dx, d.obj i t)] [(Str.ofString "source", .ref x), (Str.ofString "n", .int (n : Int) tn), (Str.ofString "w", .int (wn : Int) tw)] [(Str.ofString "w", .int (wn : Int) tw), (Str.ofString "n", .int (n : Int) tn), (Str.ofString "source", .ref x)] rfl F X T N ?k6 ?k7 ?k8 ?k9 ?kB ?c5 ?c2 ?c3 ?c4 ?_; (case k6 => k_is); (case k7 => k_is); (case k8 => (show dp < _; exact room00 hd)); (case k9 => exact rfl); (case c5 => decide); (case kB => exact locs rfl); (case c2 => exact rfl); (case c3 => exact rfl); (case c4 => exact rfl); k_whole; intro g' L' h' tk' eg' eL' F' N' X' T'; (try dsimp only [kstB] at F'))
  rw [← eg'] at hlist hst
  have hg0 : ∀ b o, g'.get? b = some o → s.heap.get? b = some o := fun b o e => of_hideAll _ (eg' ▸ e)
  have hgn : ∀ b, b ≠ x → b ≠ dx → g'.get? b = none → s.heap.get? b = none := fun b h1 h2 e => by
    cases q : s.heap.get? b with
    | none => rfl
    | some o => rw [hst _ _ h1 h2 q] at e; cases e
  have R' := R.keep (fun l items => hlist)
  have hxs := (N _ (List.Mem.head _)).1
  clear eg' hlist
  have hn0 : 0 ≤ (n : Int) := Int.natCast_nonneg _
  refine execs_cut (fun s' => ∃ h' tk' m', s' = {s with heap := h', toks := tk'} ∧ Fr g' L' h' m' ∧ News g' L' h' [(x, instObj 112 dx), (dx, d.obj i t)] ∧ (∀ p ∈ [(Str.ofString "source", Value.ref x), (Str.ofString "n", .int n tn), (Str.ofString "w", .int wn tw)], m' p.1 = some p.2)) ?_ ?_
  · k_steps
    rename Fr _ _ _ _ => F3; rename News _ _ _ _ => N3
    exact ⟨_, _, _, rfl, F3, N3, by kst_all⟩
  rintro _ ⟨h2, tk2, m2, rfl, F2, N2, hm2⟩
  clear F' N'
  rw [← kstB_id hm2] at F2
  dsimp only [kstB] at F2
  have hbl := below_lt (told := told) (size := d.size) (i := i) (bd := 4) (by omega)
  have hro : rows told d.size i n = rowsL told d.size (mostOf told d.size i n) n n (below told d.size i 4).2 := rfl
  have hmo : mostOf told d.size i n = max (n / ((below told d.size i 4).1 + 1)) 1 := rfl
  generalize hbe : below told d.size i 4 = be at *
  obtain ⟨v4, j4⟩ := be
  dsimp only at hbl hro hmo
  have hdl : n / (v4 + 1) ≤ n := Nat.div_le_self _ _
  refine execs_cut (fun s' => ∃ h' tk' m' tm t', s' = {s with heap := h', toks := tk'} ∧ Fr g' L' h' m' ∧ News g' L' h' [(x, instObj 112 dx), (dx, d.obj j4 t')] ∧ (∀ p ∈ [(Str.ofString "source", Value.ref x), (Str.ofString "n", .int n tn), (Str.ofString "w", .int wn tw), (Str.ofString "most", .int (mostOf told d.size i n : Nat) tm)], m' p.1 = some p.2)) ?_ ?_
  · k_steps
    refine sbelow_ok (d := d) (i := i) (bd := 4) F2 X' (by assumption) (by ((try dsimp only [Around.deeper, Around.in1, Around.depth, Around.units]); first | exact room (by assumption) rfl | exact room0 (by assumption) rfl | omega)) (by ((try dsimp only [Around.deeper, Around.in1, Around.depth, Around.units]); first | exact room (by assumption) rfl | exact room0 (by assumption) rfl | omega)) (kst_newsOf N2 (by kst_inAny)) (R'.keep fun l items hl => isl_keep hl F2.keep) ht ht2 hw1 hw2 (by omega) (by omega) hs1 hs2 hTB ?_
    intro q h1 tk1 t1 hkq hdq
    obtain ⟨Fq, Nq⟩ := src_back F2 N2 (by k_memK) (by k_memK) hkq hdq [] (by simp)
    dsimp only [List.nil_append, List.cons_append] at Nq
    clear F2 N2
    try dsimp only

    rw [hbe] at hdq Nq
    simp only [hbe] at *
    k_steps
    rename Fr _ _ _ _ => F3; rename News _ _ _ _ => N3
    have e0 : ((v4 : Int)) + 1 = ((v4 + 1 : Nat) : Int) := by omega
    have e1 : (if (1 : Int) > ((n / (v4 + 1) : Nat) : Int) then (1 : Int) else ((n / (v4 + 1) : Nat) : Int)) = ((mostOf told d.size i n : Nat) : Int) := by
      rw [hmo]
      generalize n / (v4 + 1) = qq
      split <;> omega
    rw [e0, fdiv_nat, e1] at F3
    exact ⟨_, _, _, _, _, rfl, F3, N3, by kst_all⟩
  rintro _ ⟨h3, tk3, m3, tm, t3, rfl, F3, N3, hm3⟩
  clear F2 N2 hm2
  rw [← kstB_id hm3] at F3
  dsimp only [kstB] at F3
  have hm1 : 1 ≤ mostOf told d.size i n := by omega
  have hm2 : mostOf told d.size i n ≤ 101 := by omega
  generalize mostOf told d.size i n = most at *
  clear hmo hdl hm3
  k_steps
  apply Hold.mk
  rename_i lf _ _ _ _ _ _ _ _ F4 N4
  skip
  have hxl : @Ne Nat x lf := news_ne N4 (by k_memK) (List.Mem.tail _ (List.Mem.head _)) (by simp)
  have hdl : @Ne Nat dx lf := news_ne N4 (List.Mem.tail _ (List.Mem.tail _ (List.Mem.tail _ (List.Mem.head _)))) (List.Mem.tail _ (List.Mem.head _)) (by simp)
  refine my_while (σ := Nat × Nat × List Value × List Nat × Nat × Tok × Tok) (fun c => [(lf, listOf c.2.2.1.toArray c.2.2.2.2.1), (x, instObj 112 dx), (dx, d.obj c.2.1 c.2.2.2.2.2.2)]) (fun c => [(Str.ofString "found", .ref lf), (Str.ofString "left", .int (c.1 : Nat) c.2.2.2.2.2.1), (Str.ofString "source", .ref x), (Str.ofString "w", .int wn tw), (Str.ofString "most", .int (most : Nat) tm)]) (fun c => IntsAre c.2.2.1 (castL c.2.2.2.1) ∧ c.1 ≤ n ∧ c.2.2.2.1.length + c.1 ≤ n ∧ ∃ k, c.1 ≤ k ∧ rowsL told d.size most n n j4 = (c.2.2.2.1 ++ (rowsL told d.size most k c.1 c.2.1).1, (rowsL told d.size most k c.1 c.2.1).2)) (fun c => c.1) (n, j4, [], [], 0, tn, t3) F4 (kst_newsOf N4 (by kst_inAny)) (by kst_all) ⟨IntsAre.nil, Nat.le_refl _, by simp, n, Nat.le_refl _, by simp⟩ ?_ PassesOwn.never
  refine prod7 ?_; rintro lef j vf fs nf tl ta u h tk ⟨hP1, hP2, hP3, k, hP4, hP5⟩ F5 N5 R9 hR hQ
  dsimp only [kstB] at F5 hP1 hP2 hP3 hP4 hP5 N5
  clear F4 N4
  have hcl := castL_len fs
  k_steps
  · rename (0 : Int) < _ => hc
    rename Fr _ _ _ _ => F6; rename News _ _ _ _ => N6
    refine sbelow_ok (d := d) (i := j) (bd := most) F6 X' (by assumption) (by ((try dsimp only [Around.deeper, Around.in1, Around.depth, Around.units]); first | exact room (by assumption) rfl | exact room0 (by assumption) rfl | omega)) (by ((try dsimp only [Around.deeper, Around.in1, Around.depth, Around.units]); first | exact room (by assumption) rfl | exact room0 (by assumption) rfl | omega)) (kst_newsOf N6 (by kst_inAny)) (R'.keep fun l items hl => isl_keep hl F6.keep) ht ht2 hw1 hw2 (by omega) (by omega) hs1 hs2 hTB ?_
    intro q h1 tk1 t1 hkq hdq
    obtain ⟨Fq, Nq⟩ := src_back F6 N6 (by k_memK) (by k_memK) hkq hdq [(lf, listOf vf.toArray nf)] (by simp)
    dsimp only [List.nil_append, List.cons_append] at Nq
    clear F6 N6
    try dsimp only

    have hbq := below_lt (told := told) (size := d.size) (i := j) (bd := most) hm1
    k_steps
    rename Fr _ _ _ _ => F7; rename News _ _ _ _ => N7
    obtain ⟨k', rfl⟩ := Nat.exists_eq_succ_of_ne_zero (show k ≠ 0 by omega)
    have hst5 : rowsL told d.size most (k' + 1) lef j = (min (1 + (below told d.size j most).1) lef :: (rowsL told d.size most k' (lef - min (1 + (below told d.size j most).1) lef) (below told d.size j most).2).1,
      (rowsL told d.size most k' (lef - min (1 + (below told d.size j most).1) lef) (below told d.size j most).2).2) := by
      show (if lef = 0 then (([], j) : List Nat × Nat) else _) = _
      rw [if_neg (by omega)]
    rw [Nat.succ_eq_add_one, hst5] at hP5
    generalize hbb : below told d.size j most = bb at *
    obtain ⟨vb, jb⟩ := bb
    dsimp only at hP5 F7 N7 hbq
    have em : (if (lef : Int) < 1 + (vb : Int) then (lef : Int) else 1 + (vb : Int)) = ((min (1 + vb) lef : Nat) : Int) := by
      split <;> omega
    have em2 : (lef : Int) - ((min (1 + vb) lef : Nat) : Int) = ((lef - min (1 + vb) lef : Nat) : Int) := by omega
    rw [em, em2] at F7
    rw [toArr_push, em] at N7
    clear em em2
    generalize hmn : min (1 + vb) lef = mn at *
    refine hR (lef - mn, jb, _, fs ++ [mn], _, _, t1) _ _ _ _ F7 N7 (by kst_in) (by kst_all) ⟨⟨?_, by dsimp only; omega, ?_, k', by dsimp only; omega, ?_⟩, by dsimp only; omega⟩
    · dsimp only
      rw [castL_append]
      exact IntsAre.append hP1 (.cons _ _ .nil)
    · dsimp only
      rw [List.length_append, List.length_singleton]
      omega
    · dsimp only
      rw [hP5, List.append_assoc]; rfl
  · rename ¬ (0 : Int) < _ => hc
    have e : lef = 0 := by omega
    subst e
    rw [rowsL_zero, List.append_nil] at hP5
    rw [hro, hP5] at ret
    rename Fr _ _ _ _ => F7; rename News _ _ _ _ => N7
    obtain ⟨q1, q2, q3, q4⟩ := fin_src hst hgn hxs F7 N7 (List.Mem.head _) (by k_memK) (by k_memK)
    exact ret _ _ _ _ _ _ q1 q2 q3 q4 hP1
end Mine
end

section
open PySem PySem.W PySem.Calls PyProof.Rows
namespace Mine
def numS (num t len : Nat) : Nat := num * 2 ^ len + (if t % 2 = 0 then 2 ^ len - 1 else 0)
def numK (ls : List Nat) : Nat → Nat
  | 0 => 0
  | k + 1 => numS (numK ls k) k (ls.getD k 0)
theorem sum_take (ls : List Nat) (k : Nat) : (ls.take (k + 1)).sum = (ls.take k).sum + ls.getD k 0 := by
  rw [List.take_add_one, List.sum_append, List.getD_eq_getElem?_getD]
  cases ls[k]? <;> simp
theorem sum_take_le : ∀ (ls : List Nat) (k : Nat), (ls.take k).sum ≤ ls.sum
  | [], k => by simp
  | x :: r, 0 => by simp
  | x :: r, k + 1 => by
    have := sum_take_le r k
    simp only [List.take_succ_cons, List.sum_cons]
    omega
theorem numK_lt (ls : List Nat) : ∀ k, numK ls k < 2 ^ (ls.take k).sum
  | 0 => by simp [numK]
  | k + 1 => by
    have ih := numK_lt ls k
    rw [sum_take, Nat.pow_add]
    show numS _ _ _ < _
    unfold numS
    generalize ls.getD k 0 = len
    have h1 : 1 ≤ 2 ^ len := Nat.two_pow_pos len
    have h2 : (numK ls k + 1) * 2 ^ len ≤ 2 ^ (ls.take k).sum * 2 ^ len := Nat.mul_le_mul_right _ ih
    rw [Nat.add_mul, Nat.one_mul] at h2
    split <;> omega
theorem getD_castL (ls : List Nat) (i : Nat) : (castL ls).getD i 0 = ((ls.getD i 0 : Nat) : Int) := by
  unfold castL
  rw [List.getD_eq_getElem?_getD, List.getD_eq_getElem?_getD, List.getElem?_map]
  cases ls[i]? <;> rfl
theorem getD_le_sum (ls : List Nat) (i : Nat) : ls.getD i 0 ≤ ls.sum := by
  have h1 := sum_take ls i
  have h2 := sum_take_le ls (i + 1)
  omega
end Mine
end

section
open PySem PySem.W PySem.Calls PyProof.Rows
namespace Mine
set_option pp.deepTerms false
set_option pp.deepTerms.threshold 2
set_option pp.proofs false
theorem fillH1 : (PySem.Challenge.rw_rr0056_01.Holds ∧ Mine.hd.heap_39 = Mine.hd.heap_39) → True := by
  k_fill
  w_top off
  k_with_none
  (k_with "pyIter ref" => ((with_reducible show wpAny _ _ (pyIter (Value.ref _)) (fun it s₂ => LoopAtV _ _ _ _ _ _ _ _ _ it s₂) _ _); refine Mine.unhold ?_))
  (k_with "exec While Compare cons nil" => (refine Mine.unhold ?_))
  (k_with "exec While BoolOp cons nil" => (refine Mine.unhold ?_))
  (k_with "binaryOp LShift int int" => (k_here; refine lshift_int_small (by first | exact Int.natCast_nonneg _ | decide | omega) (by first | exact mill9 (by assumption) | decide | omega) (by first | decide | omega) ?_))
  (k_with "call ref" => (k_here; (with_reducible show wpAny _ _ (call (Value.ref 60) [Value.ref _, Value.ref _, Value.int _ _]) _ _ _); (rename Fr _ _ _ _ => cF); (rename News _ _ _ _ => cN); (rename Top _ _ _ _ _ _ => cT); k_dflt (refine' add_ok cF ?cX cT ?cd ?cu ?cw1 ?cw2 ?cA ?cB ?c1 ?c2 ?c3 ?c4 ?_; (case c1 => is_list); (case c2 => first | assumption | exact IntsAre.nil | ((rename (∀ t, IntsAre [Value.int 1 t] _) => hone); exact hone _)); (case c3 => is_list); (case c4 => first | assumption | exact IntsAre.nil | ((rename (∀ t, IntsAre [Value.int 1 t] _) => hone); exact hone _)); (case cw1 => assumption); (case cw2 => assumption); (case cA => first | assumption | omega | decide); (case cB => first | assumption | omega | decide); (case cX => assumption); (case cd => ((try dsimp only [Around.deeper, Around.in1, Around.depth, Around.units]); first | exact room (by assumption) rfl | exact room0 (by assumption) rfl | omega)); (case cu => ((try dsimp only [Around.deeper, Around.in1, Around.depth, Around.units]); first | exact room (by assumption) rfl | exact room0 (by assumption) rfl | omega)); k_whole); intro r' vs' n' h' tk' k' f' g' i'; (have F' := fr_up cF k'); (have N' := news_add cF cN k' f' g'); (have o' := news_off cN f'); clear cF cN; (try dsimp only); (revert r' vs' n' h' tk' k' f' g' i' F' N' o'; intros)))
  (k_with "call ref" => (k_here; (with_reducible show wpAny _ _ (call (Value.ref 74) [Value.ref _, Value.int _ _, Value.int _ _]) _ _ _); (rename Fr _ _ _ _ => cF); (rename News _ _ _ _ => cN); (rename Top _ _ _ _ _ _ => cT); k_dflt (refine' shl_ok cF ?cX cT ?cd ?cu ?cw1 ?cw2 ?cA ?cn ?c1 ?c2 ?_; (case c1 => is_list); (case c2 => first | assumption | exact IntsAre.nil | ((rename (∀ t, IntsAre [Value.int 1 t] _) => hone); exact hone _)); (case cw1 => assumption); (case cw2 => assumption); (case cA => first | assumption | omega | decide); (case cn => first | assumption | omega | decide); (case cX => assumption); (case cd => ((try dsimp only [Around.deeper, Around.in1, Around.depth, Around.units]); first | exact room (by assumption) rfl | exact room0 (by assumption) rfl | omega)); (case cu => ((try dsimp only [Around.deeper, Around.in1, Around.depth, Around.units]); first | exact room (by assumption) rfl | exact room0 (by assumption) rfl | omega)); k_whole); intro r' vs' n' h' tk' k' f' g' i'; (have F' := fr_up cF k'); (have N' := news_add cF cN k' f' g'); (have o' := news_off cN f'); clear cF cN; (try dsimp only); (revert r' vs' n' h' tk' k' f' g' i' F' N' o'; intros)))
  (k_with "call ref" => (k_here; (with_reducible show wpAny _ _ (call (Value.ref 172) [Value.int _ _, Value.int _ _]) _ _ _); (rename Fr _ _ _ _ => cF); (rename News _ _ _ _ => cN); (rename Top _ _ _ _ _ _ => cT); k_dflt (refine' ones_ok cF ?cX cT ?cd ?cu ?cw1 ?cw2 ?cn ?_; (case cw1 => assumption); (case cw2 => assumption); (case cn => omega); (case cX => assumption); (case cd => ((try dsimp only [Around.deeper, Around.in1, Around.depth, Around.units]); first | exact room (by assumption) rfl | exact room0 (by assumption) rfl | omega)); (case cu => ((try dsimp only [Around.deeper, Around.in1, Around.depth, Around.units]); first | exact room (by assumption) rfl | exact room0 (by assumption) rfl | omega)); k_whole); intro r' vs' n' h' tk' k' f' g' i'; (have F' := fr_up cF k'); (have N' := news_add cF cN k' f' g'); (have o' := news_off cN f'); clear cF cN; (try dsimp only); (revert r' vs' n' h' tk' k' f' g' i' F' N' o'; intros)))
  exact fun _ => trivial
set_option maxRecDepth 100000 in
set_option maxHeartbeats 8000000 in
theorem rrows_ok {w : World} {p : Program} {loose : List Str} {mean : ExcName → Option Value} {mg mb : Str → Option Value} {dp un : Nat} {gd : Option (List Code)} {fr : Option (List Env)} {h₀ : Heap} {L : Addr} {m : Str → Option Value} {s : Shared} {Q E : Value → Shared → Prop}
   {x dx : Addr} {d : SD} {i : Nat} {t : Tok} {n wn : Nat} {tn tw : Tok} {told : List Nat} {rvs : List Value}
   (F : Fr h₀ L s.heap m) (X : (hd.heap_39 w.params).In h₀) (T : Top p loose mean mg mb h₀)
   (hd : dp + 120 < recursionLimit) (hu : un + 1200 < cLine)
   (N : News h₀ L s.heap [(x, instObj 112 dx), (dx, d.obj i t)]) (R : TR s.heap d.ra wn told rvs) (ht : told ≠ []) (ht2 : told.length ≤ 1000) (hw1 : 1 ≤ wn) (hw2 : wn ≤ 9) (hn : n ≤ 100) (hs1 : 1 ≤ d.size) (hs2 : d.size ≤ 9) (hTB : TB told d.size)
   (ret : ∀ r vs n' h' tk' t', (∀ b o, b ≠ dx → s.heap.get? b = some o → h'.get? b = some o) → h'.get? dx = some (d.obj (rows told d.size i n).2 t') → s.heap.get? r = none → h'.get? r = some (listOf vs.toArray n') → IntsAre vs (limbs wn (numK (rows told d.size i n).1 (rows told d.size i n).1.length)) → Q (.ref r) {s with heap := h', toks := tk'}) :
   wpAny (model PG w) (AA dp un fr gd) (call (.ref 165) [.ref x, .int (n : Int) tn, .int (wn : Int) tw]) Q E s := by
  have hne : @Ne Nat x dx := fun e => by
    have h1 := (N _ (List.Mem.head _)).1
    have h2 := (N _ (List.Mem.tail _ (List.Mem.head _))).1
    rw [e, h2] at h1
    cases h1
  have hlist := fun {l items} => isl_hide (l := l) (items := items) (h := s.heap) (news := [(x, instObj 112 dx), (dx, d.obj i t)]) (fun p hp => (N p hp).1) (by simp)
  have hst : ∀ b o, b ≠ x → b ≠ dx → s.heap.get? b = some o → (hideAll s.heap ([(x, instObj 112 dx), (dx, d.obj i t)].map (·.1))).get? b = some o := fun b o h1 h2 e => hideAll_get _ e (by simp; exact ⟨h1, h2⟩)
  k_dflt (refine' enter [(x, instObj 112 dx), (dx, d.obj i t)] [(Str.ofString "source", .ref x), (Str.ofString "n", .int (n : Int) tn), (Str.ofString "w", .int (wn : Int) tw)] [(Str.ofString "w", .int (wn : Int) tw), (Str.ofString "n", .int (n : Int) tn), (Str.ofString "source", .ref x)] rfl F X T N ?k6 ?k7 ?k8 ?k9 ?kB ?c5 ?c2 ?c3 ?c4 ?_; (case k6 => k_is); (case k7 => k_is); (case k8 => (show dp < _; exact room00 hd)); (case k9 => exact rfl); (case c5 => decide); (case kB => exact locs rfl); (case c2 => exact rfl); (case c3 => exact rfl); (case c4 => exact rfl); k_whole; intro g' L' h' tk' eg' eL' F' N' X' T'; (try dsimp only [kstB] at F'))
  rw [← eg'] at hlist hst
  have hg0 : ∀ b o, g'.get? b = some o → s.heap.get? b = some o := fun b o e => of_hideAll _ (eg' ▸ e)
  have hgn : ∀ b, b ≠ x → b ≠ dx → g'.get? b = none → s.heap.get? b = none := fun b h1 h2 e => by
    cases q : s.heap.get? b with
    | none => rfl
    | some o => rw [hst _ _ h1 h2 q] at e; cases e
  have R' := R.keep (fun l items => hlist)
  have hxs := (N _ (List.Mem.head _)).1
  clear eg' hlist
  have hrs := rows_sum told d.size i n
  generalize hro : rows told d.size i n = ro at *
  obtain ⟨ls, j⟩ := ro
  dsimp only at hrs ret
  k_steps
  rename_i lf _ _ _ _ _ _ _ _ F2 N2
  refine rowl_ok (d := d) (i := i) F2 X' (by assumption) (by ((try dsimp only [Around.deeper, Around.in1, Around.depth, Around.units]); first | exact room (by assumption) rfl | exact room0 (by assumption) rfl | omega)) (by ((try dsimp only [Around.deeper, Around.in1, Around.depth, Around.units]); first | exact room (by assumption) rfl | exact room0 (by assumption) rfl | omega)) (kst_newsOf N2 (by kst_inAny)) (R'.keep fun l items hl => isl_keep hl F2.keep) ht ht2 hw1 hw2 hn hs1 hs2 hTB ?_
  intro q vs n1 h1 tk1 t1 hkq hdq hnq hgq hiq
  obtain ⟨Fq, N0q⟩ := src_back F2 N2 (by k_memK) (by k_memK) hkq hdq [(lf, listOf #[] 0)] (by simp)
  have Nq := news_cons F2 N0q hnq hgq
  dsimp only [List.nil_append, List.cons_append] at Nq
  clear N0q F2 N2
  try dsimp only

  rw [hro] at hdq hiq Nq
  dsimp only at hdq hiq Nq
  k_steps
  apply Hold.mk
  have hql : q ≠ L' := (Nq _ (List.Mem.head _)).2.1
  have hlen := IntsAre.length hiq
  rw [castL_len] at hlen
  clear hkq hdq hnq hgq
  refine my_list (σ := Nat × Bool × Addr × List Value × Nat) (fun c => [(q, listOf vs.toArray n1), (c.2.2.1, listOf c.2.2.2.1.toArray c.2.2.2.2), (x, instObj 112 dx), (dx, d.obj j t1)]) (fun c => [(Str.ofString "found", .ref c.2.2.1), (Str.ofString "is_one", .bool c.2.1), (Str.ofString "w", .int wn tw)]) (fun idx c => IntsAre c.2.2.2.1 (limbs wn c.1) ∧ c.1 = numK ls idx ∧ c.2.1 = (idx % 2 == 0)) (0, true, lf, [], 0) rfl (News.isList Nq (List.Mem.head _)) (.inr ⟨_, fun c => List.Mem.head _⟩) hql (by simp) Fq (kst_newsOf Nq (by kst_inAny)) (by kst_all) ⟨IntsAre.nil, rfl, rfl⟩ ?_ ?_
  · intro idx; refine prod5 ?_; rintro num b lf vf nf v u h tk I oI hidx hv ⟨hP1, hP2, hP3⟩ hneI F4 N4 R9 hR hQ; dsimp only [kstB] at F4 hP1 hP2 hP3 hidx hneI; dsimp only [List.nil_append, List.cons_append] at N4
    obtain ⟨hi2, tt, rfl⟩ := ints_at hiq hv
    rw [getD_castL] at F4
    try k_fold
    clear Fq Nq
    have hnl := numK_lt ls idx
    have hs1' := sum_take_le ls idx
    have hle := getD_le_sum ls idx
    have hs2' := sum_take_le ls (idx + 1)
    rw [sum_take] at hs2'
    have hst6 : numK ls (idx + 1) = numS (numK ls idx) idx (ls.getD idx 0) := rfl
    rw [← hP2] at hnl hst6
    generalize hlenv : ls.getD idx 0 = len at *
    have hb1 : num < 2 ^ 200 := Nat.lt_of_lt_of_le hnl (Nat.pow_le_pow_right (by omega) (by omega))
    have hb2 : num * 2 ^ len < 2 ^ 200 := by
      have h1 : num * 2 ^ len < 2 ^ (ls.take idx).sum * 2 ^ len := Nat.mul_lt_mul_of_pos_right hnl (Nat.two_pow_pos _)
      rw [← Nat.pow_add] at h1
      exact Nat.lt_of_lt_of_le h1 (Nat.pow_le_pow_right (by omega) (by omega))
    have hb3 : 2 ^ len - 1 < 2 ^ 200 := by
      have h1 : 2 ^ len ≤ 2 ^ 200 := Nat.pow_le_pow_right (by omega) (by omega)
      have h2 := Nat.two_pow_pos len
      omega
    k_steps
    · rename b = true => hb
      rename IntsAre _ (limbs _ (_ + _)) => hI
      rename Fr _ _ _ _ => F6; rename News _ _ _ _ => N6
      have hm : idx % 2 = 0 := by rw [hb] at hP3; simpa using hP3.symm
      refine hR (num * 2 ^ len + (2 ^ len - 1), !b, _, _, _) _ _ _ _ F6 N6 (by kst_in) (by k_memK) (by kst_all) ⟨hI, ?_, ?_⟩
      · rw [hst6]; unfold numS; rw [if_pos hm]
      · dsimp only; rw [hb]; simp; exact par0 hm
    · rename b = false => hb
      rename IntsAre _ (limbs _ (_ * _)) => hI
      rename Fr _ _ _ _ => F6; rename News _ _ _ _ => N6
      have hm : ¬ idx % 2 = 0 := by rw [hb] at hP3; simpa using hP3.symm
      refine hR (num * 2 ^ len, !b, _, _, _) _ _ _ _ F6 N6 (by kst_in) (by k_memK) (by kst_all) ⟨hI, ?_, ?_⟩
      · rw [hst6]; unfold numS; rw [if_neg hm]; rfl
      · dsimp only; rw [hb]; simp; exact par1 hm
  · refine prod5 ?_; rintro num b lf vf nf u h tk ⟨hP1, hP2, hP3⟩ F4 N4; dsimp only [kstB] at F4 hP1 hP2 hP3; try k_fold
    clear Fq Nq
    rw [hlen] at hP2
    k_steps
    obtain ⟨q1, q2, q3, q4⟩ := fin_src hst hgn hxs F4 N4 (List.Mem.tail _ (List.Mem.head _)) (by k_memK) (by k_memK)
    rw [hP2] at hP1
    exact ret _ _ _ _ _ _ q1 q2 q3 q4 hP1
end Mine
end

section
open PySem PySem.W PySem.Calls PyProof.Rows
namespace Mine
abbrev someObj (tla : Addr) (size i : Nat) (ts ti : Tok) (k : Nat) : Obj := listOf #[.ref tla, .int (size : Int) ts, .int (i : Int) ti] k
abbrev sackObj (c : Int) (tc : Tok) (sl : Addr) (k : Nat) : Obj := listOf #[.int c tc, .ref sl] k
theorem isl_hide1 {h : Heap} {a : Addr} {l : Addr} {items : Array Value} (x : h.IsList l items) (hne : l ≠ a) : (hideAll h [a]).IsList l items := by
  obtain ⟨o, ho, r⟩ := x
  exact ⟨o, hideAll_get _ ho (by simpa using hne), r⟩
theorem fin_one {H g h : Heap} {L a : Addr} {m : Str → Option Value} {news : List (Addr × Obj)} {o : Obj} (hst : ∀ b o, b ≠ a → H.get? b = some o → g.get? b = some o) (F : Fr g L h m) (N : News g L h news) (hm : (a, o) ∈ news) :
    (∀ b o, b ≠ a → H.get? b = some o → h.get? b = some o) ∧ h.get? a = some o :=
  ⟨fun b o hb e => F.keep b o (hst b o hb e), (N _ hm).1⟩
end Mine
end

section
open PySem PySem.W PySem.Calls PyProof.Rows
namespace Mine
set_option pp.deepTerms false
set_option pp.deepTerms.threshold 2
set_option pp.proofs false
theorem fillLL1 : (PySem.Challenge.rw_rr0056_01.Holds ∧ Mine.hd.heap_39 = Mine.hd.heap_39) → True := by
  k_fill
  w_top off
  k_with_none
  (k_with "pyIter ref" => ((with_reducible show wpAny _ _ (pyIter (Value.ref _)) (fun it s₂ => LoopAtV _ _ _ _ _ _ _ _ _ it s₂) _ _); refine Mine.unhold ?_))
  (k_with "exec While Compare cons nil" => (refine Mine.unhold ?_))
  (k_with "exec While BoolOp cons nil" => (refine Mine.unhold ?_))
  (k_with "binaryOp LShift int int" => (k_here; refine lshift_int_small (by first | exact Int.natCast_nonneg _ | decide | omega) (by first | exact mill9 (by assumption) | decide | omega) (by first | decide | omega) ?_))
  exact fun _ => trivial
set_option maxRecDepth 100000 in
set_option maxHeartbeats 8000000 in
theorem llimbs_ok {w : World} {p : Program} {loose : List Str} {mean : ExcName → Option Value} {mg mb : Str → Option Value} {dp un : Nat} {gd : Option (List Code)} {fr : Option (List Env)} {h₀ : Heap} {L : Addr} {m : Str → Option Value} {s : Shared} {Q E : Value → Shared → Prop}
   {n : Nat} {wn : Nat} {tn tw : Tok}
   (F : Fr h₀ L s.heap m) (X : (hd.heap_39 w.params).In h₀) (T : Top p loose mean mg mb h₀)
   (hd : dp + 10 < recursionLimit) (hu : un + 100 < cLine)
   (hw1 : 1 ≤ wn) (hw2 : wn ≤ 9) (hn : n < 2 ^ 200)
   (ret : ∀ r vs' n' h' tk', s.heap.StaysIn h' → s.heap.get? r = none → h'.get? r = some (listOf vs'.toArray n') → IntsAre vs' (limbs wn n) → Q (.ref r) {s with heap := h', toks := tk'}) :
   wpAny (model PG w) (AA dp un fr gd) (call (.ref 186) [.int (n : Int) tn, .int (wn : Int) tw]) Q E s := by
  k_dflt (refine' enterP [(Str.ofString "number", .int (n : Int) tn), (Str.ofString "w", .int (wn : Int) tw)] [(Str.ofString "w", .int (wn : Int) tw), (Str.ofString "number", .int (n : Int) tn)] rfl F X T ?k6 ?k7 ?k8 ?k9 ?kB ?c5 ?c2 ?c3 ?c4 ?_; (case k6 => k_is); (case k7 => k_is); (case k8 => (show dp < _; exact room00 hd)); (case k9 => exact rfl); (case c5 => decide); (case kB => exact locs rfl); (case c2 => exact rfl); (case c3 => exact rfl); (case c4 => exact rfl); k_whole; intro L' h' tk' F' N' X' T'; (try dsimp only [kstB] at F'))
  have hll := limbs_len hw1 hn
  have hBB := base_ge hw1
  have hB9 := pow_le_512 hw2
  have e2 : ((wn : Int)).toNat = wn := Int.toNat_natCast _
  k_steps
  apply Hold.mk
  rename_i lf _ _ _ F2 N2
  refine my_while (σ := Nat × List Value × List Int × Nat × Tok) (fun c => [(lf, listOf c.2.1.toArray c.2.2.2.1)]) (fun c => [(Str.ofString "found", .ref lf), (Str.ofString "number", .int (c.1 : Int) c.2.2.2.2), (Str.ofString "w", .int wn tw)]) (fun c => IntsAre c.2.1 c.2.2.1 ∧ limbs wn n = c.2.2.1 ++ limbs wn c.1) (fun c => c.1) (n, [], [], 0, tn) F2 (kst_newsOf N2 (by kst_inAny)) (by kst_all) ⟨IntsAre.nil, by simp⟩ ?_ PassesOwn.never
  refine prod5 ?_; rintro k vf fs nf tk0 u h tk ⟨hP1, hP4⟩ F3 N3 R9 hR hQ
  dsimp only [kstB] at F3 hP1 hP4 N3
  clear F2 N2
  have hfl : fs.length ≤ 200 := by rw [hP4, List.length_append] at hll; omega
  k_steps
  · rename Fr _ _ _ _ => F5; rename News _ _ _ _ => N5; rename (0 : Int) < _ => hc
    rw [toArr_push] at N5
    have hk : k ≠ 0 := by omega
    have hL := limbs_pos hw1 hk
    have h2w : 2 ≤ 2 ^ wn := by have : 2 ^ 1 ≤ 2 ^ wn := Nat.pow_le_pow_right (by omega) hw1
                                omega
    have hdl : k / 2 ^ wn < k := Nat.div_lt_self (by omega) h2w
    have eB : (2 : Int) ^ wn = ((2 ^ wn : Nat) : Int) := by push_cast; rfl
    have e3 : ((k : Int)).fdiv (2 ^ (wn : Int).toNat) = ((k / 2 ^ wn : Nat) : Int) := by rw [e2, eB, fdiv_nat]
    have e4 : ((k : Int)).fmod (2 ^ (wn : Int).toNat) = ((k % 2 ^ wn : Nat) : Int) := by rw [e2, eB, fmod_nat]
    rw [e3] at F5
    rw [e4] at N5
    refine hR (k / 2 ^ wn, _, _, _, _) _ _ _ _ F5 N5 (by kst_in) (by kst_all) ⟨⟨IntsAre.append hP1 (.cons _ _ .nil), ?_⟩, hdl⟩
    rw [hP4, hL, List.append_assoc]; rfl
  · rename ¬ (0 : Int) < _ => hc
    have hk : k = 0 := by omega
    subst hk
    rw [limbs_zero, List.append_nil] at hP4
    rw [hP4] at ret
    exact ret _ _ _ _ _ (fun b o e => F3.keep b o e) (N3 _ (List.Mem.head _)).2.2 (N3 _ (List.Mem.head _)).1 hP1
end Mine
end

section
open PySem PySem.W PySem.Calls PyProof.Rows
namespace Mine
set_option pp.deepTerms false
set_option pp.deepTerms.threshold 2
set_option pp.proofs false
theorem fillLB1 : (PySem.Challenge.rw_rr0056_01.Holds ∧ Mine.hd.heap_39 = Mine.hd.heap_39) → True := by
  k_fill
  w_top off
  k_with_none
  (k_with "pyIter ref" => ((with_reducible show wpAny _ _ (pyIter (Value.ref _)) (fun it s₂ => LoopAtV _ _ _ _ _ _ _ _ _ it s₂) _ _); refine Mine.unhold ?_))
  (k_with "exec While Compare cons nil" => (refine Mine.unhold ?_))
  (k_with "exec While BoolOp cons nil" => (refine Mine.unhold ?_))
  (k_with "binaryOp LShift int int" => (k_here; refine lshift_int_small (by first | exact Int.natCast_nonneg _ | decide | omega) (by first | exact mill9 (by assumption) | decide | omega) (by first | decide | omega) ?_))
  exact fun _ => trivial
set_option maxRecDepth 100000 in
set_option maxHeartbeats 8000000 in
theorem lbits_ok {w : World} {p : Program} {loose : List Str} {mean : ExcName → Option Value} {mg mb : Str → Option Value} {dp un : Nat} {gd : Option (List Code)} {fr : Option (List Env)} {h₀ : Heap} {L : Addr} {m : Str → Option Value} {s : Shared} {Q E : Value → Shared → Prop}
   {sa tla : Addr} {size i k0 : Nat} {ts ti : Tok} {n : Nat} {tn : Tok} {told : List Nat} {tvs : List Value}
   (F : Fr h₀ L s.heap m) (X : (hd.heap_39 w.params).In h₀) (T : Top p loose mean mg mb h₀)
   (hd : dp + 20 < recursionLimit) (hu : un + 200 < cLine)
   (N : News h₀ L s.heap [(sa, someObj tla size i ts ti k0)]) (hne : tla ≠ sa) (hl : s.heap.IsList tla tvs.toArray) (hi : IntsAre tvs (castL told)) (ht : told ≠ []) (ht2 : told.length ≤ 1000) (hn : n ≤ 100) (hs1 : 1 ≤ size) (hs2 : size ≤ 9) (hTB : TB told size)
   (ret : ∀ t0 h' tk' t' k', (∀ b o, b ≠ sa → s.heap.get? b = some o → h'.get? b = some o) → h'.get? sa = some (someObj tla size (i + turns n size) ts t' k') → Q (.int (drawn told size i n : Nat) t0) {s with heap := h', toks := tk'}) :
   wpAny (model PG w) (AA dp un fr gd) (call (.ref 193) [.ref sa, .int (n : Int) tn]) Q E s := by
  have hst : ∀ b o, b ≠ sa → s.heap.get? b = some o → (hideAll s.heap ([(sa, someObj tla size i ts ti k0)].map (·.1))).get? b = some o := fun b o h1 e => hideAll_get _ e (by simpa using h1)
  have hlist := isl_hide1 hl hne
  k_dflt (refine' enter [(sa, someObj tla size i ts ti k0)] [(Str.ofString "some", .ref sa), (Str.ofString "n", .int (n : Int) tn)] [(Str.ofString "n", .int (n : Int) tn), (Str.ofString "some", .ref sa)] rfl F X T N ?k6 ?k7 ?k8 ?k9 ?kB ?c5 ?c2 ?c3 ?c4 ?_; (case k6 => k_is); (case k7 => k_is); (case k8 => (show dp < _; exact room00 hd)); (case k9 => exact rfl); (case c5 => decide); (case kB => exact locs rfl); (case c2 => exact rfl); (case c3 => exact rfl); (case c4 => exact rfl); k_whole; intro g' L' h' tk' eg' eL' F' N' X' T'; (try dsimp only [kstB] at F'))
  rw [← eg'] at hst
  have hl' : g'.IsList tla tvs.toArray := by rw [eg']; exact hlist
  clear eg' hlist
  have hn0 : 0 ≤ (n : Int) := Int.natCast_nonneg _
  have hcl := castL_len told
  k_steps
  apply Hold.mk
  rename Fr _ _ _ _ => F2; rename News _ _ _ _ => N2
  refine my_while (σ := Nat × Tok × Tok × Tok × Nat) (fun c => [(sa, someObj tla size (i + c.1) ts c.2.2.2.1 c.2.2.2.2)]) (fun c => [(Str.ofString "found", .int (bsum told size i c.1 : Nat) c.2.1), (Str.ofString "have", .int ((c.1 * size : Nat) : Int) c.2.2.1), (Str.ofString "some", .ref sa), (Str.ofString "n", .int n tn)]) (fun c => c.1 = 0 ∨ (c.1 - 1) * size < n) (fun c => n - c.1 * size) (0, _, _, ti, k0) F2 (kst_newsOf N2 (by kst_inAny)) (by dsimp only; rw [Nat.zero_mul]; kst_all) (.inl rfl) ?_ PassesOwn.never
  refine prod5 ?_; rintro k tf th tis nk u h tk hP2 F3 N3 R9 hR hQ
  dsimp only [kstB] at F3 hP2 N3
  clear F2 N2
  have hbl := bsum_lt hTB i k
  have htd := tb_getD hTB ((i + k) % told.length)
  have htl : 0 < told.length := List.length_pos_iff.mpr ht
  have hstep : bsum told size i (k + 1) = bsum told size i k + told.getD ((i + k) % told.length) 0 * 2 ^ (k * size) := rfl
  have hkk : (k + 1) * size = k * size + size := by rw [Nat.add_mul, Nat.one_mul]
  have hks9 : k * size ≤ 109 := by
    rcases hP2 with e | h1
    · subst e; omega
    · obtain ⟨j, rfl⟩ | e : (∃ j, k = j + 1) ∨ k = 0 := by cases k with | zero => exact .inr rfl | succ j => exact .inl ⟨j, rfl⟩
      · rw [Nat.add_sub_cancel] at h1
        rw [Nat.add_mul, Nat.one_mul]; omega
      · subst e; omega
  have htn : ¬ k * size < n → turns n size = k := fun h1 => turns_eq hs1 (by omega) hP2
  have hdr : ¬ k * size < n → drawn told size i n = bsum told size i k % 2 ^ n := fun h1 => by unfold drawn; rw [htn h1]
  generalize hks : k * size = ks at *
  k_steps
  · rename (ks : Int) < _ => hlt
    have egd : ∀ z : Int, z = ((told.length : Nat) : Int) → (castL told).getD ((((i + k : Nat)) : Int).fmod z).toNat 0 = ((told.getD ((i + k) % told.length) 0 : Nat) : Int) := by
      rintro z rfl
      rw [fmod_nat, Int.toNat_natCast, getD_castL]
    rw [egd _ (by first | rfl | (rw [hcl]) | (simp; omega))]
    have h9 : told.getD ((i + k) % told.length) 0 < 2 ^ 64 := Nat.lt_of_lt_of_le htd (Nat.pow_le_pow_right (by omega) (by omega))
    refine PyProof.Rows.mul_int ?_ (IntMulOk.of_left (intBits_le_iff.mpr (by rw [Int.natAbs_natCast]; exact h9)))
    k_steps
    rename Fr _ _ _ _ => F5; rename News _ _ _ _ => N5
    have e1 : ((ks : Int)).toNat = ks := Int.toNat_natCast _
    have e2 : ((bsum told size i k : Nat) : Int) + ((told.getD ((i + k) % told.length) 0 : Nat) : Int) * 2 ^ (ks : Int).toNat = ((bsum told size i (k + 1) : Nat) : Int) := by
      rw [e1, hstep]; push_cast; rfl
    have e3 : (ks : Int) + (size : Int) = (((k + 1) * size : Nat) : Int) := by omega
    have e4 : ((i + k : Nat) : Int) + 1 = ((i + (k + 1) : Nat) : Int) := by omega
    rw [e2, e3] at F5
    rw [e4] at N5
    refine hR (k + 1, _, _, _, _) _ _ _ _ F5 N5 (by kst_in) (by kst_all) ⟨.inr (by simp only [Nat.add_sub_cancel]; omega), by dsimp only; omega⟩
  · rename ¬ (ks : Int) < _ => hlt
    have e2 : ((n : Int)).toNat = n := Int.toNat_natCast _
    have e1 : ((bsum told size i k : Nat) : Int).fmod (2 ^ (n : Int).toNat) = ((drawn told size i n : Nat) : Int) := by
      have eB : (2 : Int) ^ n = ((2 ^ n : Nat) : Int) := by push_cast; rfl
      rw [e2, eB, fmod_nat, hdr (by omega)]
    rw [← htn (by omega)] at N3
    obtain ⟨q1, q2⟩ := fin_one hst F3 N3 (List.Mem.head _)
    have ret2 : ∀ X t0 h' tk' t' k', X = ((drawn told size i n : Nat) : Int) → (∀ b o, b ≠ sa → s.heap.get? b = some o → h'.get? b = some o) → h'.get? sa = some (someObj tla size (i + turns n size) ts t' k') → Q (.int X t0) {s with heap := h', toks := tk'} := by
      rintro X t0 h' tk' t' k' rfl a b
      exact ret _ _ _ _ _ a b
    exact ret2 _ _ _ _ _ _ e1 q1 q2
end Mine
end

section
open PySem PySem.W PySem.Calls PyProof.Rows
namespace Mine
/-- after a call that has turned the list `some` alone -/
theorem one_back {g h h' : Heap} {L a : Addr} {m : Str → Option Value} {news : List (Addr × Obj)} {o o' : Obj} (F : Fr g L h m) (N : News g L h news) (hm : (a, o) ∈ news)
    (hk : ∀ b o, b ≠ a → h.get? b = some o → h'.get? b = some o) (hd : h'.get? a = some o') (l : List (Addr × Obj)) (hl : ∀ p ∈ l, p ∈ news ∧ p.1 ≠ a) :
    Fr g L h' m ∧ News g L h' (l ++ [(a, o')]) := by
  refine ⟨fr_set F N hm hk, fun p hp => ?_⟩
  rcases List.mem_append.mp hp with h1 | h1
  · exact ⟨hk _ _ (hl p h1).2 (N p (hl p h1).1).1, (N p (hl p h1).1).2⟩
  · rw [List.mem_singleton.mp h1]
    exact ⟨hd, (N _ hm).2⟩
end Mine
end

section
open PySem PySem.W PySem.Calls PyProof.Rows
namespace Mine
set_option pp.deepTerms false
set_option pp.deepTerms.threshold 2
set_option pp.proofs false
theorem fillLW1 : (PySem.Challenge.rw_rr0056_01.Holds ∧ Mine.hd.heap_39 = Mine.hd.heap_39) → True := by
  k_fill
  w_top off
  k_with_none
  (k_with "pyIter ref" => ((with_reducible show wpAny _ _ (pyIter (Value.ref _)) (fun it s₂ => LoopAtV _ _ _ _ _ _ _ _ _ it s₂) _ _); refine Mine.unhold ?_))
  (k_with "exec While Compare cons nil" => (refine Mine.unhold ?_))
  (k_with "exec While BoolOp cons nil" => (refine Mine.unhold ?_))
  (k_with "binaryOp LShift int int" => (k_here; refine lshift_int_small (by first | exact Int.natCast_nonneg _ | decide | omega) (by first | exact mill9 (by assumption) | decide | omega) (by first | decide | omega) ?_))
  exact fun _ => trivial
set_option maxRecDepth 100000 in
set_option maxHeartbeats 8000000 in
theorem lbelow_ok {w : World} {p : Program} {loose : List Str} {mean : ExcName → Option Value} {mg mb : Str → Option Value} {dp un : Nat} {gd : Option (List Code)} {fr : Option (List Env)} {h₀ : Heap} {L : Addr} {m : Str → Option Value} {s : Shared} {Q E : Value → Shared → Prop}
   {sa tla : Addr} {size i k0 : Nat} {ts ti : Tok} {told : List Nat} {tvs : List Value} {bd : Nat} {tn : Tok}
   (F : Fr h₀ L s.heap m) (X : (hd.heap_39 w.params).In h₀) (T : Top p loose mean mg mb h₀)
   (hd : dp + 40 < recursionLimit) (hu : un + 400 < cLine)
   (N : News h₀ L s.heap [(sa, someObj tla size i ts ti k0)]) (hne : tla ≠ sa) (hl : s.heap.IsList tla tvs.toArray) (hi : IntsAre tvs (castL told)) (ht : told ≠ []) (ht2 : told.length ≤ 1000) (hs1 : 1 ≤ size) (hs2 : size ≤ 9) (hTB : TB told size) (hb1 : 1 ≤ bd) (hb2 : bd ≤ 1000)
   (ret : ∀ t0 h' tk' t' k', (∀ b o, b ≠ sa → s.heap.get? b = some o → h'.get? b = some o) → h'.get? sa = some (someObj tla size (below told size i bd).2 ts t' k') → Q (.int ((below told size i bd).1 : Nat) t0) {s with heap := h', toks := tk'}) :
   wpAny (model PG w) (AA dp un fr gd) (call (.ref 200) [.ref sa, .int (bd : Int) tn]) Q E s := by
  have hst : ∀ b o, b ≠ sa → s.heap.get? b = some o → (hideAll s.heap ([(sa, someObj tla size i ts ti k0)].map (·.1))).get? b = some o := fun b o h1 e => hideAll_get _ e (by simpa using h1)
  have hlist := isl_hide1 hl hne
  k_dflt (refine' enter [(sa, someObj tla size i ts ti k0)] [(Str.ofString "some", .ref sa), (Str.ofString "bound", .int (bd : Int) tn)] [(Str.ofString "bound", .int (bd : Int) tn), (Str.ofString "some", .ref sa)] rfl F X T N ?k6 ?k7 ?k8 ?k9 ?kB ?c5 ?c2 ?c3 ?c4 ?_; (case k6 => k_is); (case k7 => k_is); (case k8 => (show dp < _; exact room00 hd)); (case k9 => exact rfl); (case c5 => decide); (case kB => exact locs rfl); (case c2 => exact rfl); (case c3 => exact rfl); (case c4 => exact rfl); k_whole; intro g' L' h' tk' eg' eL' F' N' X' T'; (try dsimp only [kstB] at F'))
  rw [← eg'] at hst
  have hl' : g'.IsList tla tvs.toArray := by rw [eg']; exact hlist
  clear eg' hlist
  k_steps
  apply Hold.mk
  rename Fr _ _ _ _ => F2; rename News _ _ _ _ => N2
  refine my_while (σ := Nat × Tok) (fun c => [(sa, someObj tla size i ts ti k0)]) (fun c => [(Str.ofString "size", .int (c.1 : Nat) c.2), (Str.ofString "some", .ref sa), (Str.ofString "bound", .int (bd : Nat) tn)]) (fun c => c.1 ≤ 11 ∧ (c.1 = 0 ∨ 2 ^ (c.1 - 1) < bd)) (fun c => 11 - c.1) (0, _) F2 (kst_newsOf N2 (by kst_inAny)) (by kst_all) ⟨by omega, .inl rfl⟩ ?_ PassesOwn.never
  refine prod2 ?_; rintro sz tsz u h tk ⟨hP1, hP2⟩ F3 N3 R9 hR hQ
  dsimp only [kstB] at F3 hP1 hP2 N3
  clear F2 N2
  have e1 : ((sz : Int)).toNat = sz := Int.toNat_natCast _
  have eB : (2 : Int) ^ sz = ((2 ^ sz : Nat) : Int) := by push_cast; rfl
  k_steps
  · rename (2 : Int) ^ _ < _ => hc
    rw [e1, eB] at hc
    have hc2 : 2 ^ sz < bd := by omega
    have hsz : sz < 10 := (Nat.pow_lt_pow_iff_right (a := 2) (by omega)).mp (show 2 ^ sz < 2 ^ 10 by omega)
    rename Fr _ _ _ _ => F5; rename News _ _ _ _ => N5
    have e3 : (sz : Int) + 1 = ((sz + 1 : Nat) : Int) := by omega
    rw [e3] at F5
    exact hR (sz + 1, _) _ _ _ _ F5 N5 (by kst_in) (by kst_all) ⟨⟨by dsimp only; omega, .inr (by simpa using hc2)⟩, by dsimp only; omega⟩
  rename ¬ (2 : Int) ^ _ < _ => hc
  rw [e1, eB] at hc
  have hc2 : ¬ 2 ^ sz < bd := by omega
  have hsz : bl (bd - 1) = sz := bl_unique (by omega) (by rcases hP2 with h | h; exact .inl h; exact .inr (by omega))
  refine lbits_ok (i := i) (n := sz) F3 X' (by assumption) (by ((try dsimp only [Around.deeper, Around.in1, Around.depth, Around.units]); first | exact room (by assumption) rfl | exact room0 (by assumption) rfl | omega)) (by ((try dsimp only [Around.deeper, Around.in1, Around.depth, Around.units]); first | exact room (by assumption) rfl | exact room0 (by assumption) rfl | omega)) (kst_newsOf N3 (by kst_inAny)) hne (isl_keep hl' F3.keep) hi ht ht2 (by omega) hs1 hs2 hTB ?_
  intro q h1 tk1 t1 k1 hkq hdq
  obtain ⟨Fq, Nq⟩ := one_back F3 N3 (by k_memK) hkq hdq [] (by simp)
  dsimp only [List.nil_append, List.cons_append] at Nq
  clear F3 N3
  try dsimp only

  have hdl := drawn_lt told size i sz
  have hbe : below told size i bd = blw told size (bl (bd - 1)) bd 80 (i + turns (bl (bd - 1)) size) (drawn told size i (bl (bd - 1))) := rfl
  rw [hsz] at hbe
  k_steps
  apply Hold.mk
  rename IsRange _ _ _ _ _ _ _ _ => rg; rename Fr _ _ _ _ => F4; rename News _ _ _ _ => N4
  refine my_range (σ := Nat × Nat × Tok × Tok × Nat) (n := 80) (fun c => [(sa, someObj tla size c.1 ts c.2.2.2.1 c.2.2.2.2)]) (fun c => [(Str.ofString "found", .int (c.2.1 : Nat) c.2.2.1), (Str.ofString "size", .int (sz : Nat) tsz), (Str.ofString "some", .ref sa), (Str.ofString "bound", .int (bd : Nat) tn)]) (fun idx c => c.2.1 < 2 ^ sz ∧ below told size i bd = blw told size sz bd (80 - idx) c.1 c.2.1) (i + turns sz size, drawn told size i sz, q, t1, k1) rfl rg (by decide) (rs0 80) (by simp) F4 (kst_newsOf N4 (by kst_inAny)) (by kst_all) ⟨hdl, hbe⟩ ?_ ?_
  · intro idx; refine prod5 ?_; rintro j f tf ta ka tt u h tk I oI hidx ⟨hP3, hP4⟩ hneI F5 N5 R9 hR hQ; dsimp only [kstB] at F5 hP3 hP4 hidx hneI; dsimp only [List.nil_append, List.cons_append] at N5; try k_fold
    clear F4 N4 rg
    have hsI : ¬ I = sa := fun e => hneI _ (List.Mem.head _) e.symm
    k_steps
    · rename (f : Int) < _ => hcc
      have hbb : below told size i bd = (f, j) := by
        rw [hP4]
        obtain ⟨q, hq, _⟩ := step80 hidx
        rw [hq]
        show (if f < bd then (f, j) else _) = (f, j)
        rw [if_pos (by omega)]
      rename Fr _ _ _ _ => F6; rename News _ _ _ _ => N6
      obtain ⟨q1, q2⟩ := fin_one hst F6 N6 (List.Mem.head _)
      rw [hbb] at ret
      exact hQ _ _ (ret _ _ _ _ _ q1 q2)
    · rename ¬ (f : Int) < _ => hcc
      refine lbits_ok (i := j) (n := sz) F5 X' (by assumption) (by ((try dsimp only [Around.deeper, Around.in1, Around.depth, Around.units]); first | exact room (by assumption) rfl | exact room0 (by assumption) rfl | omega)) (by ((try dsimp only [Around.deeper, Around.in1, Around.depth, Around.units]); first | exact room (by assumption) rfl | exact room0 (by assumption) rfl | omega)) (kst_newsOf N5 (by kst_inAny)) hne (isl_keep hl' F5.keep) hi ht ht2 (by omega) hs1 hs2 hTB ?_
      intro q2 h2 tk2 t2 k2 hkq2 hdq2
      obtain ⟨Fq2, Nq2⟩ := one_back F5 N5 (by k_memK) hkq2 hdq2 [(I, oI)] (by simp [hsI])
      dsimp only [List.nil_append, List.cons_append] at Nq2
      clear F5 N5
      try dsimp only

      k_steps
      rename Fr _ _ _ _ => F6; rename News _ _ _ _ => N6
      refine hR (j + turns sz size, drawn told size j sz, _, t2, k2) _ _ _ _ F6 N6 (by kst_in) (by k_memK) (by kst_all) ⟨drawn_lt _ _ _ _, ?_⟩
      rw [hP4]
      obtain ⟨q, hq, hq2⟩ := step80 hidx
      rw [hq, hq2]
      show (if f < bd then (f, j) else _) = _
      rw [if_neg (by omega)]
  · refine prod5 ?_; rintro j f tf ta ka u h tk ⟨hP3, hP4⟩ F5 N5; dsimp only [kstB] at F5 hP3 hP4; try k_fold
    clear F4 N4 rg
    k_steps
    · have hcb2 : bd ≤ f := by omega
      have hbb : below told size i bd = (f - bd, j) := by
        rw [hP4]
        show (if bd ≤ f then f - bd else f, j) = _
        rw [if_pos hcb2]
      rename Fr _ _ _ _ => F6; rename News _ _ _ _ => N6
      obtain ⟨q1, q2⟩ := fin_one hst F6 N6 (List.Mem.head _)
      rw [hbb] at ret
      have e9 : (f : Int) - (bd : Int) = ((f - bd : Nat) : Int) := by omega
      have ret2 : ∀ X t0 h' tk' t' k', X = ((f - bd : Nat) : Int) → (∀ b o, b ≠ sa → s.heap.get? b = some o → h'.get? b = some o) → h'.get? sa = some (someObj tla size j ts t' k') → Q (.int X t0) {s with heap := h', toks := tk'} := by
        rintro X t0 h' tk' t' k' rfl a b
        exact ret _ _ _ _ _ a b
      exact ret2 _ _ _ _ _ _ e9 q1 q2
    · have hcb2 : ¬ bd ≤ f := by omega
      have hbb : below told size i bd = (f, j) := by
        rw [hP4]
        show (if bd ≤ f then f - bd else f, j) = _
        rw [if_neg hcb2]
      rename Fr _ _ _ _ => F6; rename News _ _ _ _ => N6
      obtain ⟨q1, q2⟩ := fin_one hst F6 N6 (List.Mem.head _)
      rw [hbb] at ret
      exact ret _ _ _ _ _ q1 q2
end Mine
end

section
open PySem PySem.W PySem.Calls PyProof.Rows
namespace Mine
set_option pp.deepTerms false
set_option pp.deepTerms.threshold 2
set_option pp.proofs false
theorem fillLR1 : (PySem.Challenge.rw_rr0056_01.Holds ∧ Mine.hd.heap_39 = Mine.hd.heap_39) → True := by
  k_fill
  w_top off
  k_with_none
  (k_with "pyIter ref" => ((with_reducible show wpAny _ _ (pyIter (Value.ref _)) (fun it s₂ => LoopAtV _ _ _ _ _ _ _ _ _ it s₂) _ _); refine Mine.unhold ?_))
  (k_with "exec While Compare cons nil" => (refine Mine.unhold ?_))
  (k_with "exec While BoolOp cons nil" => (refine Mine.unhold ?_))
  (k_with "binaryOp LShift int int" => (k_here; refine lshift_int_small (by first | exact Int.natCast_nonneg _ | decide | omega) (by first | exact mill9 (by assumption) | decide | omega) (by first | decide | omega) ?_))
  exact fun _ => trivial
theorem sum_castL (l : List Nat) : (castL l).sum = ((l.sum : Nat) : Int) := by
  induction l with
  | nil => rfl
  | cons x r ih =>
    show (x : Int) + (castL r).sum = _
    rw [ih, List.sum_cons]; push_cast; rfl
set_option maxRecDepth 100000 in
set_option maxHeartbeats 8000000 in
theorem lrows_ok {w : World} {p : Program} {loose : List Str} {mean : ExcName → Option Value} {mg mb : Str → Option Value} {dp un : Nat} {gd : Option (List Code)} {fr : Option (List Env)} {h₀ : Heap} {L : Addr} {m : Str → Option Value} {s : Shared} {Q E : Value → Shared → Prop}
   {sa tla : Addr} {size i k0 : Nat} {ts ti : Tok} {told : List Nat} {tvs : List Value} {n : Nat} {tn : Tok}
   (F : Fr h₀ L s.heap m) (X : (hd.heap_39 w.params).In h₀) (T : Top p loose mean mg mb h₀)
   (hd : dp + 60 < recursionLimit) (hu : un + 600 < cLine)
   (N : News h₀ L s.heap [(sa, someObj tla size i ts ti k0)]) (hne : tla ≠ sa) (hl : s.heap.IsList tla tvs.toArray) (hi : IntsAre tvs (castL told)) (ht : told ≠ []) (ht2 : told.length ≤ 1000) (hs1 : 1 ≤ size) (hs2 : size ≤ 9) (hTB : TB told size) (hn : n ≤ 100)
   (ret : ∀ r vs n' h' tk' t' k', (∀ b o, b ≠ sa → s.heap.get? b = some o → h'.get? b = some o) → h'.get? sa = some (someObj tla size (rows told size i n).2 ts t' k') → s.heap.get? r = none → h'.get? r = some (listOf vs.toArray n') → IntsAre vs (castL (rows told size i n).1) → Q (.ref r) {s with heap := h', toks := tk'}) :
   wpAny (model PG w) (AA dp un fr gd) (call (.ref 207) [.ref sa, .int (n : Int) tn]) Q E s := by
  have hst : ∀ b o, b ≠ sa → s.heap.get? b = some o → (hideAll s.heap ([(sa, someObj tla size i ts ti k0)].map (·.1))).get? b = some o := fun b o h1 e => hideAll_get _ e (by simpa using h1)
  have hlist := isl_hide1 hl hne
  k_dflt (refine' enter [(sa, someObj tla size i ts ti k0)] [(Str.ofString "some", .ref sa), (Str.ofString "n", .int (n : Int) tn)] [(Str.ofString "n", .int (n : Int) tn), (Str.ofString "some", .ref sa)] rfl F X T N ?k6 ?k7 ?k8 ?k9 ?kB ?c5 ?c2 ?c3 ?c4 ?_; (case k6 => k_is); (case k7 => k_is); (case k8 => (show dp < _; exact room00 hd)); (case k9 => exact rfl); (case c5 => decide); (case kB => exact locs rfl); (case c2 => exact rfl); (case c3 => exact rfl); (case c4 => exact rfl); k_whole; intro g' L' h' tk' eg' eL' F' N' X' T'; (try dsimp only [kstB] at F'))
  rw [← eg'] at hst
  have hl' : g'.IsList tla tvs.toArray := by rw [eg']; exact hlist
  clear eg' hlist
  have hn0 : 0 ≤ (n : Int) := by omega
  have hgn : ∀ b, b ≠ sa → g'.get? b = none → s.heap.get? b = none := fun b h1 e => by
    cases q : s.heap.get? b with
    | none => rfl
    | some o => rw [hst _ _ h1 q] at e; cases e
  have hbl := below_lt (told := told) (size := size) (i := i) (bd := 4) (by omega)
  have hro : rows told size i n = rowsL told size (mostOf told size i n) n n (below told size i 4).2 := rfl
  have hmo : mostOf told size i n = max (n / ((below told size i 4).1 + 1)) 1 := rfl
  generalize hbe : below told size i 4 = be at *
  obtain ⟨v4, j4⟩ := be
  dsimp only at hbl hro hmo
  have hdl : n / (v4 + 1) ≤ n := Nat.div_le_self _ _
  k_steps
  rename Fr _ _ _ _ => F2; rename News _ _ _ _ => N2
  refine lbelow_ok (i := i) (bd := 4) F2 X' (by assumption) (by ((try dsimp only [Around.deeper, Around.in1, Around.depth, Around.units]); first | exact room (by assumption) rfl | exact room0 (by assumption) rfl | omega)) (by ((try dsimp only [Around.deeper, Around.in1, Around.depth, Around.units]); first | exact room (by assumption) rfl | exact room0 (by assumption) rfl | omega)) (kst_newsOf N2 (by kst_inAny)) hne (isl_keep hl' F2.keep) hi ht ht2 hs1 hs2 hTB (by omega) (by omega) ?_
  intro q h1 tk1 t1 k1 hkq hdq
  obtain ⟨Fq, Nq⟩ := one_back F2 N2 (by k_memK) hkq hdq [] (by simp)
  dsimp only [List.nil_append, List.cons_append] at Nq
  clear F2 N2
  try dsimp only

  simp only [hbe] at *
  k_steps
  apply Hold.mk
  rename_i lf _ hslt _ _ _ _ _ _ F3 N3
  have e0 : ((v4 : Int)) + 1 = ((v4 + 1 : Nat) : Int) := by omega
  have e1 : (if (1 : Int) > ((n / (v4 + 1) : Nat) : Int) then (1 : Int) else ((n / (v4 + 1) : Nat) : Int)) = ((mostOf told size i n : Nat) : Int) := by
    rw [hmo]
    generalize n / (v4 + 1) = qq
    split <;> omega
  rw [e0, fdiv_nat, e1] at F3
  have hm1 : 1 ≤ mostOf told size i n := by omega
  have hm2 : mostOf told size i n ≤ 101 := by omega
  generalize mostOf told size i n = most at *
  clear hmo hdl e1
  have hsl : @Ne Nat sa lf := Nat.ne_of_lt hslt
  have hls : ¬ lf = sa := fun e => hsl e.symm
  refine my_while (σ := Nat × Nat × List Value × List Nat × Nat × Tok × Nat) (fun c => [(lf, listOf c.2.2.1.toArray c.2.2.2.2.1), (sa, someObj tla size c.2.1 ts c.2.2.2.2.2.1 c.2.2.2.2.2.2)]) (fun c => [(Str.ofString "found", .ref lf), (Str.ofString "some", .ref sa), (Str.ofString "n", .int n tn), (Str.ofString "most", .int (most : Nat) _)]) (fun c => IntsAre c.2.2.1 (castL c.2.2.2.1) ∧ c.2.2.2.1.sum + c.1 = n ∧ c.2.2.2.1.length + c.1 ≤ n ∧ ∃ k, c.1 ≤ k ∧ rowsL told size most n n j4 = (c.2.2.2.1 ++ (rowsL told size most k c.1 c.2.1).1, (rowsL told size most k c.1 c.2.1).2)) (fun c => c.1) (n, j4, [], [], 0, t1, k1) F3 (kst_newsOf N3 (by kst_inAny)) (by kst_all) ⟨IntsAre.nil, by simp, by simp, n, Nat.le_refl _, by simp⟩ ?_ PassesOwn.never
  refine prod7 ?_; rintro lef j vf fs nf ta ka u h tk ⟨hP1, hP2, hP3, k, hP4, hP5⟩ F5 N5 R9 hR hQ
  dsimp only [kstB] at F5 hP1 hP2 hP3 hP4 hP5 N5
  clear F3 N3
  have hcl := castL_len fs
  have hcs := sum_castL fs
  k_steps
  · rename _ < (n : Int) => hc
    rename Fr _ _ _ _ => F6; rename News _ _ _ _ => N6
    refine lbelow_ok (i := j) (bd := most) F6 X' (by assumption) (by ((try dsimp only [Around.deeper, Around.in1, Around.depth, Around.units]); first | exact room (by assumption) rfl | exact room0 (by assumption) rfl | omega)) (by ((try dsimp only [Around.deeper, Around.in1, Around.depth, Around.units]); first | exact room (by assumption) rfl | exact room0 (by assumption) rfl | omega)) (kst_newsOf N6 (by kst_inAny)) hne (isl_keep hl' F6.keep) hi ht ht2 hs1 hs2 hTB (by omega) (by omega) ?_
    intro q h1 tk1 t1 k1 hkq hdq
    obtain ⟨Fq, Nq⟩ := one_back F6 N6 (by k_memK) hkq hdq [(lf, listOf vf.toArray nf)] (by simp [hls])
    dsimp only [List.nil_append, List.cons_append] at Nq
    clear F6 N6
    try dsimp only

    have hbq := below_lt (told := told) (size := size) (i := j) (bd := most) hm1
    k_steps
    rename Fr _ _ _ _ => F7; rename News _ _ _ _ => N7
    have hlef : lef ≠ 0 := by
      intro e
      subst e
      rw [hcs] at hc
      omega
    obtain ⟨k', rfl⟩ := Nat.exists_eq_succ_of_ne_zero (show k ≠ 0 by omega)
    have hst5 : rowsL told size most (k' + 1) lef j = (min (1 + (below told size j most).1) lef :: (rowsL told size most k' (lef - min (1 + (below told size j most).1) lef) (below told size j most).2).1,
      (rowsL told size most k' (lef - min (1 + (below told size j most).1) lef) (below told size j most).2).2) := by
      show (if lef = 0 then (([], j) : List Nat × Nat) else _) = _
      rw [if_neg hlef]
    rw [Nat.succ_eq_add_one, hst5] at hP5
    generalize hbb : below told size j most = bb at *
    obtain ⟨vb, jb⟩ := bb
    dsimp only at hP5 N7 hbq
    have em : (if (n : Int) - (castL fs).sum < 1 + (vb : Int) then (n : Int) - (castL fs).sum else 1 + (vb : Int)) = ((min (1 + vb) lef : Nat) : Int) := by
      rw [hcs]
      split <;> omega
    rw [toArr_push, em] at N7
    clear em
    generalize hmn : min (1 + vb) lef = mn at *
    refine hR (lef - mn, jb, _, fs ++ [mn], _, t1, k1) _ _ _ _ F7 N7 (by kst_in) (by kst_all) ⟨⟨?_, ?_, ?_, k', by dsimp only; omega, ?_⟩, by dsimp only; omega⟩
    · dsimp only
      rw [castL_append]
      exact IntsAre.append hP1 (.cons _ _ .nil)
    · dsimp only
      rw [List.sum_append, List.sum_singleton]
      omega
    · dsimp only
      rw [List.length_append, List.length_singleton]
      omega
    · dsimp only
      rw [hP5, List.append_assoc]; rfl
  · rename ¬ _ < (n : Int) => hc
    rename Fr _ _ _ _ => F7; rename News _ _ _ _ => N7
    have e : lef = 0 := by rw [hcs] at hc; omega
    subst e
    rw [rowsL_zero, List.append_nil] at hP5
    rw [hro, hP5] at ret
    obtain ⟨q1, q2⟩ := fin_one hst F7 N7 (List.Mem.tail _ (List.Mem.head _))
    exact ret _ _ _ _ _ _ _ q1 q2 (hgn _ hls (N7 _ (List.Mem.head _)).2.2) (N7 _ (List.Mem.head _)).1 hP1
end Mine
end

section
open PySem PySem.W PySem.Calls PyProof.Rows
namespace Mine
set_option pp.deepTerms false
set_option pp.deepTerms.threshold 2
set_option pp.proofs false
theorem fillLG1 : (PySem.Challenge.rw_rr0056_01.Holds ∧ Mine.hd.heap_39 = Mine.hd.heap_39) → True := by
  k_fill
  w_top off
  k_with_none
  (k_with "pyIter ref" => ((with_reducible show wpAny _ _ (pyIter (Value.ref _)) (fun it s₂ => LoopAtV _ _ _ _ _ _ _ _ _ it s₂) _ _); refine Mine.unhold ?_))
  (k_with "exec While Compare cons nil" => (refine Mine.unhold ?_))
  (k_with "exec While BoolOp cons nil" => (refine Mine.unhold ?_))
  (k_with "binaryOp LShift int int" => (k_here; refine lshift_int_small (by first | exact Int.natCast_nonneg _ | decide | omega) (by first | exact mill9 (by assumption) | decide | omega) (by first | decide | omega) ?_))
  exact fun _ => trivial
set_option maxRecDepth 100000 in
set_option maxHeartbeats 8000000 in
theorem lgot_ok {w : World} {p : Program} {loose : List Str} {mean : ExcName → Option Value} {mg mb : Str → Option Value} {dp un : Nat} {gd : Option (List Code)} {fr : Option (List Env)} {h₀ : Heap} {L : Addr} {m : Str → Option Value} {s : Shared} {Q E : Value → Shared → Prop}
   {sa sl : Addr} {k0 : Nat} {c : Int} {tc tm : Tok} {mn : Int} {ns : List Int} {vs : List Value}
   (F : Fr h₀ L s.heap m) (X : (hd.heap_39 w.params).In h₀) (T : Top p loose mean mg mb h₀)
   (hd : dp + 20 < recursionLimit) (hu : un + 200 < cLine)
   (N : News h₀ L s.heap [(sa, sackObj c tc sl k0)]) (hne : sl ≠ sa) (hl : s.heap.IsList sl vs.toArray) (hi : IntsAre vs ns) (hnl : ns.length ≤ 1000) (hm : 0 < mn) (hc0 : 0 ≤ c) (hc : c ≤ 1000)
   (ret : ∀ v t0 h' tk' t' k', 0 ≤ v → v < mn → (∀ b o, b ≠ sa → s.heap.get? b = some o → h'.get? b = some o) → h'.get? sa = some (sackObj (c + 1) t' sl k') → Q (.int v t0) {s with heap := h', toks := tk'}) :
   wpAny (model PG w) (AA dp un fr gd) (call (.ref 179) [.ref sa, .int mn tm]) Q E s := by
  have hst : ∀ b o, b ≠ sa → s.heap.get? b = some o → (hideAll s.heap ([(sa, sackObj c tc sl k0)].map (·.1))).get? b = some o := fun b o h1 e => hideAll_get _ e (by simpa using h1)
  have hlist := isl_hide1 hl hne
  k_dflt (refine' enter [(sa, sackObj c tc sl k0)] [(Str.ofString "sack", .ref sa), (Str.ofString "many", .int mn tm)] [(Str.ofString "many", .int mn tm), (Str.ofString "sack", .ref sa)] rfl F X T N ?k6 ?k7 ?k8 ?k9 ?kB ?c5 ?c2 ?c3 ?c4 ?_; (case k6 => k_is); (case k7 => k_is); (case k8 => (show dp < _; exact room00 hd)); (case k9 => exact rfl); (case c5 => decide); (case kB => exact locs rfl); (case c2 => exact rfl); (case c3 => exact rfl); (case c4 => exact rfl); k_whole; intro g' L' h' tk' eg' eL' F' N' X' T'; (try dsimp only [kstB] at F'))
  rw [← eg'] at hst
  have hl' : g'.IsList sl vs.toArray := by rw [eg']; exact hlist
  clear eg' hlist
  k_steps
  all_goals (rename Fr _ _ _ _ => F3; rename News _ _ _ _ => N3)
  all_goals (
    obtain ⟨q1, q2⟩ := fin_one hst F3 N3 (List.Mem.head _)
    have ret2 : ∀ (a : Int) t0 h' tk' t' k', (∀ b o, b ≠ sa → s.heap.get? b = some o → h'.get? b = some o) → h'.get? sa = some (sackObj (c + 1) t' sl k') → Q (.int (a.fmod mn) t0) {s with heap := h', toks := tk'} := by
      intro a t0 h' tk' t' k' x y
      refine ret _ _ _ _ _ _ ?_ ?_ x y
      · rw [Int.fmod_eq_emod_of_nonneg _ (by omega)]; exact Int.emod_nonneg _ (by omega)
      · rw [Int.fmod_eq_emod_of_nonneg _ (by omega)]; exact Int.emod_lt_of_pos _ hm
    exact ret2 _ _ _ _ _ _ q1 q2)
end Mine
end

section
open PySem PySem.W PySem.Calls PyProof.Rows
namespace Mine
theorem upd_back {g h h' : Heap} {L a : Addr} {m : Str → Option Value} {news news' : List (Addr × Obj)} {o o' : Obj} (F : Fr g L h m) (N : News g L h news) (U : Upd a o o' news news')
    (hk : ∀ b o, b ≠ a → h.get? b = some o → h'.get? b = some o) (hd : h'.get? a = some o') : Fr g L h' m ∧ News g L h' news' := by
  obtain ⟨pre, post, rfl, rfl, h1, h2⟩ := U.split
  have hm : (a, o) ∈ pre ++ (a, o) :: post := by simp
  refine ⟨fr_set F N hm hk, fun p hp => ?_⟩
  rcases List.mem_append.mp hp with q | q
  · have P := N p (List.mem_append_left _ q)
    exact ⟨hk _ _ (h1 p q) P.1, P.2⟩
  · rcases List.mem_cons.mp q with rfl | q
    · exact ⟨hd, (N _ hm).2⟩
    · have P := N p (List.mem_append_right _ (.tail _ q))
      exact ⟨hk _ _ (h2 p q) P.1, P.2⟩
end Mine
end

section
open PySem PySem.W PySem.Calls PyProof.Rows
namespace Mine
structure CompHold : Prop where
section
variable {prog : Program} {w : World} {A : Around} {h₀ : Heap} {L : Addr} {m : Str → Option Value} {env : Env} {elt : Expr} {x : Str} {scope : Scope} {cl : List (Str × Addr)} {s : Shared} {S : List (Addr × Obj) → Prop} {P : Nat → Value → Prop} {Fin : List Value → List (Addr × Obj) → Prop} {news : List (Addr × Obj)}
theorem comp_inv {n : Nat} (J : Nat → List Value → List (Addr × Obj) → Prop) (h0 : J 0 [] news)
    (turn : ∀ i v I oI C oC D m₂ ys nw h tk (E' : Value → Shared → Prop), i < n → P i v → J i ys nw → LCg.NsObj oC m₂ → m₂ x = some v → Fr h₀ L h m → News h₀ L h ((I, oI) :: (C, oC) :: (D, LCg.lst ys) :: nw) → LCg.Off3 I C D nw → ((@Ne Nat I C) ∧ (@Ne Nat I D) ∧ (@Ne Nat C D)) →
      wpAny (model prog w) A (eval elt (compEnvC scope cl C env)) (LCg.CompEnd h₀ L m { s with heap := h, toks := tk } I oI C oC D (LCg.lst ys) S (fun y nw' => Hold (J (i + 1) (ys ++ [y]) nw'))) E' { s with heap := h, toks := tk })
    (fin : ∀ ys nw, J n ys nw → Fin ys nw) : LCg.CompRest prog w A h₀ L m env elt x scope cl s S P Fin n 0 [] news := by
  have key : ∀ (j i : Nat) (ys : List Value) nw, i + j = n → J i ys nw → LCg.CompRest prog w A h₀ L m env elt x scope cl s S P Fin j i ys nw := by
    intro j
    induction j with
    | zero =>
      intro i ys nw hi hy
      have e : i = n := by omega
      subst e
      exact LCg.CompRest.zero (fin ys nw hy)
    | succ j ih =>
      intro i ys nw hi hy
      refine LCg.CompRest.succ ?_
      intro v I oI C oC D m₂ h tk E' hv hC hx F N off ne
      refine wpAny_mono (turn i v I oI C oC D m₂ ys nw h tk E' (by omega) hv hy hC hx F N off ne) (fun y s₂ hq => ?_) fun _ _ e => e
      obtain ⟨h', tk', nw', e, F', N', off', hS, hj⟩ := hq
      exact ⟨h', tk', nw', e, F', N', off', hS, ih (i + 1) _ _ (by omega) hj.out⟩
  exact key n 0 [] news (by omega) h0
end
structure RowsOk (rl : List (Addr × Obj)) (ys : List Value) (told : List Nat) (w : Nat) (i : Nat) : Prop where
  len : ys.length = i
  row : ∀ j v, ys[j]? = some v → ∃ r vs n, v = .ref r ∧ (r, (listOf vs.toArray n : Obj)) ∈ rl ∧ IntsAre vs (limbs w (told.getD j 0))
theorem RowsOk.zero {told : List Nat} {w : Nat} : RowsOk [] [] told w 0 := ⟨rfl, fun j v h => by simp at h⟩
theorem RowsOk.snoc {rl : List (Addr × Obj)} {ys : List Value} {told : List Nat} {w i : Nat} (R : RowsOk rl ys told w i) {r : Addr} {vs : List Value} {n : Nat} (hi : IntsAre vs (limbs w (told.getD i 0))) :
    RowsOk ((r, listOf vs.toArray n) :: rl) (ys ++ [.ref r]) told w (i + 1) := by
  refine ⟨by simp [R.len], fun j v h => ?_⟩
  by_cases hj : j < ys.length
  · rw [List.getElem?_append_left hj] at h
    obtain ⟨r1, vs1, n1, e, hm, h1⟩ := R.row j v h
    exact ⟨r1, vs1, n1, e, .tail _ hm, h1⟩
  · rw [List.getElem?_append_right (by omega)] at h
    have h0 : j - ys.length = 0 := by
      by_cases h0 : j - ys.length = 0
      · exact h0
      · rw [List.getElem?_eq_none (by simp; omega)] at h; cases h
    rw [h0] at h
    have e : v = .ref r := (Option.some.inj h).symm
    have ej : j = i := by have := R.len; omega
    subst ej
    exact ⟨r, vs, n, e, .head _, hi⟩
theorem RowsOk.tr {rl : List (Addr × Obj)} {ys : List Value} {told : List Nat} {w : Nat} (R : RowsOk rl ys told w told.length) {g h : Heap} {L ra : Addr} {news : List (Addr × Obj)} (N : News g L h news) (hsub : ∀ p ∈ rl, p ∈ news) {o : Obj} (hr : (ra, o) ∈ news) (hc : o.cls = .type "list") {k : Nat} (hd : o.data = .seq ys.toArray k) : TR h ra w told ys :=
  ⟨⟨o, (N _ hr).1, hc, k, hd⟩, R.len, fun i v hv => by
    obtain ⟨r, vs, n, e, hm, h1⟩ := R.row i v hv
    exact ⟨r, vs, e, ⟨_, (N _ (hsub _ hm)).1, rfl, n, rfl⟩, h1⟩⟩
theorem ownOff_cons {p : Addr × Obj} {rl : List (Addr × Obj)} {adr : List Addr} (h1 : ∀ b ∈ adr, p.1 ≠ b) (h2 : OwnOff rl adr) : OwnOff (p :: rl) adr := fun q hq b hb => by
  rcases List.mem_cons.mp hq with rfl | hq
  · exact h1 b hb
  · exact h2 q hq b hb
theorem ownOff_nil {adr : List Addr} : OwnOff [] adr := fun _ h => nomatch h
end Mine
end

section
open PySem PySem.W PySem.Calls PyProof.Rows
namespace Mine
structure Src where
  x : Addr
  dx : Addr
  d : SD
  t : Tok
def flat (rl : List (Addr × Obj)) : List Src → List (Addr × Obj)
  | [] => rl
  | p :: ps => (p.x, instObj 112 p.dx) :: (p.dx, p.d.obj 0 p.t) :: flat rl ps
theorem len_succ {α : Type} : ∀ {l : List α} {n : Nat}, l.length = n + 1 → ∃ a r, l = a :: r ∧ r.length = n
  | a :: r, _, h => ⟨a, r, rfl, Nat.succ.inj h⟩
theorem src3 {srcs : List Src} {n : Nat} (h : srcs.length = n) (hn : n = 3) : ∃ a b c, srcs = [c, b, a] := by
  obtain ⟨c, r1, rfl, h1⟩ := len_succ (h.trans hn)
  obtain ⟨b, r2, rfl, h2⟩ := len_succ h1
  obtain ⟨a, r3, rfl, h3⟩ := len_succ h2
  exact ⟨a, b, c, by rw [List.eq_nil_of_length_eq_zero h3]⟩
theorem ownOff_add {rl : List (Addr × Obj)} {adr : List Addr} {b : Addr} (h1 : ∀ p ∈ rl, @Ne Nat p.1 b) (h2 : OwnOff rl adr) : OwnOff rl (b :: adr) := fun p hp c hc => by
  rcases List.mem_cons.mp hc with rfl | hc
  · exact h1 p hp
  · exact h2 p hp c hc
theorem flat_cons {rl : List (Addr × Obj)} {srcs : List Src} {x dx : Addr} {d : SD} {t : Tok} : flat rl (⟨x, dx, d, t⟩ :: srcs) = (x, instObj 112 dx) :: (dx, d.obj 0 t) :: flat rl srcs := rfl
theorem map_rev_cons {srcs : List Src} {x dx : Addr} {d : SD} {t : Tok} : ((⟨x, dx, d, t⟩ :: srcs : List Src).map fun p => (Value.ref p.x)).reverse = (srcs.map fun p => Value.ref p.x).reverse ++ [Value.ref x] := by simp
theorem srcObj {g h : Heap} {L x dx ya : Addr} {ox : Obj} {h1 h2 h3 : Int} {k1 k2 k3 t2 t : Tok} {sz : Nat} {rest : List (Addr × Obj)}
    (N : News g L h ((x, ox) :: (dx, dictOf [⟨h1, .str (Str.ofString "numbers") k1, .ref ya⟩, ⟨h2, .str (Str.ofString "many") k2, .int (sz : Int) t2⟩, ⟨h3, .str (Str.ofString "at") k3, .int 0 t⟩] 3) :: rest)) :
    ∃ (d : SD) (t : Tok), d.ra = ya ∧ d.size = sz ∧ News g L h ((x, ox) :: (dx, d.obj 0 t) :: rest) := ⟨⟨ya, h1, h2, h3, k1, k2, k3, t2, sz⟩, t, rfl, rfl, N⟩
end Mine
end

section
open PySem PySem.W PySem.Calls PyProof.Rows
namespace Mine
/-- a frame of any kind of function, put on the stack -/
theorem pushX {A : Around} {base h₀ h : Heap} {outer : List Env} {L : Addr} {m : Str → Option Value} {env : Env} (K : Below A base outer h₀) (F : Fr h₀ L h m) (hf : env.frame = some L) (hk : env.scope.kind = .function) :
    Heap.FunFrames h base (env :: outer) := by
  refine .cons (by rw [hk]; decide) hf F.ns ?_ (K.frames.of_keeps fun b o e _ => ⟨o, F.keep b o e, rfl⟩)
  cases hq : base.get? L with
  | none => rfl
  | some o => exact absurd (Nat.lt_of_lt_of_le (Heap.lt_size (K.stays L o hq)) F.above) (Nat.lt_irrefl _)
theorem memX {env : Env} {L b : Addr} {outer : List Env} (hf : env.frame = some L) (hm : b ∈ (env :: outer).filterMap (·.frame)) : b = L ∨ b ∈ outer.filterMap (·.frame) := by
  rw [List.filterMap_cons, hf] at hm
  exact List.mem_cons.mp hm
section
variable {prog : Program} {w : World} {A : Around} {s : Shared} {base h₀ : Heap} {L : Addr} {m : Str → Option Value} {env : Env} {news : List (Addr × Obj)} {K : Frag} {p : Program} {loose : List Str} {mean : ExcName → Option Value} {mg mb : Str → Option Value}
    {R : Result → Shared → Prop} {name qual : Str} {params : Arguments} {body : List Stmt} {scope : Scope} {dV kV doc pm cdv ct oc : Value} {an od : Option Addr} {osl : Array (Option Value)} {f : Addr} {args : Args} {binds : List (Str × Value)}
/-- a helper that catches, called from a function that has cells -/
theorem code_catch {A₀ : Around} (B : Below A₀ base [] h₀) (F : Fr h₀ L s.heap m) (X₀ : K.In h₀) (N : News h₀ L s.heap news) (T : Top p loose mean mg mb h₀) (hA : A.frames = some [env]) (hf : env.frame = some L) (hke : env.scope.kind = .function)
    (ho : K.lookup f = some ⟨oc, od, .func (fnOf name qual params body scope dV kV doc pm an cdv ct), osl⟩) (hcd : codeIn K cdv qual = true) (hroom : A.depth < recursionLimit)
    (hbind : BindsTo s (fnOf name qual params body scope dV kV doc pm an cdv ct) args binds) (hloc : ∀ y ∈ binds, scope.names.lookup y.1 = some .local)
    (h : ∀ g L' h₁, Fr h₀ L g m → Fr g L' h₁ (fun y => binds.reverse.lookup y) → News g L' h₁ news → Below A base [env] g → K.In g → Top p loose mean mg mb g → KtsDicts ([env].filterMap (·.frame)) g →
      wpAny (model prog w) (A.deeper (envOf qual scope L' f cdv)) (execs body (envOf qual scope L' f cdv))
        (fun fl s' => LeaveS0 ([env].filterMap (·.frame)) h₀ L m g R (match fl with | .ret v => v | _ => .none) s')
        (fun e s' => wpAny (model prog w) (A.deeper (envOf qual scope L' f cdv)) (leaving (envOf qual scope L' f cdv) e) (fun _ s'' => R (.error e) s'') (fun e' s'' => R (.error e') s'') s')
        { s with heap := h₁, toks := s.toks + binds.length })
    (hco : scope.isCoroutine = false) (hgen : scope.isGenerator = false) (hk : scope.kind = .function)
    (hcell : ∀ x ∈ scope.names, x.2 ≠ .cell) : codeAny (model prog w) A (.call (.ref f) args) R s := by
  have X := X₀.keeps F.keep
  have nL₀ : h₀.get? L = none := kts_self F
  have nm : ∀ b o, h₀.get? b = some o → b ∉ news.map (·.1) := fun b o e q => by
    obtain ⟨p, hp, e1⟩ := List.mem_map.mp q
    have e2 := (N p hp).2.2
    rw [e1, e] at e2; cases e2
  have nL : L ∉ news.map (·.1) := fun q => by
    obtain ⟨p, hp, e⟩ := List.mem_map.mp q
    exact (N p hp).2.1 e
  have st : h₀.StaysIn (hideAll s.heap (news.map (·.1))) := fun b o e => hideAll_get _ (F.keep b o e) (nm b o e)
  obtain ⟨oL, es, ep, hL, hLd, hLk, hLf⟩ := F.ns
  have hLg := hideAll_get (news.map (·.1)) hL nL
  have FF : (hideAll s.heap (news.map (·.1))).FunFrames base [env] := ⟨by rw [hke]; decide, ⟨L, oL, hf, (pushX B F hf hke).2.1.elim fun L1 x => x.elim fun o1 y => by
      have e1 : L1 = L := Option.some.inj (y.1.symm.trans hf)
      rw [← e1]; exact y.2.1, hLg, fun vs e => by rw [hLd] at e; cases e⟩, trivial⟩
  refine codeAny_call_def (fd := fnOf name qual params body scope dV kV doc pm an cdv ct) (body := body) (binds := binds) hroom (X _ _ ho) rfl (T.nolimit.keeps F.keep) (codeRec_of X hcd) rfl hbind hcell hloc (fun h₁ hns hk₁ => ?_) hco hgen hk
  refine wpAny_mono (h _ s.heap.objs.size h₁ ⟨⟨oL, es, ep, hLg, hLd, hLk, hLf⟩, st, F.above⟩ ⟨hns, fun b o e => hk₁ b o (of_hideAll _ e), Nat.le_of_eq (hideAll_size _ _)⟩
    (fun p hp => ⟨hk₁ _ _ (N p hp).1, Nat.ne_of_lt (Heap.lt_size (N p hp).1), hideAll_none _ (List.mem_map_of_mem hp)⟩) ⟨hA, fun b o e => st b o (B.stays b o e), FF⟩ (X₀.keeps st) (T.keeps st) (fun b hb => ?_)) (fun fl s' hl => ?_) fun _ _ y => y
  · rcases memX hf hb with e | z
    · rw [e]; exact ⟨oL, es, ep, hLg, hLd⟩
    · cases z
  obtain ⟨g', L', m', news', T', F', N', k⟩ := hl
  obtain ⟨sl, hs⟩ := T'.up hLg
  refine k ⟨⟨_, es, ep, F'.keep _ _ hs, hLd, hLk, hLf⟩, fun b o e => F'.keep b o (T'.other b o (st b o e) (fun q => ?_)), F.above⟩ fun p hp => ⟨(N' p hp).1, fun q => ?_, ?_⟩
  · rcases memX hf q with z | z
    · rw [z, nL₀] at e; cases e
    · cases z
  · have := (N' p hp).2.2; rw [q, hs] at this; cases this
  · cases q : h₀.get? p.1 with
    | none => rfl
    | some o =>
      obtain ⟨sl', hs'⟩ := T'.up (st _ _ q)
      have := (N' p hp).2.2
      rw [hs'] at this
      cases this
end
theorem leave_onSX {M : Model} {A : Around} {E : Value → Shared → Prop} {s' : Shared} {base g g₂ : Heap} {outer : List Env} {L e t : Addr} {m : Str → Option Value} {Q : Unit → Shared → Prop} {news : List (Addr × Obj)} {env : Env} {cls : Value} {vs : List Value}
    (K : Below A base outer g) (F : Fr g L g₂ m) (R : RaisedS base g₂ (env :: outer) e cls t vs news s'.heap) (hsm : g₂.UpToSlots s'.heap) (hf : env.frame = some L)
    (hQ : ∀ h', RaisedS base g outer e cls t vs news h' → RaisedK base outer e cls t vs news h' → g.UpToSlots h' → Q () { s' with heap := h' }) :
    wpAny M (A.deeper env) (leaving env (.ref e)) Q E s' := by
  obtain ⟨⟨B, hB, hBG, hl, hfl, hnew⟩, htup⟩ := R
  refine wpAny_leaves_onW (Around.frames_deeper K.stack) hf hfl fun h' x1 x2 => ?_
  have R : RaisedS base g outer e cls t vs news h' := ⟨⟨B, hB, fun b o q nm => hBG b o (F.keep b o q) (fun hm => (memX hf hm).elim (fun z => by rw [z, kts_self F] at q; cases q) nm), fun q hq => ⟨(hl q hq).1, kts_none F.keep (hl q hq).2.1, (hl q hq).2.2⟩, x1, hnew⟩, htup.of_slots x2⟩
  exact hQ h' R R.toK ((Heap.UpToSlots.of_keeps F.keep).trans (hsm.trans x2))
structure NegMark : Prop where
end Mine
end

section
open PySem PySem.W PySem.Calls PyProof.Rows
namespace Mine
structure TRFrom (rl : List (Addr × Obj)) (ya : Addr) (ys : List Value) (ra : Addr) (wn : Nat) (told : List Nat) : Prop where
  rows : RowsOk rl ys told wn told.length
  ra : ra = ya
theorem TRFrom.tr {rl : List (Addr × Obj)} {ya ra : Addr} {ys : List Value} {wn : Nat} {told : List Nat} (H : TRFrom rl ya ys ra wn told) {g h : Heap} {L : Addr} {news : List (Addr × Obj)} (N : News g L h news) (hya : (ya, LCg.lst ys) ∈ news) (hsub : ∀ p ∈ rl, p ∈ news) : TR h ra wn told ys := by
  rw [H.ra]
  exact H.rows.tr N hsub hya rfl (k := _) rfl
end Mine
end

section
open PySem PySem.W PySem.Calls PyProof.Rows
namespace Mine
structure PosMark : Prop where
/-- the addresses of a ledger lie below one address -/
def LtAll (d : Nat) (l : List (Addr × Obj)) : Prop := ∀ p ∈ l, @LT.lt Nat _ p.1 d
def OffAll (d : Nat) (l : List (Addr × Obj)) : Prop := ∀ p ∈ l, @Ne Nat p.1 d
def OffA (d : Nat) (l : List Nat) : Prop := ∀ a ∈ l, @Ne Nat a d
theorem ltAll_of {d : Addr} {l : List (Addr × Obj)} (h : ∀ p ∈ l, p.1 < d) : LtAll d l := h
theorem offAll_of {g h : Heap} {L a : Addr} {news : List (Addr × Obj)} (N : News g L h news) (hn : h.get? a = none) : OffAll a news := fun p hp e => by
  have h1 := (N p hp).1
  have e2 : p.1 = a := e
  rw [e2, hn] at h1; cases h1
theorem LtAll.ne {d x : Nat} {l : List (Addr × Obj)} {o : Obj} (H : LtAll d l) (h : (x, o) ∈ l) : @Ne Nat x d := Nat.ne_of_lt (H _ h)
theorem LtAll.ne' {d x : Nat} {l : List (Addr × Obj)} {o : Obj} (H : LtAll d l) (h : (x, o) ∈ l) : @Ne Nat d x := (Nat.ne_of_lt (H _ h)).symm
theorem OffAll.ne {d x : Nat} {l : List (Addr × Obj)} {o : Obj} (H : OffAll d l) (h : (x, o) ∈ l) : @Ne Nat x d := H _ h
theorem OffAll.ne' {d x : Nat} {l : List (Addr × Obj)} {o : Obj} (H : OffAll d l) (h : (x, o) ∈ l) : @Ne Nat d x := (H _ h).symm
theorem OffA.ne {d x : Nat} {l : List Nat} (H : OffA d l) (h : x ∈ l) : @Ne Nat x d := H _ h
theorem OffA.ne' {d x : Nat} {l : List Nat} (H : OffA d l) (h : x ∈ l) : @Ne Nat d x := (H _ h).symm
theorem offA_nil {d : Nat} : OffA d [] := fun _ h => nomatch h
theorem offA_cons {d a : Nat} {l : List Nat} (h : @Ne Nat a d) (H : OffA d l) : OffA d (a :: l) := fun b hb => by
  rcases List.mem_cons.mp hb with rfl | hb
  · exact h
  · exact H b hb
theorem LtAll.up {c f : Nat} {l : List (Addr × Obj)} (H : LtAll c l) (h : c < f) : LtAll f l := fun p hp => Nat.lt_trans (H p hp) h
end Mine
end

section
open PySem PySem.W PySem.Calls PyProof.Rows
namespace Mine
theorem llimbs_okI {w : World} {p : Program} {loose : List Str} {mean : ExcName → Option Value} {mg mb : Str → Option Value} {dp un : Nat} {gd : Option (List Code)} {fr : Option (List Env)} {h₀ : Heap} {L : Addr} {m : Str → Option Value} {s : Shared} {Q E : Value → Shared → Prop}
   {z : Int} {wn : Nat} {tn tw : Tok}
   (F : Fr h₀ L s.heap m) (X : (hd.heap_39 w.params).In h₀) (T : Top p loose mean mg mb h₀)
   (hd : dp + 10 < recursionLimit) (hu : un + 100 < cLine)
   (hw1 : 1 ≤ wn) (hw2 : wn ≤ 9) (hz : 0 ≤ z) (hn : z < 2 ^ 200)
   (ret : ∀ r vs' n' h' tk', s.heap.StaysIn h' → s.heap.get? r = none → h'.get? r = some (listOf vs'.toArray n') → IntsAre vs' (limbs wn z.toNat) → Q (.ref r) {s with heap := h', toks := tk'}) :
   wpAny (model PG w) (AA dp un fr gd) (call (.ref 186) [.int z tn, .int (wn : Int) tw]) Q E s := by
  obtain ⟨n, rfl⟩ : ∃ n : Nat, z = n := ⟨z.toNat, by omega⟩
  rw [Int.toNat_natCast] at ret
  exact llimbs_ok F X T hd hu hw1 hw2 (by omega) ret
/-- an enumerate object over a list of the ledger -/
structure EnumAt (h₀ h : Heap) (L e : Addr) (l : Addr) (vs : List Value) (news : List (Addr × Obj)) : Prop where
  at_ : ∃ it, IsEnum h e it 0 .none ∧ h.IsListIter it l 0 ∧ h.IsList l vs.toArray ∧ e ≠ it ∧ l ≠ e ∧ l ≠ it ∧ L ∉ [e, it, l] ∧ h₀.get? e = none ∧ h₀.get? it = none ∧ ∀ p ∈ news, p.1 ∉ [e, it]
section
variable {w : World} {A : Around} {E : Value → Shared → Prop} {s : Shared} {env : Env} {h₀ : Heap} {L : Addr} {m : Str → Option Value} {news : List (Addr × Obj)} {xi xc : Str} {body : List Stmt}
theorem call_enum_led {l : Addr} {vs : List Value} {n : Nat} {Q : Value → Shared → Prop} (F : Fr h₀ L s.heap m) (N : News h₀ L s.heap news) (hl : (l, (listOf vs.toArray n : Obj)) ∈ news)
    (h : ∀ h' e, Fr h₀ L h' m → News h₀ L h' news → EnumAt h₀ h' L e l vs news → Q (.ref e) { s with heap := h' }) :
    wpAny (model PG w) A (call (.type "enumerate") [.ref l]) Q E s := by
  have hls : s.heap.IsList l vs.toArray := ⟨_, (N _ hl).1, rfl, n, rfl⟩
  have hll : l < s.heap.objs.size := Heap.lt_size (N _ hl).1
  have hLs : L < s.heap.objs.size := F.ns.lt
  have hab : h₀.objs.size ≤ L := F.above
  refine call_enumerate_list hls fun h' he hit hsz hk => ?_
  have F' : Fr h₀ L h' m := ⟨F.ns.keeps hk, fun b o e => hk b o (F.keep b o e), F.above⟩
  have N' : News h₀ L h' news := fun p hp => ⟨hk _ _ (N p hp).1, (N p hp).2⟩
  refine h h' _ F' N' ⟨_, he, hit, hls.at fun o e => hk l o e, Nat.succ_ne_self _, Nat.ne_of_lt (Nat.lt_succ_of_lt hll), Nat.ne_of_lt hll, ?_, Heap.get?_none_of_le (Nat.le_trans hab (Nat.le_of_lt (Nat.lt_succ_of_lt hLs))), Heap.get?_none_of_le (Nat.le_trans hab (Nat.le_of_lt hLs)), fun p hp hm => ?_⟩
  · intro hm
    rcases List.mem_cons.mp hm with e | hm
    · exact Nat.ne_of_lt (Nat.lt_succ_of_lt hLs) e
    · rcases List.mem_cons.mp hm with e | hm
      · exact Nat.ne_of_lt hLs e
      · exact (N _ hl).2.1 (List.mem_singleton.mp hm).symm
  · have hp1 : p.1 < s.heap.objs.size := Heap.lt_size (N p hp).1
    rcases List.mem_cons.mp hm with e | hm
    · exact Nat.ne_of_lt (Nat.lt_succ_of_lt hp1) e
    · exact Nat.ne_of_lt hp1 (List.mem_singleton.mp hm)
def EnumTurn {σ : Type} (h₀ : Heap) (L : Addr) (s : Shared) (ps : σ → List (Str × Value)) (P : σ → Prop) (news : List (Addr × Obj)) (f : Flow) (s₂ : Shared) : Prop :=
  f = .next ∧ ∃ (c : σ) (h' : Heap) (tk' : Nat) (m' : Str → Option Value), s₂ = { s with heap := h', toks := tk' } ∧ Fr h₀ L h' m' ∧ News h₀ L h' news ∧ (∀ p ∈ ps c, m' p.1 = some p.2) ∧ P c
theorem my_enum {σ : Type} {e l : Addr} {vs : List Value} {Q : Flow → Shared → Prop} (ps : σ → List (Str × Value)) (P : Nat → σ → Prop) (c₀ : σ)
    (hh : A.handled = none) (D : EnumAt h₀ s.heap env.locals e l vs news)
    (F : Fr h₀ env.locals s.heap m) (N : News h₀ env.locals s.heap news) (hk : ∀ p ∈ ps c₀, m p.1 = some p.2) (hp : P 0 c₀)
    (turn : ∀ (i : Nat) (c : σ) v t (u : Str → Option Value) h tk own, i < vs.length → vs[i]? = some v → P i c →
      Fr h₀ env.locals h (fun y => if y = xc then some v else if y = xi then some (.int i t) else kstB u (ps c) y) → News h₀ env.locals h (own ++ news) →
      wpAny (model PG w) A (execs body env) (EnumTurn h₀ env.locals { s with heap := h, toks := tk } ps (P (i + 1)) (own ++ news)) E { s with heap := h, toks := tk })
    (done : ∀ (c : σ) (u : Str → Option Value) h tk, P vs.length c → Fr h₀ env.locals h (kstB u (ps c)) → News h₀ env.locals h news → Q .next { s with heap := h, toks := tk }) :
    wpAny (model PG w) A (pyIter (.ref e)) (fun it s₂ => PairAt3 PG w A h₀ env xi xc body Q E it s₂) E s := by
  obtain ⟨it, he, hit, hls, hei, hle, hli, hL, hne, hni, hnw⟩ := D.at_
  refine wpAny_pyIter_enum he ?_
  refine ⟨e, [e, it, l], [e, it], vs.toArray.size, _, _, _, (fun i v0 v1 => ∃ t, v0 = .int i t ∧ vs.toArray[i]? = some v1), m, news, (fun i m₁ news₁ => news₁ = news ∧ ∃ c, P i c ∧ ∀ p ∈ ps c, m₁ p.1 = some p.2), rfl, WalksT.enumerate hh e it l hei hle hli vs.toArray, ?_, hL, ?_, hnw, ⟨⟨_, by simpa using he⟩, by simpa using hit, hls⟩, F, N, ⟨rfl, c₀, hp, hk⟩, ?_, ?_⟩
  · rintro i vals ⟨t, x, hx, rfl⟩
    exact ⟨_, _, rfl, t, rfl, hx⟩
  · intro b hb
    rcases List.mem_cons.mp hb with rfl | hb
    · exact hne
    · rw [List.mem_singleton.mp hb]; exact hni
  · rintro i v0 v1 m₁ news₁ s₁ own ⟨h1, tk1, rfl⟩ hi ⟨t, rfl, hx⟩ ⟨rfl, c, hPc, hm⟩ _ _ F₁ N₁
    have e1 : kstB m₁ (ps c) = m₁ := kstB_id hm
    refine wpAny_mono (turn i c v1 t m₁ h1 tk1 own (by simpa using hi) (by simpa using hx) hPc (by rw [e1]; exact F₁) N₁) (fun f s₂ p => ?_) fun _ _ e => e
    obtain ⟨rfl, c', h', tk', m', rfl, F', N', hm', hP'⟩ := p
    exact ⟨rfl, h', tk', m', _, rfl, F', N', rfl, rfl, c', hP', hm'⟩
  · rintro h' tk m' news' F' N' _ ⟨rfl, c, hPc, hm⟩
    refine done c m' h' tk (by simpa using hPc) ?_ N'
    rw [kstB_id hm]; exact F'
end
end Mine
end

section
open PySem PySem.W PySem.Calls PyProof.Rows
namespace Mine
structure EqMark : Prop where
theorem reads_pair {h : Heap} {t r : Addr} {vs : List Value} {n : Nat} {x : Int} {u : Tok} {ns : List Int} (ht : h.get? t = some ({ cls := .type "tuple", data := .seq #[.ref r, .int x u] } : Obj)) (hr : h.get? r = some (listOf vs.toArray n)) (hi : IntsAre vs ns) :
    Reads h (.ref t) (.tuple [.list (ns.map PyData.int), .int x]) [r] :=
  reads_tuple_at ht rfl rfl (ReadsAll.cons (reads_newData ⟨_, hr, rfl, n, rfl⟩ (ke_carried hi)) (ReadsAll.cons (Reads.int _ _) ReadsAll.nil))
theorem pair_shaped (ns : List Int) (x : Int) : SeqAt.shaped (.tuple [.list (ns.map PyData.int), .int x]) = true := by
  simp [SeqAt.shaped, PyData.canLay0, PyData.canLayAll0, PyData.depth, PyData.depthAll, ke_canLayAll0, ke_depthAll]
theorem pair_eqv (ns : List Int) (x : Int) : PyData.eqv (.tuple [.list (ns.map PyData.int), .int x]) (.tuple [.list (ns.map PyData.int), .int x]) = true := by
  simp [PyData.eqv, PyData.eqvAll, ked_eqvAll]
abbrev pairOf (r : Addr) (x : Int) (u : Tok) : Obj := { cls := .type "tuple", data := .seq #[.ref r, .int x u] }
section
variable {w : World} {A : Around} {E : Value → Shared → Prop} {s : Shared} {h₀ : Heap} {L : Addr} {news : List (Addr × Obj)}
theorem ne_pairs {t t' r r' : Addr} {vs vs' : List Value} {n n' : Nat} {x : Int} {u u' : Tok} {ns ns' : List Int} {Q : Value → Shared → Prop}
    (N : News h₀ L s.heap news) (ht : (t, pairOf r x u) ∈ news) (ht' : (t', pairOf r' x u') ∈ news) (hr : (r, (listOf vs.toArray n : Obj)) ∈ news) (hr' : (r', (listOf vs'.toArray n' : Obj)) ∈ news)
    (hi : IntsAre vs ns) (hi' : IntsAre vs' ns') (he : ns = ns') (hu : A.units + 64 < cLine) (h : Q (.bool false) s) :
    wpAny (model PG w) A (compareOp .NotEq (.ref t) (.ref t')) Q E s := by
  subst he
  refine ne_dataH (reads_pair (N _ ht).1 (N _ hr).1 hi) (reads_pair (N _ ht').1 (N _ hr').1 hi') (pair_shaped _ _) (pair_shaped _ _) hu ?_
  rw [pair_eqv]; exact h
theorem three_shaped (n0 n1 n2 : List Int) (x0 x1 x2 : Int) : SeqAt.shaped (.list [.tuple [.list (n0.map PyData.int), .int x0], .tuple [.list (n1.map PyData.int), .int x1], .tuple [.list (n2.map PyData.int), .int x2]]) = true := by
  simp [SeqAt.shaped, PyData.canLay0, PyData.canLayAll0, PyData.depth, PyData.depthAll, ke_canLayAll0, ke_depthAll]
theorem three_eqv (n0 n1 n2 : List Int) (x0 x1 x2 : Int) : PyData.eqv (.list [.tuple [.list (n0.map PyData.int), .int x0], .tuple [.list (n1.map PyData.int), .int x1], .tuple [.list (n2.map PyData.int), .int x2]]) (.list [.tuple [.list (n0.map PyData.int), .int x0], .tuple [.list (n1.map PyData.int), .int x1], .tuple [.list (n2.map PyData.int), .int x2]]) = true := by
  simp [PyData.eqv, PyData.eqvAll, ked_eqvAll]
/-- a record of the law's: a tuple of a list of ints and an int -/
structure RecAt (h : Heap) (q : Addr) (ns : List Int) (x : Int) : Prop where
  reads : ∃ as, Reads h (.ref q) (.tuple [.list (ns.map PyData.int), .int x]) as
theorem RecAt.of {q r : Addr} {vs : List Value} {n : Nat} {x : Int} {u : Tok} {ns : List Int} (N : News h₀ L s.heap news) (hq : (q, pairOf r x u) ∈ news) (hr : (r, (listOf vs.toArray n : Obj)) ∈ news) (hi : IntsAre vs ns) : RecAt s.heap q ns x :=
  ⟨⟨_, reads_pair (N _ hq).1 (N _ hr).1 hi⟩⟩
theorem reads_three {h : Heap} {l q0 q1 q2 : Addr} {k : Nat} {n0 n1 n2 : List Int} {x0 x1 x2 : Int} (hl : h.get? l = some (listOf #[.ref q0, .ref q1, .ref q2] k)) (h0 : RecAt h q0 n0 x0) (h1 : RecAt h q1 n1 x1) (h2 : RecAt h q2 n2 x2) :
    ∃ as, Reads h (.ref l) (.list [.tuple [.list (n0.map PyData.int), .int x0], .tuple [.list (n1.map PyData.int), .int x1], .tuple [.list (n2.map PyData.int), .int x2]]) as := by
  obtain ⟨_, h0⟩ := h0.reads
  obtain ⟨_, h1⟩ := h1.reads
  obtain ⟨_, h2⟩ := h2.reads
  exact ⟨_, reads_list_at hl rfl rfl (ReadsAll.cons h0 (ReadsAll.cons h1 (ReadsAll.cons h2 ReadsAll.nil)))⟩
theorem eq_three {l l' q0 q1 q2 q0' q1' q2' : Addr} {k k' : Nat} {n0 n1 n2 n0' n1' n2' : List Int} {x0 x1 x2 x0' x1' x2' : Int} {Q : Value → Shared → Prop} (N : News h₀ L s.heap news)
    (hl : (l, (listOf #[.ref q0, .ref q1, .ref q2] k : Obj)) ∈ news) (hl' : (l', (listOf #[.ref q0', .ref q1', .ref q2'] k' : Obj)) ∈ news)
    (h0 : RecAt s.heap q0 n0 x0) (h1 : RecAt s.heap q1 n1 x1) (h2 : RecAt s.heap q2 n2 x2) (h0' : RecAt s.heap q0' n0' x0') (h1' : RecAt s.heap q1' n1' x1') (h2' : RecAt s.heap q2' n2' x2')
    (e : (n0 = n0' ∧ x0 = x0') ∧ (n1 = n1' ∧ x1 = x1') ∧ n2 = n2' ∧ x2 = x2') (hu : A.units + 64 < cLine) (h : Q (.bool true) s) :
    wpAny (model PG w) A (compareOp .Eq (.ref l) (.ref l')) Q E s := by
  obtain ⟨⟨rfl, rfl⟩, ⟨rfl, rfl⟩, rfl, rfl⟩ := e
  obtain ⟨_, r1⟩ := reads_three (N _ hl).1 h0 h1 h2
  obtain ⟨_, r2⟩ := reads_three (N _ hl').1 h0' h1' h2'
  refine eq_dataH r1 r2 (three_shaped _ _ _ _ _ _) (three_shaped _ _ _ _ _ _) hu ?_
  rw [three_eqv]; exact h
end
theorem turn_vals {zl : List Nat} {i nc len : Nat} (hP : nc = numK zl i) (hlen : len = zl.getD i 0) :
    (((i : Nat) : Int).fmod 2 = 0 → ((nc : Nat) : Int) * 2 ^ ((len : Nat) : Int).toNat + (2 ^ ((len : Nat) : Int).toNat - 1) = ((numK zl (i + 1) : Nat) : Int)) ∧
    (((i : Nat) : Int).fmod 2 ≠ 0 → ((nc : Nat) : Int) * 2 ^ ((len : Nat) : Int).toNat + 0 = ((numK zl (i + 1) : Nat) : Int)) := by
  have hst6 : numK zl (i + 1) = numS (numK zl i) i (zl.getD i 0) := rfl
  rw [← hP, ← hlen] at hst6
  have eP : ((2:Int) ^ len) = ((2 ^ len : Nat) : Int) := by rw [Int.natCast_pow]; rfl
  have hP1 : 1 ≤ 2 ^ len := Nat.two_pow_pos len
  have ef : ((i : Nat) : Int).fmod 2 = ((i % 2 : Nat) : Int) := fmod_nat i 2
  rw [ef, hst6, Int.toNat_natCast, eP]
  unfold numS
  generalize 2 ^ len = X at *
  constructor
  · intro hm
    rw [if_pos (by omega), Int.natCast_add, Int.natCast_mul]; omega
  · intro hm
    rw [if_neg (by omega), Int.natCast_add, Int.natCast_mul]; omega
theorem turn_bounds {zl : List Nat} {i nc len n : Nat} (hP : nc = numK zl i) (hlen : len = zl.getD i 0) (hs : zl.sum = n) (hn : n ≤ 24) : nc < 2 ^ 64 ∧ len ≤ 24 := by
  have hnl := numK_lt zl i
  have hle := getD_le_sum zl i
  have hs1' := sum_take_le zl i
  rw [← hP] at hnl
  exact ⟨Nat.lt_of_lt_of_le hnl (Nat.pow_le_pow_right (by omega) (by omega)), by omega⟩
end Mine
end

section
open PySem PySem.W PySem.Calls PyProof.Rows
namespace Mine
/-- a cut that hides what follows: behind the statement stands one letter -/
theorem cutR {w : World} {A : Around} {E : Value → Shared → Prop} {s : Shared} {env : Env} {Q : Flow → Shared → Prop} {s1 : Stmt} {rest : List Stmt} (I : (Shared → Prop) → Prop)
    (h1 : ∀ (R : Flow → Shared → Prop) (X : Value → Shared → Prop), I (R .next) → wpAny (model PG w) A (exec s1 env) R X s)
    (h2 : I (fun s' => wpAny (model PG w) A (execs rest env) Q E s')) : wpAny (model PG w) A (execs (s1 :: rest) env) Q E s := by
  refine wpAny_execs_cons ?_
  have h := h1 (fun f s' => match f with | .next => wpAny (model PG w) A (execs rest env) Q E s' | f => Q f s') E h2
  refine wpAny_mono h (fun f s' h => ?_) fun _ _ x => x
  cases f <;> exact h
theorem cutE {w : World} {A : Around} {E : Value → Shared → Prop} {s : Shared} {env : Env} {Q : Flow → Shared → Prop} {s1 : Stmt} {rest : List Stmt} (I : (Shared → Prop) → Prop)
    (h1 : ∀ (R : Flow → Shared → Prop), I (R .next) → wpAny (model PG w) A (exec s1 env) R E s)
    (h2 : I (fun s' => wpAny (model PG w) A (execs rest env) Q E s')) : wpAny (model PG w) A (execs (s1 :: rest) env) Q E s := by
  refine wpAny_execs_cons ?_
  have h := h1 (fun f s' => match f with | .next => wpAny (model PG w) A (execs rest env) Q E s' | f => Q f s') h2
  refine wpAny_mono h (fun f s' h => ?_) fun _ _ x => x
  cases f <;> exact h
end Mine
end

section
open PySem PySem.W PySem.Calls PyProof.Rows
namespace Mine
structure NeMark : Prop where
theorem off3I {I C D : Addr} {l : List (Addr × Obj)} (H : LCg.Off3 I C D l) : OffAll I l := fun p hp => (H.mem p hp).1
theorem off3C {I C D : Addr} {l : List (Addr × Obj)} (H : LCg.Off3 I C D l) : OffAll C l := fun p hp => (H.mem p hp).2.1
theorem off3D {I C D : Addr} {l : List (Addr × Obj)} (H : LCg.Off3 I C D l) : OffAll D l := fun p hp => (H.mem p hp).2.2
theorem offA_all {d : Nat} {l : List (Addr × Obj)} (H : OffAll d l) : OffA d (l.map (·.1)) := fun a ha => by
  obtain ⟨p, hp, rfl⟩ := List.mem_map.mp ha
  exact H p hp
theorem offA_lt {d : Nat} {l : List (Addr × Obj)} (H : LtAll d l) : OffA d (l.map (·.1)) := offA_all fun p hp => Nat.ne_of_lt (H p hp)
/-- a chain of differences, as the library leaves it -/
def ChNe (d : Nat) : List Nat → Prop
  | [] => True
  | [a] => @Ne Nat a d
  | a :: b :: r => (@Ne Nat a d) ∧ ChNe d (b :: r)
def ChLt (d : Nat) : List Nat → Prop
  | [] => True
  | [a] => a < d
  | a :: b :: r => (a < d) ∧ ChLt d (b :: r)
theorem offA_ch {d : Nat} : ∀ {l : List Nat}, ChNe d l → OffA d l
  | [], _ => offA_nil
  | [_], h => offA_cons h offA_nil
  | _ :: _ :: _, h => offA_cons h.1 (offA_ch h.2)
theorem offA_chLt {d : Nat} : ∀ {l : List Nat}, ChLt d l → OffA d l
  | [], _ => offA_nil
  | [_], h => offA_cons (Nat.ne_of_lt h) offA_nil
  | _ :: _ :: _, h => offA_cons (Nat.ne_of_lt h.1) (offA_chLt h.2)
def ChNeT (d : Nat) (R : Prop) : List Nat → Prop
  | [] => R
  | a :: r => (@Ne Nat a d) ∧ ChNeT d R r
theorem offA_chT {d : Nat} {R : Prop} : ∀ {l : List Nat}, ChNeT d R l → OffA d l
  | [], _ => offA_nil
  | _ :: _, h => offA_cons h.1 (offA_chT h.2)
theorem offA_drop2 {d a b : Nat} {l : List Nat} (H : OffA d (a :: b :: l)) : OffA d (a :: l) := fun x hx => by
  rcases List.mem_cons.mp hx with rfl | hx
  · exact H _ (.head _)
  · exact H _ (.tail _ (.tail _ hx))
theorem LtAll.rest {d : Nat} {l r : List (Addr × Obj)} (H : LtAll d l) (h : ∀ p ∈ r, p ∈ l) : ∀ p ∈ r, p.1 ≠ d := fun p hp => Nat.ne_of_lt (H p (h p hp))
theorem OffAll.rest {d : Nat} {l r : List (Addr × Obj)} (H : OffAll d l) (h : ∀ p ∈ r, p ∈ l) : ∀ p ∈ r, p.1 ≠ d := fun p hp => H p (h p hp)
theorem OffA.rest {d : Nat} {l : List Nat} {r : List (Addr × Obj)} (H : OffA d l) (h : ∀ a ∈ r.map (·.1), a ∈ l) : ∀ p ∈ r, p.1 ≠ d := fun p hp => H p.1 (h p.1 (List.mem_map_of_mem hp))
theorem off3_same {I C D : Addr} {l l' : List (Addr × Obj)} (e : l'.map (·.1) = l.map (·.1)) (H : LCg.Off3 I C D l) : LCg.Off3 I C D l' := LCg.Off3.of fun p hp => by
  have h := List.mem_map_of_mem (f := (·.1)) hp
  rw [e] at h
  obtain ⟨q, hq, e2⟩ := List.mem_map.mp h
  rw [← e2]; exact H.mem q hq
theorem sub_ins {α : Type} {a b c x : α} {F r : List α} : ∀ p ∈ a :: b :: c :: (F ++ x :: r), p ∈ x :: a :: b :: c :: (F ++ r) := fun p hp => by
  simp only [List.mem_cons, List.mem_append] at hp ⊢
  rcases hp with h | h | h | h | h | h <;> simp [h]
theorem sub_ins2 {α : Type} {a b c x y : α} {F r : List α} : ∀ p ∈ a :: b :: c :: (F ++ x :: y :: r), p ∈ x :: y :: a :: b :: c :: (F ++ r) := fun p hp => by
  simp only [List.mem_cons, List.mem_append] at hp ⊢
  rcases hp with h | h | h | h | h | h | h <;> simp [h]
theorem off3_ins {I C D : Addr} {x : Addr × Obj} {F r : List (Addr × Obj)} (H : LCg.Off3 I C D (F ++ r)) (hI : @Ne Nat x.1 I) (hC : @Ne Nat x.1 C) (hD : @Ne Nat x.1 D) : LCg.Off3 I C D (F ++ x :: r) := LCg.Off3.of fun p hp => by
  rcases List.mem_append.mp hp with h | h
  · exact H.mem p (List.mem_append_left _ h)
  · rcases List.mem_cons.mp h with rfl | h
    · exact ⟨hI, hC, hD⟩
    · exact H.mem p (List.mem_append_right _ h)
theorem ownOff_consA {p : Addr × Obj} {rl : List (Addr × Obj)} {adr : List Addr} (h1 : OffA p.1 adr) (h2 : OwnOff rl adr) : OwnOff (p :: rl) adr := ownOff_cons (fun b hb e => h1 b hb e.symm) h2
theorem cells_off {L : Nat} (h : 216 < L) : OffA (L + 1) [216] ∧ OffA (L + 1 + 1) [L + 1, 216] ∧ OffA (L + 1 + 1 + 1) [L + 1 + 1, L + 1, 216] ∧ OffA (L + 1 + 1 + 1 + 1) [L + 1 + 1 + 1, L + 1 + 1, L + 1, 216] ∧
    OffA (L + 1 + 1 + 1 + 1 + 1) [L + 1 + 1 + 1 + 1, L + 1 + 1 + 1, L + 1 + 1, L + 1, 216] ∧ OffA (L + 1 + 1 + 1 + 1 + 1 + 1) [L + 1 + 1 + 1 + 1 + 1, L + 1 + 1 + 1 + 1, L + 1 + 1 + 1, L + 1 + 1, L + 1, 216] := by
  refine ⟨?_, ?_, ?_, ?_, ?_, ?_⟩ <;> refine offA_chLt ?_ <;> simp only [ChLt] <;> omega
/-- the sources made so far, the newest first: off the fixed addresses, off each other -/
def OrdA (fx : List Nat) (rl : List (Addr × Obj)) : List Src → Prop
  | [] => True
  | p :: ps => OffA p.dx fx ∧ OffA p.x fx ∧ OffAll p.dx (flat rl ps) ∧ OffAll p.x (flat rl ps) ∧ (@Ne Nat p.dx p.x) ∧ OrdA fx rl ps
theorem OffAll.rl {d : Nat} {a b : Addr × Obj} {r : List (Addr × Obj)} (H : OffAll d (a :: b :: r)) : OffAll d r := fun p hp => H p (.tail _ (.tail _ hp))
theorem OffAll.h1 {d : Nat} {a : Addr × Obj} {r : List (Addr × Obj)} (H : OffAll d (a :: r)) : @Ne Nat a.1 d := H _ (.head _)
theorem OffAll.h2 {d : Nat} {a b : Addr × Obj} {r : List (Addr × Obj)} (H : OffAll d (a :: b :: r)) : @Ne Nat b.1 d := H _ (.tail _ (.head _))
/-- what the law's further way needs of three sources -/
theorem srcs_off {fx : List Nat} {rl : List (Addr × Obj)} {c b a : Src} (H : OrdA fx rl [c, b, a]) :
    OffA a.dx (c.x :: c.dx :: b.x :: b.dx :: a.x :: fx) ∧ OffA b.dx (c.x :: c.dx :: b.x :: a.x :: a.dx :: fx) ∧ OffA c.dx (c.x :: b.x :: b.dx :: a.x :: a.dx :: fx) ∧
    OffA a.x (c.x :: c.dx :: b.x :: b.dx :: a.dx :: fx) ∧ OffA b.x (c.x :: c.dx :: b.dx :: a.x :: a.dx :: fx) ∧ OffA c.x (c.dx :: b.x :: b.dx :: a.x :: a.dx :: fx) ∧
    (∀ p ∈ rl, @Ne Nat p.1 c.dx) ∧ (∀ p ∈ rl, @Ne Nat p.1 b.dx) ∧ (∀ p ∈ rl, @Ne Nat p.1 a.dx) := by
  obtain ⟨c1, c2, c3, c4, c5, b1, b2, b3, b4, b5, a1, a2, a3, a4, a5, _⟩ := H
  dsimp only [flat] at c3 c4 b3 b4 a3 a4
  have k1 := c3.h1; have k2 := c3.h2; have k3 := c3.rl.h1; have k4 := c3.rl.h2
  have l1 := c4.h1; have l2 := c4.h2; have l3 := c4.rl.h1; have l4 := c4.rl.h2
  have m1 := b3.h1; have m2 := b3.h2; have n1 := b4.h1; have n2 := b4.h2
  dsimp only at k1 k2 k3 k4 l1 l2 l3 l4 m1 m2 n1 n2
  refine ⟨offA_cons l4.symm (offA_cons k4.symm (offA_cons n2.symm (offA_cons m2.symm (offA_cons (Ne.symm a5) a1)))), offA_cons l2.symm (offA_cons k2.symm (offA_cons (Ne.symm b5) (offA_cons m1 (offA_cons m2 b1)))), offA_cons (Ne.symm c5) (offA_cons k1 (offA_cons k2 (offA_cons k3 (offA_cons k4 c1)))),
    offA_cons l3.symm (offA_cons k3.symm (offA_cons n1.symm (offA_cons m1.symm (offA_cons a5 a2)))), offA_cons l1.symm (offA_cons k1.symm (offA_cons b5 (offA_cons n1 (offA_cons n2 b2)))), offA_cons c5 (offA_cons l1 (offA_cons l2 (offA_cons l3 (offA_cons l4 c2)))),
    fun p hp => c3.rl.rl p hp, fun p hp => b3.rl p hp, fun p hp => a3 p hp⟩
end Mine
end

section
open PySem PySem.W PySem.Calls PyProof.Rows
namespace Mine
set_option pp.deepTerms false
set_option pp.deepTerms.threshold 2
set_option pp.proofs false
local macro_rules | `(tactic| k_lt $h:ident) => `(tactic| ((with_reducible rename NeMark => pM9); replace $h := ltAll_of $h))
local macro_rules | `(tactic| k_lt2 $h:ident) => `(tactic| ((with_reducible rename NeMark => pM9); replace $h := ltN $h; (have lF := LtAll.up (by assumption) $h)))
local macro_rules | `(tactic| k_ne) => `(tactic| k_extra "ne")
local macro_rules | `(tactic| k_all) => `(tactic| k_extra "all")
local macro_rules | `(tactic| k_mem) => `(tactic| k_extra "at")
local macro_rules | `(tactic| k_memK) => `(tactic| k_extra "at")
theorem fillLW : True := by
  k_with_none
  (k_with "at" => (first | exact Mine.at0 | exact Mine.at1 | exact Mine.at2 | exact Mine.at3 | exact Mine.at4 | exact Mine.at5 | exact Mine.at6 | exact Mine.at7 | exact Mine.at8 | exact Mine.at9 | exact Mine.at10 | exact Mine.at11 | exact Mine.at12 | exact Mine.at13 | exact Mine.at14 | exact Mine.at15 | exact Mine.at16 | exact Mine.at17 | exact Mine.at18 | exact Mine.at19))
  (k_with "ne" => ((with_reducible rename NeMark => pM9); refine neN ?_; (try dsimp only); with_reducible (first | assumption | exact Ne.symm (by assumption) | exact Nat.ne_of_lt (by assumption) | exact Nat.ne_of_gt (by assumption) | exact OffA.ne (by assumption) (by k_extra "at") | exact OffA.ne' (by assumption) (by k_extra "at") | exact LtAll.ne (by assumption) (by k_extra "at") | exact LtAll.ne' (by assumption) (by k_extra "at") | exact OffAll.ne (by assumption) (by k_extra "at") | exact OffAll.ne' (by assumption) (by k_extra "at"))))
  (k_with "all" => ((with_reducible rename NeMark => pM9); first | (with_reducible exact List.forall_mem_nil _) | (with_reducible exact LtAll.rest (by assumption) (by intro p9 h9; (repeat (first | exact h9 | apply List.Mem.tail)); first | done | fail)) | (with_reducible exact OffAll.rest (by assumption) (by intro p9 h9; (repeat (first | exact h9 | apply List.Mem.tail)); first | done | fail)) | exact OffA.rest (by with_reducible assumption) (by intro p9 h9; (repeat (first | exact h9 | apply List.Mem.tail)); first | done | fail) | (with_reducible exact OwnOff.ne (by assumption) (by k_memK)) | (refine' List.forall_mem_cons.mpr ⟨?a, ?b⟩; (case a => k_ne); (case b => k_all))))
  (k_with "pyIter ref" => ((with_reducible show wpAny _ _ (pyIter (Value.ref _)) (fun it s₂ => LoopAtV _ _ _ _ _ _ _ _ _ it s₂) _ _); refine Mine.unhold ?_))
  (k_with "CompSrc" => ((rename CompHold => cH); refine Mine.unhold ?_))
  (k_with "call ref" => (k_here; (with_reducible show wpAny _ _ (call (Value.ref 179) [Value.ref _, Value.int _ _]) _ _ _); (rename Fr _ _ _ _ => cF); (rename News _ _ _ _ => cN); k_dflt (refine' lgot_ok cF ?cX ?cT ?cd ?cu ?cN ?cne ?cl ?ci ?cnl ?cm ?cc0 ?cc ?_; (case cN => exact kst_newsOf cN (by kst_inAny)); (case cX => assumption); (case cT => assumption); (case cl => is_list); (case ci => assumption); (case cne => k_ne); (case cnl => omega); (case cm => first | assumption | omega); (case cc0 => omega); (case cc => omega); (case cd => ((try dsimp only [Around.deeper, Around.in1, Around.depth, Around.units]); first | omega | decide | (simp; omega))); (case cu => ((try dsimp only [Around.deeper, Around.in1, Around.depth, Around.units]); first | omega | decide | (simp; omega))); k_whole); intro v' t0' h' tk' t' k' hv0' hv1' hk' hd'; (obtain ⟨F', N'⟩ := upd_back cF cN (by k_upd) hk' hd'); clear cF cN; (try dsimp only); (revert v' t0' h' tk' t' k' hv0' hv1' hk' hd' F' N'; intros)))
  (k_with "call ref" => (k_here; (with_reducible show wpAny _ _ (call (Value.ref 186) [Value.int _ _, Value.int _ _]) _ _ _); (rename Fr _ _ _ _ => cF); (rename News _ _ _ _ => cN); (rename Top _ _ _ _ _ _ => cT); k_dflt (refine' llimbs_ok cF ?cX cT ?cd ?cu ?cw1 ?cw2 ?cn ?_; (case cw1 => omega); (case cw2 => omega); (case cn => first | assumption | omega); (case cX => assumption); (case cd => ((try dsimp only [Around.deeper, Around.in1, Around.depth, Around.units]); first | omega | decide | (simp; omega))); (case cu => ((try dsimp only [Around.deeper, Around.in1, Around.depth, Around.units]); first | omega | decide | (simp; omega))); k_whole); intro r' vs' n' h' tk' k' f' g' i'; (have F' := fr_up cF k'); (have N' := news_add cF cN k' f' g'); (have o' := news_off cN f'); clear cF cN; (try dsimp only); (revert r' vs' n' h' tk' k' f' g' i' F' N' o'; intros)))
  (k_with "call ref" => (k_here; (rename NegMark => nM); (with_reducible show wpAny _ _ (call (Value.ref 214) _ _) _ _ _); k_dflt (refine wpAny_call ?_; (refine' code_catch ?k1 ?k2 ?k3 ?k4 ?k5 ?kA ?kf ?ke ?k6 ?k7 ?k8 ?k9 ?kB ?_ ?c2 ?c3 ?c4 ?c5; (case kA => exact rfl); (case kf => exact rfl); (case ke => exact rfl); (case k2 => k_asm); (case k1 => k_asm); (case k3 => k_asm); (case k4 => k_asm); (case k5 => k_asm); (case k6 => k_is); (case k7 => k_is); (case k8 => k_room); (case k9 => first | exact binds_K (by k_in) rfl (by k_is) rfl rfl rfl | exact BindsTo.of_eq rfl | fail "kts_go: no rule for these arguments"); (case kB => exact locs rfl); (case c2 => exact rfl); (case c3 => exact rfl); (case c4 => exact rfl); (case c5 => decide); k_whole; intro g' L' h' FG' F' N' B' X' T' D'; (try dsimp only); (try k_lift B'); (try k_fold))); (revert g' L' h' FG' F' N' B' X' T' D'; intros)))
  (k_with "leaving ref" => (k_here; (rename NegMark => nM); (refine' leave_onSX ?k1 ?k2 ?k3 ?k4 ?k5 ?_; (case k3 => assumption); (case k5 => exact rfl); (case k1 => assumption); (case k4 => assumption); (case k2 => assumption); k_whole; intro h' S' R' U'; (try dsimp only at S' R' U' ⊢)); (revert h' S' R' U'; intros)))
  (k_with "binaryOp Mult ref int" => (k_here; (with_reducible show wpAny _ _ (binaryOp Operator.Mult (Value.ref _) (Value.int (4 : Int) _)) _ _ _); (rename NegMark => nM); (rename Fr _ _ _ _ => cF); (rename News _ _ _ _ => cN); refine zeros_mul cF cN (List.Mem.head _) (by decide) (by decide) ?_; intro l' h' F' N' l1; (try k_lt l1); simp only [show (4 : Int).toNat = 4 from rfl, List.replicate] at N'; clear cF cN; (try dsimp only); (revert l' h' F' N' l1; intros)))
  (k_with "call ref" => (k_here; (with_reducible show wpAny _ _ (call (Value.ref 130) [Value.ref _, Value.int _ _, Value.int _ _]) _ _ _); (rename Fr _ _ _ _ => cF); (rename News _ _ _ _ => cN); k_dflt (refine' rbits_ok cF ?cX ?cT ?cd ?cu ?cN ?cR ?ct ?ct2 ?cw1 ?cw2 ?cn ?cs1 ?cs2 ?cTB ?_; (case cN => exact kst_newsOf cN (by kst_inAny)); (case cX => assumption); (case cT => assumption); (case cR => exact TRFrom.tr (by assumption) cN (by k_memK) (by (intro p9 h9; repeat (first | exact h9 | apply List.Mem.tail)))); (case ct => assumption); (case cTB => assumption); (case ct2 => omega); (case cw1 => omega); (case cw2 => omega); (case cn => omega); (case cs1 => omega); (case cs2 => omega); (case cd => ((try dsimp only [Around.deeper, Around.in1, Around.depth, Around.units]); first | omega | decide | (simp; omega))); (case cu => ((try dsimp only [Around.deeper, Around.in1, Around.depth, Around.units]); first | omega | decide | (simp; omega))); k_whole); intro r' vs' n' h' tk' t' hk' hd' hn' hg' hi'; (k_dflt (obtain ⟨F', N0'⟩ := upd_back cF cN (by k_upd) hk' hd')); (have N' := news_cons cF N0' hn' hg'); (have o' := offAll_of cN hn'); clear cF cN N0' hn'; (try dsimp only); (revert r' vs' n' h' tk' t' hk' hd' hg' hi' F' N' o'; intros)))
  (k_with "call ref" => (k_here; (with_reducible show wpAny _ _ (call (Value.ref 158) [Value.ref _, Value.int _ _, Value.int _ _]) _ _ _); (rename Fr _ _ _ _ => cF); (rename News _ _ _ _ => cN); k_dflt (refine' rowl_ok cF ?cX ?cT ?cd ?cu ?cN ?cR ?ct ?ct2 ?cw1 ?cw2 ?cn ?cs1 ?cs2 ?cTB ?_; (case cN => exact kst_newsOf cN (by kst_inAny)); (case cX => assumption); (case cT => assumption); (case cR => exact TRFrom.tr (by assumption) cN (by k_memK) (by (intro p9 h9; repeat (first | exact h9 | apply List.Mem.tail)))); (case ct => assumption); (case cTB => assumption); (case ct2 => omega); (case cw1 => omega); (case cw2 => omega); (case cn => omega); (case cs1 => omega); (case cs2 => omega); (case cd => ((try dsimp only [Around.deeper, Around.in1, Around.depth, Around.units]); first | omega | decide | (simp; omega))); (case cu => ((try dsimp only [Around.deeper, Around.in1, Around.depth, Around.units]); first | omega | decide | (simp; omega))); k_whole); intro r' vs' n' h' tk' t' hk' hd' hn' hg' hi'; (k_dflt (obtain ⟨F', N0'⟩ := upd_back cF cN (by k_upd) hk' hd')); (have N' := news_cons cF N0' hn' hg'); (have o' := offAll_of cN hn'); clear cF cN N0' hn'; (try dsimp only); (revert r' vs' n' h' tk' t' hk' hd' hg' hi' F' N' o'; intros)))
  (k_with "call ref" => (k_here; (with_reducible show wpAny _ _ (call (Value.ref 165) [Value.ref _, Value.int _ _, Value.int _ _]) _ _ _); (rename Fr _ _ _ _ => cF); (rename News _ _ _ _ => cN); k_dflt (refine' rrows_ok cF ?cX ?cT ?cd ?cu ?cN ?cR ?ct ?ct2 ?cw1 ?cw2 ?cn ?cs1 ?cs2 ?cTB ?_; (case cN => exact kst_newsOf cN (by kst_inAny)); (case cX => assumption); (case cT => assumption); (case cR => exact TRFrom.tr (by assumption) cN (by k_memK) (by (intro p9 h9; repeat (first | exact h9 | apply List.Mem.tail)))); (case ct => assumption); (case cTB => assumption); (case ct2 => omega); (case cw1 => omega); (case cw2 => omega); (case cn => omega); (case cs1 => omega); (case cs2 => omega); (case cd => ((try dsimp only [Around.deeper, Around.in1, Around.depth, Around.units]); first | omega | decide | (simp; omega))); (case cu => ((try dsimp only [Around.deeper, Around.in1, Around.depth, Around.units]); first | omega | decide | (simp; omega))); k_whole); intro r' vs' n' h' tk' t' hk' hd' hn' hg' hi'; (k_dflt (obtain ⟨F', N0'⟩ := upd_back cF cN (by k_upd) hk' hd')); (have N' := news_cons cF N0' hn' hg'); (have o' := offAll_of cN hn'); clear cF cN N0' hn'; (try dsimp only); (revert r' vs' n' h' tk' t' hk' hd' hg' hi' F' N' o'; intros)))
  (k_with "call ref" => (k_here; (with_reducible rename PosMark => pM8); (with_reducible show wpAny _ _ (call (Value.ref 172) [Value.int _ _, Value.int _ _]) _ _ _); (rename Fr _ _ _ _ => cF); (rename News _ _ _ _ => cN); (rename Top _ _ _ _ _ _ => cT); k_dflt (refine' ones_ok cF ?cX cT ?cd ?cu ?cw1 ?cw2 ?cn ?_; (case cw1 => omega); (case cw2 => omega); (case cn => omega); (case cX => assumption); (case cd => ((try dsimp only [Around.deeper, Around.in1, Around.depth, Around.units]); first | omega | decide | (simp; omega))); (case cu => ((try dsimp only [Around.deeper, Around.in1, Around.depth, Around.units]); first | omega | decide | (simp; omega))); k_whole); intro r' vs' n' h' tk' k' f' g' i'; (have F' := fr_up cF k'); (have N' := news_add cF cN k' f' g'); (have o' := offAll_of cN f'); clear cF cN; (try dsimp only); (revert r' vs' n' h' tk' k' f' g' i' F' N' o'; intros)))
  (k_with "call ref" => (k_here; (with_reducible rename PosMark => pM8); (with_reducible show wpAny _ _ (call (Value.ref 186) [Value.int _ _, Value.int _ _]) _ _ _); (rename Fr _ _ _ _ => cF); (rename News _ _ _ _ => cN); (rename Top _ _ _ _ _ _ => cT); k_dflt (refine' llimbs_okI cF ?cX cT ?cd ?cu ?cw1 ?cw2 ?cz ?cn ?_; (case cw1 => omega); (case cw2 => omega); (case cz => omega); (case cn => omega); (case cX => assumption); (case cd => ((try dsimp only [Around.deeper, Around.in1, Around.depth, Around.units]); first | omega | decide | (simp; omega))); (case cu => ((try dsimp only [Around.deeper, Around.in1, Around.depth, Around.units]); first | omega | decide | (simp; omega))); k_whole); intro r' vs' n' h' tk' k' f' g' i'; (have F' := fr_up cF k'); (have N' := news_add cF cN k' f' g'); (have o' := offAll_of cN f'); clear cF cN; (try dsimp only); (revert r' vs' n' h' tk' k' f' g' i' F' N' o'; intros)))
  (k_with "call ref" => (k_here; (with_reducible show wpAny _ _ (call (Value.ref 193) [Value.ref _, Value.int _ _]) _ _ _); (rename Fr _ _ _ _ => cF); (rename News _ _ _ _ => cN); k_dflt (refine' lbits_ok (i := 0) cF ?cX ?cT ?cd ?cu ?cN ?cne ?cl ?ci ?ct ?ct2 ?cn ?cs1 ?cs2 ?cTB ?_; (case cN => exact kst_newsOf cN (by kst_inAny)); (case cX => assumption); (case cT => assumption); (case cl => is_list); (case ci => assumption); (case cne => k_ne); (case ct => assumption); (case ct2 => omega); (case cn => omega); (case cs1 => omega); (case cs2 => omega); (case cTB => assumption); (case cd => ((try dsimp only [Around.deeper, Around.in1, Around.depth, Around.units]); first | omega | decide | (simp; omega))); (case cu => ((try dsimp only [Around.deeper, Around.in1, Around.depth, Around.units]); first | omega | decide | (simp; omega))); k_whole); intro v' h' tk' t' k' hk' hd'; (obtain ⟨F', N'⟩ := upd_back cF cN (by k_upd) hk' hd'); clear cF cN; (try dsimp only); (revert v' h' tk' t' k' hk' hd' F' N'; intros)))
  (k_with "call ref" => (k_here; (with_reducible show wpAny _ _ (call (Value.ref 207) [Value.ref _, Value.int _ _]) _ _ _); (rename Fr _ _ _ _ => cF); (rename News _ _ _ _ => cN); k_dflt (refine' lrows_ok (i := 0) cF ?cX ?cT ?cd ?cu ?cN ?cne ?cl ?ci ?ct ?ct2 ?cs1 ?cs2 ?cTB ?cn ?_; (case cN => exact kst_newsOf cN (by kst_inAny)); (case cX => assumption); (case cT => assumption); (case cl => is_list); (case ci => assumption); (case cne => k_ne); (case ct => assumption); (case ct2 => omega); (case cn => omega); (case cs1 => omega); (case cs2 => omega); (case cTB => assumption); (case cd => ((try dsimp only [Around.deeper, Around.in1, Around.depth, Around.units]); first | omega | decide | (simp; omega))); (case cu => ((try dsimp only [Around.deeper, Around.in1, Around.depth, Around.units]); first | omega | decide | (simp; omega))); k_whole); intro r' vs' n' h' tk' t' k' hk' hd' hn' hg' hi'; (k_dflt (obtain ⟨F', N0'⟩ := upd_back cF cN (by k_upd) hk' hd')); (have N' := news_cons cF N0' hn' hg'); (have o' := offAll_of cN hn'); clear cF cN N0' hn'; (try dsimp only); (revert r' vs' n' h' tk' t' k' hk' hd' hg' hi' F' N' o'; intros)))
  (k_with "compareOp NotEq ref ref" => (k_here; (with_reducible rename PosMark => pM9); k_dflt (refine' ne_pairs ?xN ?xa ?xb ?xc ?xd ?xi ?xj ?xe ?xu ?_; (case xN => k_asm); (case xa => k_mem); (case xb => k_mem); (case xc => k_mem); (case xd => k_mem); (case xi => assumption); (case xj => assumption); (case xe => assumption); (case xu => ke_room); k_whole)))
  (k_with "compareOp Eq ref ref" => (k_here; (with_reducible rename EqMark => eM9); refine Mine.unhold ?_))
  (k_with "call type:enumerate" => (k_here; (with_reducible rename PosMark => pM9); (rename Fr _ _ _ _ => cF); (rename News _ _ _ _ => cN); k_dflt (refine' call_enum_led cF cN ?xm ?_; (case xm => k_mem); k_whole); intro h' e' F' N' eD'; clear cF cN; (try dsimp only); (revert h' e' F' N' eD'; intros)))
  (k_with "pyIter ref" => ((rename EnumAt _ _ _ _ _ _ _ => eD9); refine Mine.unhold ?_))
  trivial
set_option maxRecDepth 100000 in
set_option maxHeartbeats 40000000 in
theorem tlaw : PySem.Challenge.rw_rr0056_01.Holds := hd (by
  k_go0
  rename_i w s0 s1 mg mb G Y fa o pm doc ho hg XM V T B TE TW hcd ns hs hlay0 hL1 hr1 hl2 as10 as9 sl0 sv0 as6 hL ra w1 r0 hI hr hc1 hc0 hD h1 tk1 c5 c4 c3 c2 c1 c0 left4 left3 left2 left1 left0 right0 X0 X' T' K' F' N' l0
  have d5 : c5.data = .cell none := left4
  have d4 : c4.data = .cell none := left3
  have d3 : c3.data = .cell none := left2
  have d2 : c2.data = .cell none := left1
  have d1 : c1.data = .cell none := left0
  have d0 : c0.data = .cell none := right0
  clear left4 left3 left2 left1 left0 right0 X0 hcd hD
  obtain ⟨hq1, hq2, hq3, hq4, hq5, hq6⟩ := cells_off l0
  generalize s1.heap.objs.size = LL at *
  generalize hhb : ghostOf s1.heap [(218, 216)] = hb at *
  clear l0
  have hNM0 : NeMark := ⟨⟩
  refine cutR (fun K9 => ∀ h' tk' m' sa sl sv zs t0 o1 k1, Fr hb LL h' m' → News hb LL h' [(sa, sackObj 0 t0 sl 0), (sl, listOf sv.toArray k1), ((LL + 1 + 1 + 1 + 1 + 1 + 1), c5), ((LL + 1 + 1 + 1 + 1 + 1), c4), ((LL + 1 + 1 + 1 + 1), c3), ((LL + 1 + 1 + 1), c2), ((LL + 1 + 1), c1), ((LL + 1), o1), (216, tabObj #[])] → o1.data = .cell (some (.ref sa)) → IntsAre sv zs → zs.length ≤ 12 → OffA sl [(LL + 1 + 1 + 1 + 1 + 1 + 1), (LL + 1 + 1 + 1 + 1 + 1), (LL + 1 + 1 + 1 + 1), (LL + 1 + 1 + 1), (LL + 1 + 1), (LL + 1), 216] → OffA sa [sl, (LL + 1 + 1 + 1 + 1 + 1 + 1), (LL + 1 + 1 + 1 + 1 + 1), (LL + 1 + 1 + 1 + 1), (LL + 1 + 1 + 1), (LL + 1 + 1), (LL + 1), 216] → K9 { heap := h', gens := s1.gens, drawn := s1.drawn, toks := tk', os := s1.os }) ?_ ?_
  · intro R9 X9 hK
    k_steps
    rename_i _ _ _ _ _ _ _ _ _ _ hI8 hL8 slA _ _ ho1 saA _ hl1 _ o1 F2 N2 d1'
    exact hK _ _ _ saA slA ys _ _ o1 _ F2 (kst_newsOf N2 (by kst_inAny)) d1' hI8 (by simp; omega) (offA_ch (l := [(LL + 1 + 1 + 1 + 1 + 1 + 1), (LL + 1 + 1 + 1 + 1 + 1), (LL + 1 + 1 + 1 + 1), (LL + 1 + 1 + 1), (LL + 1 + 1), (LL + 1), 216]) ho1.2) (offA_drop2 (offA_lt hl1))
  intro h2 tk2 m2 sa sl sv zs t0 o1 k1 F2 N2 d1' hzs hzl hsl hsa1
  clear F' N' d0
  refine cutR (fun K9 => ∀ h' tk' m' c t0 o2 o6 k0 wn sz tw ts, Fr hb LL h' m' → News hb LL h' [(sa, sackObj c t0 sl k0), (sl, listOf sv.toArray k1), ((LL + 1 + 1 + 1 + 1 + 1 + 1), o6), ((LL + 1 + 1 + 1 + 1 + 1), c4), ((LL + 1 + 1 + 1 + 1), c3), ((LL + 1 + 1 + 1), c2), ((LL + 1 + 1), o2), ((LL + 1), o1), (216, tabObj #[])] → o2.data = .cell (some (.int ((sz : Nat) : Int) ts)) → o6.data = .cell (some (.int ((wn : Nat) : Int) tw)) → 0 ≤ c → c ≤ 2 → 2 ≤ wn → wn ≤ 9 → 1 ≤ sz → sz ≤ 9 → K9 { heap := h', gens := s1.gens, drawn := s1.drawn, toks := tk', os := s1.os }) ?_ ?_
  · intro R9 X9 hK
    k_steps
    rename_i v1 _ _ _ _ _ hv1 hv2 _ _ v2 _ _ _ _ _ hv3 hv4 _ _ _ _ _ _ _ o6 d6 _ o2 F3 N3 d2'
    have e1 : 2 + v1 = (((2 + v1).toNat : Nat) : Int) := by omega
    have e2 : 1 + v2 = (((1 + v2).toNat : Nat) : Int) := by omega
    rw [e1] at d6
    rw [e2] at d2'
    exact hK _ _ _ _ _ o2 o6 _ ((2 + v1).toNat) ((1 + v2).toNat) _ _ F3 (kst_newsOf N3 (by kst_inAny)) d2' d6 (by omega) (by omega) (by omega) (by omega) (by omega) (by omega)
  intro h3 tk3 m3 cc t3 o2 o6 k3 wn sz tw ts F3 N3 d2' d6 hcc0 hcc1 hw1 hw2 hs1 hs2
  clear F2 N2 d1 d5
  have hCH : CompHold := ⟨⟩
  have h2s : (0:Int) < 2 ^ ((sz : Nat) : Int).toNat := Int.pow_pos (by omega)
  refine cutR (fun K9 => ∀ h' tk' m' c t k ta tvs told, Fr hb LL h' m' → m' (Str.ofString "told") = some (.ref ta) → News hb LL h' ((ta, LCg.lst tvs) :: [(sa, sackObj c t sl k), (sl, listOf sv.toArray k1), ((LL + 1 + 1 + 1 + 1 + 1 + 1), o6), ((LL + 1 + 1 + 1 + 1 + 1), c4), ((LL + 1 + 1 + 1 + 1), c3), ((LL + 1 + 1 + 1), c2), ((LL + 1 + 1), o2), ((LL + 1), o1), (216, tabObj #[])]) → 0 ≤ c → c ≤ 10 → IntsAre tvs (castL told) → 1 ≤ told.length → told.length ≤ 5 → TB told sz → OffA ta [sa, sl, (LL + 1 + 1 + 1 + 1 + 1 + 1), (LL + 1 + 1 + 1 + 1 + 1), (LL + 1 + 1 + 1 + 1), (LL + 1 + 1 + 1), (LL + 1 + 1), (LL + 1), 216] → K9 { heap := h', gens := s1.gens, drawn := s1.drawn, toks := tk', os := s1.os }) ?_ ?_
  · intro R9 X9 hK
    k_steps
    apply Hold.mk
    rename IsRange _ _ _ _ _ _ _ _ => rg; rename Fr _ _ _ _ => F4; rename News _ _ _ _ => N4
    rename_i v5 _ _ _ _ _ hv1 hv2 _ _ _ _ _ _ _ _
    refine LCg.CompSrc.range rfl F4 N4 rg (small_one (by omega) (by omega) (by omega) (by omega)) (rangeSize_nat _ _) (by rw [PySem.sizeLine_eq]; omega) ?_
    intro g
    refine comp_inv (fun i ys nw => ∃ c t k zs2, nw = [(sa, sackObj c t sl k), (sl, listOf sv.toArray k1), ((LL + 1 + 1 + 1 + 1 + 1 + 1), o6), ((LL + 1 + 1 + 1 + 1 + 1), c4), ((LL + 1 + 1 + 1 + 1), c3), ((LL + 1 + 1 + 1), c2), ((LL + 1 + 1), o2), ((LL + 1), o1), (216, tabObj #[])] ∧ 0 ≤ c ∧ c ≤ 3 + i ∧ IntsAre ys (castL zs2) ∧ zs2.length = i ∧ TB zs2 sz) ⟨_, _, _, [], rfl, by omega, by omega, IntsAre.nil, rfl, fun _ h => (nomatch h)⟩ ?_ ?_
    · rintro i v I oI C oC D m₂ ys nw h tk E' hi ⟨t, rfl⟩ ⟨c, t', k', zs2, rfl, hJ1, hJ2, hJ3, hJ4, hJ5⟩ hC hx F5 N5 off ⟨nIC, nID, nCD⟩
      clear F4 N4 rg hK
      have oIa := off3I off; have oCa := off3C off; have oDa := off3D off
      refine hideQ ?_
      intro R8 hR
      k_steps
      rename_i v6 _ _ _ _ _ hv3 hv4 _ _ F6 N6
      have e2 : ((sz : Int)).toNat = sz := Int.toNat_natCast _
      have eB : (2 : Int) ^ sz = ((2 ^ sz : Nat) : Int) := by push_cast; rfl
      rw [e2, eB] at hv4
      have e6 : v6 = ((v6.toNat : Nat) : Int) := by omega
      rw [e6]
      refine hR _ _ (LCg.CompEnd.intro F6 N6 _ (fun _ h => h) (off3_same rfl off) trivial (Hold.mk ⟨_, _, _, zs2 ++ [v6.toNat], rfl, by omega, by omega, ?_, by rw [List.length_append, List.length_singleton, hJ4], ?_⟩))
      · rw [castL_append]
        exact IntsAre.append hJ3 (.cons _ _ .nil)
      · intro z hz
        rcases List.mem_append.mp hz with hz | hz
        · exact hJ5 z hz
        · rw [List.mem_singleton.mp hz]; omega
    · rintro ys nw ⟨c, t', k', zs2, rfl, hJ1, hJ2, hJ3, hJ4, hJ5⟩
      k_steps
      rename_i taA _ _ F6 N6 ho6
      exact hK _ _ _ c _ _ taA ys zs2 F6 (by rfl) (kst_newsOf N6 (by kst_inAny)) hJ1 (by omega) hJ3 (by omega) (by omega) hJ5 (offA_ch (l := [sa, sl, (LL + 1 + 1 + 1 + 1 + 1 + 1), (LL + 1 + 1 + 1 + 1 + 1), (LL + 1 + 1 + 1 + 1), (LL + 1 + 1 + 1), (LL + 1 + 1), (LL + 1), 216]) ho6)
  intro h4 tk4 m4 c4' t4 k4 ta tvs told F4 hm4 N4 hc40 hc41 htv ht1 ht2 hTB hta1
  clear F3 N3 h2s
  rw [← kstB_id (m := m4) (ps := [(Str.ofString "told", .ref ta)]) (by intro p hp; rw [List.mem_singleton.mp hp]; exact hm4)] at F4
  dsimp only [kstB] at F4
  have htd : ∀ j, told.getD j 0 < 2 ^ 200 := fun j => Nat.lt_of_lt_of_le (tb_getD hTB j) (Nat.pow_le_pow_right (by decide) (by omega))
  refine cutR (fun K9 => ∀ h' tk' m' rl ya ys o3 o4 tn nI, Fr hb LL h' m' → m' (Str.ofString "told") = some (.ref ta) → News hb LL h' ((ya, LCg.lst ys) :: (ta, LCg.lst tvs) :: ((LL + 1 + 1 + 1 + 1 + 1 + 1), o6) :: ((LL + 1 + 1 + 1 + 1 + 1), c4) :: ((LL + 1 + 1 + 1 + 1), o3) :: ((LL + 1 + 1 + 1), o4) :: ((LL + 1 + 1), o2) :: ((LL + 1), o1) :: (216, tabObj #[]) :: rl) → o3.data = .cell (some (.int nI tn)) → o4.data = .cell (some (.ref ya)) → -3 ≤ nI → nI ≤ 24 → RowsOk rl ys told wn told.length → OwnOff rl [(LL + 1 + 1 + 1 + 1 + 1 + 1), (LL + 1 + 1 + 1 + 1 + 1), (LL + 1 + 1 + 1 + 1), (LL + 1 + 1 + 1), (LL + 1 + 1), (LL + 1), 216] → OffA ya [ta, sa, sl, (LL + 1 + 1 + 1 + 1 + 1 + 1), (LL + 1 + 1 + 1 + 1 + 1), (LL + 1 + 1 + 1 + 1), (LL + 1 + 1 + 1), (LL + 1 + 1), (LL + 1), 216] → K9 { heap := h', gens := s1.gens, drawn := s1.drawn, toks := tk', os := s1.os }) ?_ ?_
  · intro R9 X9 hK
    k_steps
    apply Hold.mk
    rename Fr _ _ _ _ => F5; rename News _ _ _ _ => N5
    rename_i v7 _ _ _ tz kz hv5 hv6 _ _
    have hlt9 := IntsAre.length htv
    rw [castL_len] at hlt9
    refine LCg.CompSrc.ledger rfl F5 N5 (List.Mem.head _) (by rw [List.size_toArray, PySem.sizeLine_eq]; omega) ?_
    intro g
    refine comp_inv (fun i ys nw => ∃ rl, nw = (ta, LCg.lst tvs) :: (sa, sackObj (c4' + 1) tz sl kz) :: (sl, listOf sv.toArray k1) :: ((LL + 1 + 1 + 1 + 1 + 1 + 1), o6) :: ((LL + 1 + 1 + 1 + 1 + 1), c4) :: ((LL + 1 + 1 + 1 + 1), c3) :: ((LL + 1 + 1 + 1), c2) :: ((LL + 1 + 1), o2) :: ((LL + 1), o1) :: (216, tabObj #[]) :: rl ∧ RowsOk rl ys told wn i ∧ OwnOff rl [(LL + 1 + 1 + 1 + 1 + 1 + 1), (LL + 1 + 1 + 1 + 1 + 1), (LL + 1 + 1 + 1 + 1), (LL + 1 + 1 + 1), (LL + 1 + 1), (LL + 1), 216]) ⟨[], rfl, RowsOk.zero, ownOff_nil⟩ ?_ ?_
    · rintro i v I oI C oC D m₂ ys nw h tk E' hi hv ⟨rl, rfl, hR1, hR2⟩ hC hx F6 N6 off ⟨nIC, nID, nCD⟩
      obtain ⟨hi3, t, rfl⟩ := ints_at htv (by simpa using hv)
      rw [getD_castL] at hx
      have oIa := off3I off; have oCa := off3C off; have oDa := off3D off
      have hti := htd i
      clear F5 N5 hK
      refine hideQ ?_
      intro R8 hR
      k_steps
      rename_i r7 vs7 n7 _ _ _ _ _ i7 F7 N7 o7
      have o8 : OffAll r7 _ := o7
      refine hR _ _ (LCg.CompEnd.intro F7 N7 ((ta, LCg.lst tvs) :: (sa, sackObj (c4' + 1) tz sl kz) :: (sl, listOf sv.toArray k1) :: ((LL + 1 + 1 + 1 + 1 + 1 + 1), o6) :: ((LL + 1 + 1 + 1 + 1 + 1), c4) :: ((LL + 1 + 1 + 1 + 1), c3) :: ((LL + 1 + 1 + 1), c2) :: ((LL + 1 + 1), o2) :: ((LL + 1), o1) :: (216, tabObj #[]) :: (r7, listOf vs7.toArray n7) :: rl) (sub_ins (F := [(ta, LCg.lst tvs), (sa, sackObj (c4' + 1) tz sl kz), (sl, listOf sv.toArray k1), ((LL + 1 + 1 + 1 + 1 + 1 + 1), o6), ((LL + 1 + 1 + 1 + 1 + 1), c4), ((LL + 1 + 1 + 1 + 1), c3), ((LL + 1 + 1 + 1), c2), ((LL + 1 + 1), o2), ((LL + 1), o1), (216, tabObj #[])])) (off3_ins (F := [(ta, LCg.lst tvs), (sa, sackObj (c4' + 1) tz sl kz), (sl, listOf sv.toArray k1), ((LL + 1 + 1 + 1 + 1 + 1 + 1), o6), ((LL + 1 + 1 + 1 + 1 + 1), c4), ((LL + 1 + 1 + 1 + 1), c3), ((LL + 1 + 1 + 1), c2), ((LL + 1 + 1), o2), ((LL + 1), o1), (216, tabObj #[])]) off (Ne.symm (o8 _ at0)) (Ne.symm (o8 _ at1)) (Ne.symm (o8 _ at2))) (.inr ⟨_, List.Mem.head _, rfl, _, rfl⟩) (Hold.mk ⟨_, rfl, hR1.snoc i7, ownOff_consA (by repeat (first | exact offA_nil | refine offA_cons (by k_ne) ?_)) hR2⟩))
    · rintro ys nw ⟨rl, rfl, hR1, hR2⟩
      clear F5 N5
      k_steps
      rename_i ya _ _ ho8 _ _ _ _ _ oA dA _ oB F7 N7 dB
      refine hK _ _ _ rl ya ys oA oB _ (v7 - 3) F7 (by rfl) (kst_newsOf N7 (by kst_inAny)) dA dB (by omega) (by omega) ?_ hR2 (offA_chT (l := [ta, sa, sl, (LL + 1 + 1 + 1 + 1 + 1 + 1), (LL + 1 + 1 + 1 + 1 + 1), (LL + 1 + 1 + 1 + 1), (LL + 1 + 1 + 1), (LL + 1 + 1), (LL + 1), 216]) ho8)
      rw [List.size_toArray, hlt9] at hR1
      exact hR1
  intro h5 tk5 m5 rl ya ys o3 o4 tn nI F5 hm5 N5 d3' d4' hn1 hn2 hRo hRl hya1
  clear F4 N4 hm4 d1' d2 d3
  rw [← kstB_id (m := m5) (ps := [(Str.ofString "told", .ref ta)]) (by intro p hp; rw [List.mem_singleton.mp hp]; exact hm5)] at F5
  dsimp only [kstB] at F5
  have hysl := hRo.len
  have hysz : ys.toArray.size = told.length := by rw [List.size_toArray, hysl]
  refine cutR (fun K9 => ∀ h' tk' m' o5 sA xa dxa, ∀ da : SD, ∀ tta xb dxb, ∀ db : SD, ∀ ttb xc dxc, ∀ dc : SD, ∀ ttc, Fr hb LL h' m' → m' (Str.ofString "told") = some (.ref ta) → News hb LL h' ((sA, LCg.lst [.ref xa, .ref xb, .ref xc]) :: (ya, LCg.lst ys) :: (ta, LCg.lst tvs) :: ((LL + 1 + 1 + 1 + 1 + 1 + 1), o6) :: ((LL + 1 + 1 + 1 + 1 + 1), o5) :: ((LL + 1 + 1 + 1 + 1), o3) :: ((LL + 1 + 1 + 1), o4) :: ((LL + 1 + 1), o2) :: ((LL + 1), o1) :: (216, tabObj #[]) :: (xc, instObj 112 dxc) :: (dxc, dc.obj 0 ttc) :: (xb, instObj 112 dxb) :: (dxb, db.obj 0 ttb) :: (xa, instObj 112 dxa) :: (dxa, da.obj 0 tta) :: rl) → o5.data = .cell (some (.ref sA)) → da.ra = ya → da.size = sz → db.ra = ya → db.size = sz → dc.ra = ya → dc.size = sz →
      OffA dxa (xc :: dxc :: xb :: dxb :: xa :: [ya, ta, (LL + 1 + 1 + 1 + 1 + 1 + 1), (LL + 1 + 1 + 1 + 1 + 1), (LL + 1 + 1 + 1 + 1), (LL + 1 + 1 + 1), (LL + 1 + 1), (LL + 1), 216]) → OffA dxb (xc :: dxc :: xb :: xa :: dxa :: [ya, ta, (LL + 1 + 1 + 1 + 1 + 1 + 1), (LL + 1 + 1 + 1 + 1 + 1), (LL + 1 + 1 + 1 + 1), (LL + 1 + 1 + 1), (LL + 1 + 1), (LL + 1), 216]) → OffA dxc (xc :: xb :: dxb :: xa :: dxa :: [ya, ta, (LL + 1 + 1 + 1 + 1 + 1 + 1), (LL + 1 + 1 + 1 + 1 + 1), (LL + 1 + 1 + 1 + 1), (LL + 1 + 1 + 1), (LL + 1 + 1), (LL + 1), 216]) → OffA xa (xc :: dxc :: xb :: dxb :: dxa :: [ya, ta, (LL + 1 + 1 + 1 + 1 + 1 + 1), (LL + 1 + 1 + 1 + 1 + 1), (LL + 1 + 1 + 1 + 1), (LL + 1 + 1 + 1), (LL + 1 + 1), (LL + 1), 216]) → OffA xb (xc :: dxc :: dxb :: xa :: dxa :: [ya, ta, (LL + 1 + 1 + 1 + 1 + 1 + 1), (LL + 1 + 1 + 1 + 1 + 1), (LL + 1 + 1 + 1 + 1), (LL + 1 + 1 + 1), (LL + 1 + 1), (LL + 1), 216]) → OffA xc (dxc :: xb :: dxb :: xa :: dxa :: [ya, ta, (LL + 1 + 1 + 1 + 1 + 1 + 1), (LL + 1 + 1 + 1 + 1 + 1), (LL + 1 + 1 + 1 + 1), (LL + 1 + 1 + 1), (LL + 1 + 1), (LL + 1), 216]) →
      OwnOff rl [dxc, dxb, dxa, (LL + 1 + 1 + 1 + 1 + 1 + 1), (LL + 1 + 1 + 1 + 1 + 1), (LL + 1 + 1 + 1 + 1), (LL + 1 + 1 + 1), (LL + 1 + 1), (LL + 1), 216] → OffA sA [ya, ta, (LL + 1 + 1 + 1 + 1 + 1 + 1), (LL + 1 + 1 + 1 + 1 + 1), (LL + 1 + 1 + 1 + 1), (LL + 1 + 1 + 1), (LL + 1 + 1), (LL + 1), 216, xc, dxc, xb, dxb, xa, dxa] → K9 { heap := h', gens := s1.gens, drawn := s1.drawn, toks := tk', os := s1.os }) ?_ ?_
  · intro R9 X9 hK
    k_steps
    apply Hold.mk
    rename IsRange _ _ _ _ _ _ _ _ => rg; rename Fr _ _ _ _ => F6; rename News _ _ _ _ => N6
    refine LCg.CompSrc.range rfl F6 N6 rg (by decide) (rangeSize_nat _ _) (by rw [PySem.sizeLine_eq]; decide) ?_
    intro g
    refine comp_inv (fun i ys2 nw => ∃ rl2 srcs, nw = (ya, LCg.lst ys) :: (ta, LCg.lst tvs) :: ((LL + 1 + 1 + 1 + 1 + 1 + 1), o6) :: ((LL + 1 + 1 + 1 + 1 + 1), c4) :: ((LL + 1 + 1 + 1 + 1), o3) :: ((LL + 1 + 1 + 1), o4) :: ((LL + 1 + 1), o2) :: ((LL + 1), o1) :: (216, tabObj #[]) :: rl2 ∧ rl2 = flat rl srcs ∧ srcs.length = i ∧ ys2 = (srcs.map fun p => Value.ref p.x).reverse ∧ (∀ p ∈ srcs, p.d.ra = ya ∧ p.d.size = sz) ∧ OrdA [ya, ta, (LL + 1 + 1 + 1 + 1 + 1 + 1), (LL + 1 + 1 + 1 + 1 + 1), (LL + 1 + 1 + 1 + 1), (LL + 1 + 1 + 1), (LL + 1 + 1), (LL + 1), 216] rl srcs ∧ OwnOff rl2 [(LL + 1 + 1 + 1 + 1 + 1 + 1), (LL + 1 + 1 + 1 + 1 + 1), (LL + 1 + 1 + 1 + 1), (LL + 1 + 1 + 1), (LL + 1 + 1), (LL + 1), 216]) ⟨rl, [], rfl, rfl, rfl, rfl, fun _ h => (nomatch h), trivial, hRl⟩ ?_ ?_
    · rintro i v I oI C oC D m₂ ys2 nw h tk E' hi ⟨t, rfl⟩ ⟨rl2, srcs, rfl, hS1, hS2, hS3, hS4, hS5, hS6⟩ hC hx F7 N7 off ⟨nIC, nID, nCD⟩
      have oIa := off3I off; have oCa := off3C off; have oDa := off3D off
      clear F6 N6 rg hK
      refine hideQ ?_
      intro R8 hR
      k_steps
      all_goals first
        | (exfalso; omega)
        | skip
      rename_i x5 dx5 _ _ _ l1 l2 lF _ _ _ _ _ _ _ _ _ _ _ _ _ _ F8 N8 _ _
      obtain ⟨d5, t5, ed1, ed2, N8⟩ := srcObj N8
      have y1 : OffAll dx5 rl2 := fun p9 h9 => Nat.ne_of_lt (l1 p9 (by repeat (first | exact h9 | apply List.Mem.tail)))
      have y2 : OffAll x5 rl2 := fun p9 h9 => Nat.ne_of_lt (lF p9 (by repeat (first | exact h9 | apply List.Mem.tail)))
      refine hR _ _ (LCg.CompEnd.intro F8 N8 ((ya, LCg.lst ys) :: (ta, LCg.lst tvs) :: ((LL + 1 + 1 + 1 + 1 + 1 + 1), o6) :: ((LL + 1 + 1 + 1 + 1 + 1), c4) :: ((LL + 1 + 1 + 1 + 1), o3) :: ((LL + 1 + 1 + 1), o4) :: ((LL + 1 + 1), o2) :: ((LL + 1), o1) :: (216, tabObj #[]) :: (x5, instObj 112 dx5) :: (dx5, d5.obj 0 t5) :: rl2) (sub_ins2 (F := [(ya, LCg.lst ys), (ta, LCg.lst tvs), ((LL + 1 + 1 + 1 + 1 + 1 + 1), o6), ((LL + 1 + 1 + 1 + 1 + 1), c4), ((LL + 1 + 1 + 1 + 1), o3), ((LL + 1 + 1 + 1), o4), ((LL + 1 + 1), o2), ((LL + 1), o1), (216, tabObj #[])])) (off3_ins (F := [(ya, LCg.lst ys), (ta, LCg.lst tvs), ((LL + 1 + 1 + 1 + 1 + 1 + 1), o6), ((LL + 1 + 1 + 1 + 1 + 1), c4), ((LL + 1 + 1 + 1 + 1), o3), ((LL + 1 + 1 + 1), o4), ((LL + 1 + 1), o2), ((LL + 1), o1), (216, tabObj #[])]) (off3_ins (F := [(ya, LCg.lst ys), (ta, LCg.lst tvs), ((LL + 1 + 1 + 1 + 1 + 1 + 1), o6), ((LL + 1 + 1 + 1 + 1 + 1), c4), ((LL + 1 + 1 + 1 + 1), o3), ((LL + 1 + 1 + 1), o4), ((LL + 1 + 1), o2), ((LL + 1), o1), (216, tabObj #[])]) off (by k_ne) (by k_ne) (by k_ne)) (by k_ne) (by k_ne) (by k_ne)) trivial (Hold.mk ⟨_, ⟨x5, dx5, d5, t5⟩ :: srcs, rfl, by rw [flat_cons, ← hS1], by rw [List.length_cons, hS2], by rw [map_rev_cons, ← hS3], ?_, ⟨(by repeat (first | exact offA_nil | refine offA_cons (by k_ne) ?_)), (by repeat (first | exact offA_nil | refine offA_cons (by k_ne) ?_)), hS1 ▸ y1, hS1 ▸ y2, Nat.ne_of_lt l2, hS5⟩, ownOff_consA (by repeat (first | exact offA_nil | refine offA_cons (by k_ne) ?_)) (ownOff_consA (by repeat (first | exact offA_nil | refine offA_cons (by k_ne) ?_)) hS6)⟩))
      intro p hp
      rcases List.mem_cons.mp hp with rfl | hp
      · exact ⟨ed1, ed2⟩
      · exact hS4 p hp
    · rintro ys2 nw ⟨rl2, srcs, rfl, hS1, hS2, hS3, hS4, hS5, hS6⟩
      obtain ⟨pa, pb, pc, rfl⟩ := src3 hS2 rfl
      obtain ⟨xa, dxa, da, tta⟩ := pa
      obtain ⟨xb, dxb, db, ttb⟩ := pb
      obtain ⟨xc, dxc, dc, ttc⟩ := pc
      have ea := hS4 _ (.tail _ (.tail _ (.head _)))
      have eb := hS4 _ (.tail _ (.head _))
      have ec := hS4 _ (.head _)
      obtain ⟨g1, g2, g3, g4, g5, g6, g7, g8, g9⟩ := srcs_off hS5
      have hO5 := ownOff_add g7 (ownOff_add g8 (ownOff_add g9 hRl))
      dsimp only at ea eb ec g1 g2 g3 g4 g5 g6 hO5
      dsimp only [List.map, List.reverse, List.reverseAux] at hS3
      dsimp only [flat] at hS1
      subst hS1 hS3
      clear F6 N6 rg hS6 hRl hS2 hS4 hS5 g7 g8 g9
      k_steps
      rename_i sA _ _ hsA _ o5 F7 N7 d5'
      exact hK _ _ _ o5 sA xa dxa da tta xb dxb db ttb xc dxc dc ttc F7 (by rfl) N7 d5' ea.1 ea.2 eb.1 eb.2 ec.1 ec.2 g1 g2 g3 g4 g5 g6 hO5 (offA_chT (l := [ya, ta, (LL + 1 + 1 + 1 + 1 + 1 + 1), (LL + 1 + 1 + 1 + 1 + 1), (LL + 1 + 1 + 1 + 1), (LL + 1 + 1 + 1), (LL + 1 + 1), (LL + 1), 216, xc, dxc, xb, dxb, xa, dxa]) hsA)
  intro h6 tk6 m6 o5 sA xa dxa da tta xb dxb db ttb xc dxc dc ttc F6 hm6 N6 d5' era esa erb esb erc esc hx1 hx2 hx3 hx4 hx5 hx6 hO5 hsA
  clear F5 N5 hm5 d4 hRl hCH
  rw [← kstB_id (m := m6) (ps := [(Str.ofString "told", .ref ta)]) (by intro p hp; rw [List.mem_singleton.mp hp]; exact hm6)] at F6
  dsimp only [kstB] at F6
  have hN6 : News hb LL h6 ((sA, LCg.lst [.ref xa, .ref xb, .ref xc]) :: (ya, LCg.lst ys) :: (ta, LCg.lst tvs) :: ((LL + 1 + 1 + 1 + 1 + 1 + 1), o6) :: ((LL + 1 + 1 + 1 + 1 + 1), o5) :: ((LL + 1 + 1 + 1 + 1), o3) :: ((LL + 1 + 1), o2) :: (216, tabObj #[]) :: (xc, instObj 112 dxc) :: (dxc, dc.obj 0 ttc) :: (xb, instObj 112 dxb) :: (dxb, db.obj 0 ttb) :: (xa, instObj 112 dxa) :: (dxa, da.obj 0 tta) :: rl) := kst_newsOf N6 (by kst_inAny)
  have hO0 : OffA 216 [sA, ya, ta, (LL + 1 + 1 + 1 + 1 + 1 + 1), (LL + 1 + 1 + 1 + 1 + 1), (LL + 1 + 1 + 1 + 1), (LL + 1 + 1), xc, dxc, xb, dxb, xa, dxa] := (by repeat (first | exact offA_nil | refine offA_cons (by k_ne) ?_))
  have hO1 : OffA dxa [sA, ya, ta, (LL + 1 + 1 + 1 + 1 + 1 + 1), (LL + 1 + 1 + 1 + 1 + 1), (LL + 1 + 1 + 1 + 1), (LL + 1 + 1), 216, xc, dxc, xb, dxb, xa] := (by repeat (first | exact offA_nil | refine offA_cons (by k_ne) ?_))
  have hO2 : OffA dxb [sA, ya, ta, (LL + 1 + 1 + 1 + 1 + 1 + 1), (LL + 1 + 1 + 1 + 1 + 1), (LL + 1 + 1 + 1 + 1), (LL + 1 + 1), 216, xc, dxc, xb, xa, dxa] := (by repeat (first | exact offA_nil | refine offA_cons (by k_ne) ?_))
  have hO3 : OffA dxc [sA, ya, ta, (LL + 1 + 1 + 1 + 1 + 1 + 1), (LL + 1 + 1 + 1 + 1 + 1), (LL + 1 + 1 + 1 + 1), (LL + 1 + 1), 216, xc, xb, dxb, xa, dxa] := (by repeat (first | exact offA_nil | refine offA_cons (by k_ne) ?_))
  clear N6 hsl hsa1 hta1 hya1 hsA hx1 hx2 hx3 hx4 hx5 hx6 hq1 hq2 hq3 hq4 hq5 hq6
  have hPM : PosMark := ⟨⟩
  by_cases hneg : nI < 0
  · have hNM : NegMark := ⟨⟩
    refine cutR (fun K9 => ∀ h' tk' m' fl kf q0 u0 p0, Fr hb LL h' m' → m' (Str.ofString "found") = some (.ref fl) → News hb LL h' ((fl, listOf #[.ref q0] kf) :: (q0, ({ cls := .type "tuple", data := .seq #[.none, .int ((0 : Nat) : Int) u0] } : Obj)) :: (sA, LCg.lst [.ref xa, .ref xb, .ref xc]) :: (LL + 1 + 1 + 1 + 1 + 1 + 1, o6) :: (LL + 1 + 1 + 1 + 1 + 1, o5) :: (LL + 1 + 1 + 1 + 1, o3) :: (LL + 1 + 1, o2) :: (216, tabObj (#[] ++ #[rawInt ((174 : Nat) : Int), rawInt ((36 : Nat) : Int), .ref p0])) :: (xc, instObj 112 dxc) :: (dxc, dc.obj 0 ttc) :: (xb, instObj 112 dxb) :: (dxb, db.obj 0 ttb) :: (xa, instObj 112 dxa) :: (dxa, da.obj 0 tta) :: []) → OffA 216 [fl, q0, sA, LL + 1 + 1 + 1 + 1 + 1 + 1, LL + 1 + 1 + 1 + 1 + 1, LL + 1 + 1 + 1 + 1, LL + 1 + 1, xc, dxc, xb, dxb, xa, dxa] → OffA fl [q0, sA, LL + 1 + 1 + 1 + 1 + 1 + 1, LL + 1 + 1 + 1 + 1 + 1, LL + 1 + 1 + 1 + 1, LL + 1 + 1, 216, xc, dxc, xb, dxb, xa, dxa] → K9 { heap := h', gens := s1.gens, drawn := s1.drawn, toks := tk', os := s1.os }) ?_ ?_
    · intro R9 X9 hK
      k_steps
      rename_i D0 _ _ _ _ _ _ lA _ lz _ Fz Nz
      exact hK _ _ _ lA 0 D0 tta _ Fz (by rfl) (kst_newsOf Nz (by kst_inAny)) (by repeat (first | exact offA_nil | refine offA_cons (by k_ne) ?_)) (by repeat (first | exact offA_nil | refine offA_cons (by k_ne) ?_))
    clear F6 hN6 hm6 hO5 hO0 hO1 hO2 hO3
    intro h7 tk7 m7 fl kf q0 u0 p0 Fn0 hmn0 Nn0 hv0 hf0
    rw [← kstB_id (m := m7) (ps := [(Str.ofString "found", .ref fl)]) (by intro p hp; rw [List.mem_singleton.mp hp]; exact hmn0)] at Fn0
    dsimp only [kstB] at Fn0
    refine cutR (fun K9 => ∀ h' tk' m' fl kf q0 q1 u0 u1 p0 p1, Fr hb LL h' m' → m' (Str.ofString "found") = some (.ref fl) → News hb LL h' ((fl, listOf #[.ref q0, .ref q1] kf) :: (q0, ({ cls := .type "tuple", data := .seq #[.none, .int ((0 : Nat) : Int) u0] } : Obj)) :: (q1, ({ cls := .type "tuple", data := .seq #[.none, .int ((0 : Nat) : Int) u1] } : Obj)) :: (sA, LCg.lst [.ref xa, .ref xb, .ref xc]) :: (LL + 1 + 1 + 1 + 1 + 1 + 1, o6) :: (LL + 1 + 1 + 1 + 1 + 1, o5) :: (LL + 1 + 1 + 1 + 1, o3) :: (LL + 1 + 1, o2) :: (216, tabObj ((#[] ++ #[rawInt ((174 : Nat) : Int), rawInt ((36 : Nat) : Int), .ref p0]) ++ #[rawInt ((175 : Nat) : Int), rawInt ((40 : Nat) : Int), .ref p1])) :: (xc, instObj 112 dxc) :: (dxc, dc.obj 0 ttc) :: (xb, instObj 112 dxb) :: (dxb, db.obj 0 ttb) :: (xa, instObj 112 dxa) :: (dxa, da.obj 0 tta) :: []) → OffA 216 [fl, q0, q1, sA, LL + 1 + 1 + 1 + 1 + 1 + 1, LL + 1 + 1 + 1 + 1 + 1, LL + 1 + 1 + 1 + 1, LL + 1 + 1, xc, dxc, xb, dxb, xa, dxa] → OffA fl [q0, q1, sA, LL + 1 + 1 + 1 + 1 + 1 + 1, LL + 1 + 1 + 1 + 1 + 1, LL + 1 + 1 + 1 + 1, LL + 1 + 1, 216, xc, dxc, xb, dxb, xa, dxa] → K9 { heap := h', gens := s1.gens, drawn := s1.drawn, toks := tk', os := s1.os }) ?_ ?_
    · intro R9 X9 hK
      k_steps
      rename_i D0 _ _ _ lz _ _ _ Fz Nz
      exact hK _ _ _ fl _ q0 D0 u0 ttb p0 _ Fz (by rfl) (kst_newsOf Nz (by kst_inAny)) (by repeat (first | exact offA_nil | refine offA_cons (by k_ne) ?_)) (by repeat (first | exact offA_nil | refine offA_cons (by k_ne) ?_))
    clear Fn0 hmn0 Nn0 hv0 hf0
    intro h8 tk8 m8 fl kf q0 q1 u0 u1 p0 p1 Fn1 hmn1 Nn1 hv1 hf1
    rw [← kstB_id (m := m8) (ps := [(Str.ofString "found", .ref fl)]) (by intro p hp; rw [List.mem_singleton.mp hp]; exact hmn1)] at Fn1
    dsimp only [kstB] at Fn1
    refine cutR (fun K9 => ∀ h' tk' m' fl kf q0 q1 q2 u0 u1 u2 p0 p1 p2, Fr hb LL h' m' → m' (Str.ofString "found") = some (.ref fl) → News hb LL h' ((fl, listOf #[.ref q0, .ref q1, .ref q2] kf) :: (q0, ({ cls := .type "tuple", data := .seq #[.none, .int ((0 : Nat) : Int) u0] } : Obj)) :: (q1, ({ cls := .type "tuple", data := .seq #[.none, .int ((0 : Nat) : Int) u1] } : Obj)) :: (q2, ({ cls := .type "tuple", data := .seq #[.none, .int ((0 : Nat) : Int) u2] } : Obj)) :: (sA, LCg.lst [.ref xa, .ref xb, .ref xc]) :: (LL + 1 + 1 + 1 + 1 + 1 + 1, o6) :: (LL + 1 + 1 + 1 + 1 + 1, o5) :: (LL + 1 + 1 + 1 + 1, o3) :: (LL + 1 + 1, o2) :: (216, tabObj (((#[] ++ #[rawInt ((174 : Nat) : Int), rawInt ((36 : Nat) : Int), .ref p0]) ++ #[rawInt ((175 : Nat) : Int), rawInt ((40 : Nat) : Int), .ref p1]) ++ #[rawInt ((176 : Nat) : Int), rawInt ((40 : Nat) : Int), .ref p2])) :: (xc, instObj 112 dxc) :: (dxc, dc.obj 0 ttc) :: (xb, instObj 112 dxb) :: (dxb, db.obj 0 ttb) :: (xa, instObj 112 dxa) :: (dxa, da.obj 0 tta) :: []) → OffA 216 [fl, q0, q1, q2, sA, LL + 1 + 1 + 1 + 1 + 1 + 1, LL + 1 + 1 + 1 + 1 + 1, LL + 1 + 1 + 1 + 1, LL + 1 + 1, xc, dxc, xb, dxb, xa, dxa] → OffA fl [q0, q1, q2, sA, LL + 1 + 1 + 1 + 1 + 1 + 1, LL + 1 + 1 + 1 + 1 + 1, LL + 1 + 1 + 1 + 1, LL + 1 + 1, 216, xc, dxc, xb, dxb, xa, dxa] → K9 { heap := h', gens := s1.gens, drawn := s1.drawn, toks := tk', os := s1.os }) ?_ ?_
    · intro R9 X9 hK
      k_steps
      rename_i D0 _ _ _ lz _ _ _ Fz Nz
      exact hK _ _ _ fl _ q0 q1 D0 u0 u1 ttc p0 p1 _ Fz (by rfl) (kst_newsOf Nz (by kst_inAny)) (by repeat (first | exact offA_nil | refine offA_cons (by k_ne) ?_)) (by repeat (first | exact offA_nil | refine offA_cons (by k_ne) ?_))
    clear Fn1 hmn1 Nn1 hv1 hf1
    intro h9 tk9 m9 fl kf q0 q1 q2 u0 u1 u2 p0 p1 p2 Fn2 hmn2 Nn2 hv2 hf2
    rw [← kstB_id (m := m9) (ps := [(Str.ofString "found", .ref fl)]) (by intro p hp; rw [List.mem_singleton.mp hp]; exact hmn2)] at Fn2
    dsimp only [kstB] at Fn2
    refine cutR (fun K9 => ∀ h' tk' m' fl kf q0 q1 q2 u0 u1 u2 p0 p1 p2 p3 mo um, Fr hb LL h' m' → m' (Str.ofString "found") = some (.ref fl) → m' (Str.ofString "more_ones") = some (.ref mo) → News hb LL h' ((mo, ({ cls := .type "tuple", data := .seq #[.none, .int ((0 : Nat) : Int) um] } : Obj)) :: (fl, listOf #[.ref q0, .ref q1, .ref q2] kf) :: (q0, ({ cls := .type "tuple", data := .seq #[.none, .int ((0 : Nat) : Int) u0] } : Obj)) :: (q1, ({ cls := .type "tuple", data := .seq #[.none, .int ((0 : Nat) : Int) u1] } : Obj)) :: (q2, ({ cls := .type "tuple", data := .seq #[.none, .int ((0 : Nat) : Int) u2] } : Obj)) :: (sA, LCg.lst [.ref xa, .ref xb, .ref xc]) :: (LL + 1 + 1 + 1 + 1 + 1 + 1, o6) :: (LL + 1 + 1 + 1 + 1 + 1, o5) :: (LL + 1 + 1 + 1 + 1, o3) :: (LL + 1 + 1, o2) :: (216, tabObj ((((#[] ++ #[rawInt ((174 : Nat) : Int), rawInt ((36 : Nat) : Int), .ref p0]) ++ #[rawInt ((175 : Nat) : Int), rawInt ((40 : Nat) : Int), .ref p1]) ++ #[rawInt ((176 : Nat) : Int), rawInt ((40 : Nat) : Int), .ref p2]) ++ #[rawInt ((177 : Nat) : Int), rawInt ((46 : Nat) : Int), .ref p3])) :: (xc, instObj 112 dxc) :: (dxc, dc.obj 0 ttc) :: (xb, instObj 112 dxb) :: (dxb, db.obj 0 ttb) :: (xa, instObj 112 dxa) :: (dxa, da.obj 0 tta) :: []) → OffA 216 [mo, fl, q0, q1, q2, sA, LL + 1 + 1 + 1 + 1 + 1 + 1, LL + 1 + 1 + 1 + 1 + 1, LL + 1 + 1 + 1 + 1, LL + 1 + 1, xc, dxc, xb, dxb, xa, dxa] → OffA fl [mo, q0, q1, q2, sA, LL + 1 + 1 + 1 + 1 + 1 + 1, LL + 1 + 1 + 1 + 1 + 1, LL + 1 + 1 + 1 + 1, LL + 1 + 1, 216, xc, dxc, xb, dxb, xa, dxa] → K9 { heap := h', gens := s1.gens, drawn := s1.drawn, toks := tk', os := s1.os }) ?_ ?_
    · intro R9 X9 hK
      k_steps
      rename_i D0 _ _ _ lz _ _ _ Fz Nz
      exact hK _ _ _ fl _ q0 q1 q2 u0 u1 u2 p0 p1 p2 _ D0 _ Fz (by rfl) (by rfl) (kst_newsOf Nz (by kst_inAny)) (by repeat (first | exact offA_nil | refine offA_cons (by k_ne) ?_)) (by repeat (first | exact offA_nil | refine offA_cons (by k_ne) ?_))
    clear Fn2 hmn2 Nn2 hv2 hf2
    intro h10 tk10 m10 fl kf q0 q1 q2 u0 u1 u2 p0 p1 p2 p3 mo um Fn3 hmn3 hmo Nn3 hv3 hf3
    rw [← kstB_id (m := m10) (ps := [(Str.ofString "found", .ref fl), (Str.ofString "more_ones", .ref mo)]) (by intro p hp; rcases List.mem_cons.mp hp with rfl | hp; exact hmn3; rw [List.mem_singleton.mp hp]; exact hmo)] at Fn3
    dsimp only [kstB] at Fn3
    k_steps
  obtain ⟨n, rfl⟩ : ∃ n : Nat, nI = n := ⟨nI.toNat, by omega⟩
  have hRa : TRFrom rl ya ys da.ra wn told := ⟨hRo, era⟩
  have hRb : TRFrom rl ya ys db.ra wn told := ⟨hRo, erb⟩
  have hRc : TRFrom rl ya ys dc.ra wn told := ⟨hRo, erc⟩
  have hTa : TB told da.size := esa ▸ hTB
  have hTb : TB told db.size := esb ▸ hTB
  have hTc : TB told dc.size := esc ▸ hTB
  have htn : told ≠ [] := fun e => by rw [e] at ht1; exact absurd ht1 (by decide)
  have hEM : EqMark := ⟨⟩
  clear hRo hneg d4'
  refine cutR (fun K9 => ∀ h' tk' m' fl kf q0 r0 u0 n0 p0, ∀ a0 : Nat, ∀ v0 : List Value, ∀ z0 : List Int, Fr hb LL h' m' → m' (Str.ofString "found") = some (.ref fl) → m' (Str.ofString "told") = some (.ref ta) → News hb LL h' ((fl, listOf #[.ref q0] kf) :: (q0, ({ cls := .type "tuple", data := .seq #[.ref r0, .int ((a0 : Nat) : Int) u0] } : Obj)) :: (r0, listOf (List.toArray v0) n0) :: (sA, LCg.lst [.ref xa, .ref xb, .ref xc]) :: (ya, LCg.lst ys) :: (ta, LCg.lst tvs) :: (LL + 1 + 1 + 1 + 1 + 1 + 1, o6) :: (LL + 1 + 1 + 1 + 1 + 1, o5) :: (LL + 1 + 1 + 1 + 1, o3) :: (LL + 1 + 1, o2) :: (216, tabObj (#[] ++ #[rawInt ((174 : Nat) : Int), rawInt ((36 : Nat) : Int), .ref p0])) :: (xc, instObj 112 dxc) :: (dxc, dc.obj 0 ttc) :: (xb, instObj 112 dxb) :: (dxb, db.obj 0 ttb) :: rl) → OffA 216 [fl, q0, r0, sA, ya, ta, LL + 1 + 1 + 1 + 1 + 1 + 1, LL + 1 + 1 + 1 + 1 + 1, LL + 1 + 1 + 1 + 1, LL + 1 + 1, xc, dxc, xb, dxb] → OffA dxb [fl, q0, r0, sA, ya, ta, LL + 1 + 1 + 1 + 1 + 1 + 1, LL + 1 + 1 + 1 + 1 + 1, LL + 1 + 1 + 1 + 1, LL + 1 + 1, 216, xc, dxc, xb] → OffA dxc [fl, q0, r0, sA, ya, ta, LL + 1 + 1 + 1 + 1 + 1 + 1, LL + 1 + 1 + 1 + 1 + 1, LL + 1 + 1 + 1 + 1, LL + 1 + 1, 216, xc, xb, dxb] → OffA fl [q0, r0, sA, ya, ta, LL + 1 + 1 + 1 + 1 + 1 + 1, LL + 1 + 1 + 1 + 1 + 1, LL + 1 + 1 + 1 + 1, LL + 1 + 1, 216, xc, dxc, xb, dxb] → OwnOff rl [fl, dxc, dxb, dxa, LL + 1 + 1 + 1 + 1 + 1 + 1, LL + 1 + 1 + 1 + 1 + 1, LL + 1 + 1 + 1 + 1, LL + 1 + 1 + 1, LL + 1 + 1, LL + 1, 216] → IntsAre v0 z0 → z0 = limbs wn (drawn told da.size 0 n) → a0 = 0 + turns n da.size → K9 { heap := h', gens := s1.gens, drawn := s1.drawn, toks := tk', os := s1.os }) ?_ ?_
  · intro R9 X9 hK
    k_steps
    rename_i rA vA nA _ _ uA _ _ _ hiA _ _ oA _ _ _ D0 _ _ _ _ _ _ lA _ lz _ Fz Nz
    have hz := ownOff_add (fun p9 h9 => Nat.ne_of_lt (lz p9 (by repeat (first | exact h9 | apply List.Mem.tail)))) hO5
    exact hK _ _ _ lA 0 D0 rA uA nA _ _ vA _ Fz (by rfl) (by rfl) (kst_newsOf Nz (by kst_inAny)) (by repeat (first | exact offA_nil | refine offA_cons (by k_ne) ?_)) (by repeat (first | exact offA_nil | refine offA_cons (by k_ne) ?_)) (by repeat (first | exact offA_nil | refine offA_cons (by k_ne) ?_)) (by repeat (first | exact offA_nil | refine offA_cons (by k_ne) ?_)) hz hiA rfl rfl
  clear F6 hN6 hm6 hO5 hO0 hO1 hO2 hO3
  intro h7 tk7 m7 fl kf q0 r0 u0 n0 p0 a0 v0 z0 Fp0 hmf0 hmt0 Np0 hP0f0 hP0f1 hP0f2 hP0f3 hOp0 hi0 ez0 ea0
  rw [← kstB_id (m := m7) (ps := [(Str.ofString "found", .ref fl), (Str.ofString "told", .ref ta)]) (by intro p hp; rcases List.mem_cons.mp hp with rfl | hp; exact hmf0; rw [List.mem_singleton.mp hp]; exact hmt0)] at Fp0
  dsimp only [kstB] at Fp0
  refine cutR (fun K9 => ∀ h' tk' m' fl kf q0 q1 r0 r1 u0 u1 n0 n1 p0 p1, ∀ a0 a1 : Nat, ∀ v0 v1 : List Value, ∀ z0 z1 : List Int, Fr hb LL h' m' → m' (Str.ofString "found") = some (.ref fl) → m' (Str.ofString "told") = some (.ref ta) → News hb LL h' ((fl, listOf #[.ref q0, .ref q1] kf) :: (q0, ({ cls := .type "tuple", data := .seq #[.ref r0, .int ((a0 : Nat) : Int) u0] } : Obj)) :: (r0, listOf (List.toArray v0) n0) :: (q1, ({ cls := .type "tuple", data := .seq #[.ref r1, .int ((a1 : Nat) : Int) u1] } : Obj)) :: (r1, listOf (List.toArray v1) n1) :: (sA, LCg.lst [.ref xa, .ref xb, .ref xc]) :: (ya, LCg.lst ys) :: (ta, LCg.lst tvs) :: (LL + 1 + 1 + 1 + 1 + 1 + 1, o6) :: (LL + 1 + 1 + 1 + 1 + 1, o5) :: (LL + 1 + 1 + 1 + 1, o3) :: (LL + 1 + 1, o2) :: (216, tabObj ((#[] ++ #[rawInt ((174 : Nat) : Int), rawInt ((36 : Nat) : Int), .ref p0]) ++ #[rawInt ((175 : Nat) : Int), rawInt ((40 : Nat) : Int), .ref p1])) :: (xc, instObj 112 dxc) :: (dxc, dc.obj 0 ttc) :: rl) → OffA 216 [fl, q0, r0, q1, r1, sA, ya, ta, LL + 1 + 1 + 1 + 1 + 1 + 1, LL + 1 + 1 + 1 + 1 + 1, LL + 1 + 1 + 1 + 1, LL + 1 + 1, xc, dxc] → OffA dxc [fl, q0, r0, q1, r1, sA, ya, ta, LL + 1 + 1 + 1 + 1 + 1 + 1, LL + 1 + 1 + 1 + 1 + 1, LL + 1 + 1 + 1 + 1, LL + 1 + 1, 216, xc] → OffA fl [q0, r0, q1, r1, sA, ya, ta, LL + 1 + 1 + 1 + 1 + 1 + 1, LL + 1 + 1 + 1 + 1 + 1, LL + 1 + 1 + 1 + 1, LL + 1 + 1, 216, xc, dxc] → OwnOff rl [fl, dxc, dxb, dxa, LL + 1 + 1 + 1 + 1 + 1 + 1, LL + 1 + 1 + 1 + 1 + 1, LL + 1 + 1 + 1 + 1, LL + 1 + 1 + 1, LL + 1 + 1, LL + 1, 216] → IntsAre v0 z0 → z0 = limbs wn (drawn told da.size 0 n) → a0 = 0 + turns n da.size → IntsAre v1 z1 → z1 = castL (rows told db.size 0 n).1 → a1 = (rows told db.size 0 n).2 → K9 { heap := h', gens := s1.gens, drawn := s1.drawn, toks := tk', os := s1.os }) ?_ ?_
  · intro R9 X9 hK
    k_steps
    rename_i rA vA nA _ _ uA _ _ _ hiA _ _ oA _ _ _ D0 _ _ _ lz _ _ _ Fz Nz
    have hz := hOp0
    exact hK _ _ _ fl _ q0 D0 r0 rA u0 uA n0 nA p0 _ a0 _ v0 vA z0 _ Fz (by rfl) (by rfl) (kst_newsOf Nz (by kst_inAny)) (by repeat (first | exact offA_nil | refine offA_cons (by k_ne) ?_)) (by repeat (first | exact offA_nil | refine offA_cons (by k_ne) ?_)) (by repeat (first | exact offA_nil | refine offA_cons (by k_ne) ?_)) hz hi0 ez0 ea0 hiA rfl rfl
  clear Fp0 hmf0 hmt0 Np0 hOp0 hP0f0 hP0f1 hP0f2 hP0f3 hi0 ez0 ea0
  intro h8 tk8 m8 fl kf q0 q1 r0 r1 u0 u1 n0 n1 p0 p1 a0 a1 v0 v1 z0 z1 Fp1 hmf1 hmt1 Np1 hP1f0 hP1f1 hP1f2 hOp1 hi0 ez0 ea0 hi1 ez1 ea1
  rw [← kstB_id (m := m8) (ps := [(Str.ofString "found", .ref fl), (Str.ofString "told", .ref ta)]) (by intro p hp; rcases List.mem_cons.mp hp with rfl | hp; exact hmf1; rw [List.mem_singleton.mp hp]; exact hmt1)] at Fp1
  dsimp only [kstB] at Fp1
  refine cutR (fun K9 => ∀ h' tk' m' fl kf q0 q1 q2 r0 r1 r2 u0 u1 u2 n0 n1 n2 p0 p1 p2, ∀ a0 a1 a2 : Nat, ∀ v0 v1 v2 : List Value, ∀ z0 z1 z2 : List Int, Fr hb LL h' m' → m' (Str.ofString "found") = some (.ref fl) → m' (Str.ofString "told") = some (.ref ta) → News hb LL h' ((fl, listOf #[.ref q0, .ref q1, .ref q2] kf) :: (q0, ({ cls := .type "tuple", data := .seq #[.ref r0, .int ((a0 : Nat) : Int) u0] } : Obj)) :: (r0, listOf (List.toArray v0) n0) :: (q1, ({ cls := .type "tuple", data := .seq #[.ref r1, .int ((a1 : Nat) : Int) u1] } : Obj)) :: (r1, listOf (List.toArray v1) n1) :: (q2, ({ cls := .type "tuple", data := .seq #[.ref r2, .int ((a2 : Nat) : Int) u2] } : Obj)) :: (r2, listOf (List.toArray v2) n2) :: (ta, LCg.lst tvs) :: (LL + 1 + 1 + 1 + 1 + 1 + 1, o6) :: (LL + 1 + 1 + 1 + 1, o3) :: (LL + 1 + 1, o2) :: (216, tabObj (((#[] ++ #[rawInt ((174 : Nat) : Int), rawInt ((36 : Nat) : Int), .ref p0]) ++ #[rawInt ((175 : Nat) : Int), rawInt ((40 : Nat) : Int), .ref p1]) ++ #[rawInt ((176 : Nat) : Int), rawInt ((40 : Nat) : Int), .ref p2])) :: []) → (OffA 216 [fl, q0, r0, q1, r1, q2, r2, ta, LL + 1 + 1 + 1 + 1 + 1 + 1, LL + 1 + 1 + 1 + 1, LL + 1 + 1]) → IntsAre v0 z0 → z0 = limbs wn (drawn told da.size 0 n) → a0 = 0 + turns n da.size → IntsAre v1 z1 → z1 = castL (rows told db.size 0 n).1 → a1 = (rows told db.size 0 n).2 → IntsAre v2 z2 → z2 = limbs wn (numK (rows told dc.size 0 n).1 (rows told dc.size 0 n).1.length) → a2 = (rows told dc.size 0 n).2 → K9 { heap := h', gens := s1.gens, drawn := s1.drawn, toks := tk', os := s1.os }) ?_ ?_
  · intro R9 X9 hK
    k_steps
    rename_i rA vA nA _ _ uA _ _ _ hiA _ _ oA _ _ _ D0 _ _ _ lz _ _ _ Fz Nz
    exact hK _ _ _ fl _ q0 q1 D0 r0 r1 rA u0 u1 uA n0 n1 nA p0 p1 _ a0 a1 _ v0 v1 vA z0 z1 _ Fz (by rfl) (by rfl) (kst_newsOf Nz (by kst_inAny)) (by repeat (first | exact offA_nil | refine offA_cons (by k_ne) ?_)) hi0 ez0 ea0 hi1 ez1 ea1 hiA rfl rfl
  clear Fp1 hmf1 hmt1 Np1 hOp1 hP1f0 hP1f1 hP1f2 hi0 ez0 ea0 hi1 ez1 ea1
  intro h9 tk9 m9 fl kf q0 q1 q2 r0 r1 r2 u0 u1 u2 n0 n1 n2 p0 p1 p2 a0 a1 a2 v0 v1 v2 z0 z1 z2 Fp2 hmf2 hmt2 Np2 hP2f0 hi0 ez0 ea0 hi1 ez1 ea1 hi2 ez2 ea2
  rw [← kstB_id (m := m9) (ps := [(Str.ofString "found", .ref fl), (Str.ofString "told", .ref ta)]) (by intro p hp; rcases List.mem_cons.mp hp with rfl | hp; exact hmf2; rw [List.mem_singleton.mp hp]; exact hmt2)] at Fp2
  dsimp only [kstB] at Fp2
  refine cutR (fun K9 => ∀ h' tk' m' mo r3 u3 n3, ∀ pt : Array Value, ∀ v3 : List Value, Fr hb LL h' m' → m' (Str.ofString "found") = some (.ref fl) → m' (Str.ofString "told") = some (.ref ta) → m' (Str.ofString "more_ones") = some (.ref mo) → News hb LL h' ((216, tabObj pt) :: (fl, listOf #[.ref q0, .ref q1, .ref q2] kf) :: (q0, ({ cls := .type "tuple", data := .seq #[.ref r0, .int ((a0 : Nat) : Int) u0] } : Obj)) :: (r0, listOf (List.toArray v0) n0) :: (q1, ({ cls := .type "tuple", data := .seq #[.ref r1, .int ((a1 : Nat) : Int) u1] } : Obj)) :: (r1, listOf (List.toArray v1) n1) :: (q2, ({ cls := .type "tuple", data := .seq #[.ref r2, .int ((a2 : Nat) : Int) u2] } : Obj)) :: (r2, listOf (List.toArray v2) n2) :: (mo, ({ cls := .type "tuple", data := .seq #[.ref r3, .int 0 u3] } : Obj)) :: (r3, listOf (List.toArray v3) n3) :: (ta, LCg.lst tvs) :: (LL + 1 + 1 + 1 + 1 + 1 + 1, o6) :: (LL + 1 + 1 + 1 + 1, o3) :: (LL + 1 + 1, o2) :: []) → IntsAre v3 (limbs wn (2 ^ n - 1)) → K9 { heap := h', gens := s1.gens, drawn := s1.drawn, toks := tk', os := s1.os }) ?_ ?_
  · intro R9 X9 hK
    k_steps
    rename_i rA vA nA _ _ _ _ _ iA _ _ _ _ _ _ D0 _ _ _ _ _ _ _ Fz Nz
    exact hK _ _ _ D0 rA _ nA _ vA Fz (by rfl) (by rfl) (by rfl) (kst_newsOf Nz (by kst_inAny)) iA
  intro h10 tk10 m10 mo r3 u3 n3 pt v3 Fq10 hm10a hm10b hm10c Nq10 hi3
  clear Fp2 hmf2 hmt2 Np2 hP2f0
  rw [← kstB_id (m := m10) (ps := [(Str.ofString "found", .ref fl), (Str.ofString "told", .ref ta), (Str.ofString "more_ones", .ref mo)]) (by intro p hp; rcases List.mem_cons.mp hp with rfl | hp; exact hm10a; rcases List.mem_cons.mp hp with rfl | hp; exact hm10b; rw [List.mem_singleton.mp hp]; exact hm10c)] at Fq10
  dsimp only [kstB] at Fq10
  refine cutR (fun K9 => ∀ h' tk' m', Fr hb LL h' m' → m' (Str.ofString "found") = some (.ref fl) → m' (Str.ofString "told") = some (.ref ta) → m' (Str.ofString "more_ones") = some (.ref mo) → News hb LL h' ((216, tabObj pt) :: (fl, listOf #[.ref q0, .ref q1, .ref q2] kf) :: (q0, ({ cls := .type "tuple", data := .seq #[.ref r0, .int ((a0 : Nat) : Int) u0] } : Obj)) :: (r0, listOf (List.toArray v0) n0) :: (q1, ({ cls := .type "tuple", data := .seq #[.ref r1, .int ((a1 : Nat) : Int) u1] } : Obj)) :: (r1, listOf (List.toArray v1) n1) :: (q2, ({ cls := .type "tuple", data := .seq #[.ref r2, .int ((a2 : Nat) : Int) u2] } : Obj)) :: (r2, listOf (List.toArray v2) n2) :: (mo, ({ cls := .type "tuple", data := .seq #[.ref r3, .int 0 u3] } : Obj)) :: (r3, listOf (List.toArray v3) n3) :: (ta, LCg.lst tvs) :: (LL + 1 + 1 + 1 + 1 + 1 + 1, o6) :: (LL + 1 + 1 + 1 + 1, o3) :: (LL + 1 + 1, o2) :: []) → K9 { heap := h', gens := s1.gens, drawn := s1.drawn, toks := tk', os := s1.os }) ?_ ?_
  · intro R9 X9 hK
    k_steps
    exact hK _ _ _ Fq10 (by rfl) (by rfl) (by rfl) (kst_newsOf Nq10 (by kst_inAny))
  intro h11 tk11 m11 Fq11 hm11a hm11b hm11c Nq11
  clear Fq10 hm10a hm10b hm10c Nq10
  rw [← kstB_id (m := m11) (ps := [(Str.ofString "found", .ref fl), (Str.ofString "told", .ref ta), (Str.ofString "more_ones", .ref mo)]) (by intro p hp; rcases List.mem_cons.mp hp with rfl | hp; exact hm11a; rcases List.mem_cons.mp hp with rfl | hp; exact hm11b; rw [List.mem_singleton.mp hp]; exact hm11c)] at Fq11
  dsimp only [kstB] at Fq11
  have h2a : (1:Int) ≤ 2 ^ ((n : Nat) : Int).toNat := Int.pow_pos (by omega)
  have hez : limbs wn (2 ^ n - 1) = limbs wn (2 ^ ((n : Nat) : Int).toNat - 1 : Int).toNat := by
    congr 1
    have h7 : (1:Nat) ≤ 2 ^ n := Nat.two_pow_pos n
    rw [Int.toNat_natCast]
    have h8 : ((2:Int) ^ n) = ((2 ^ n : Nat) : Int) := by rw [Int.natCast_pow]; rfl
    rw [h8]; omega
  have h2b : (2:Int) ^ ((n : Nat) : Int).toNat ≤ 2 ^ 24 := by
    have h9 : (2:Nat) ^ ((n : Nat) : Int).toNat ≤ 2 ^ 24 := Nat.pow_le_pow_right (by omega) (by omega)
    have h8 := Int.ofNat_le.mpr h9
    rw [Int.natCast_pow, Int.natCast_pow] at h8
    exact h8
  refine cutR (fun K9 => ∀ h' tk' m', Fr hb LL h' m' → m' (Str.ofString "found") = some (.ref fl) → m' (Str.ofString "told") = some (.ref ta) → News hb LL h' ((216, tabObj pt) :: (fl, listOf #[.ref q0, .ref q1, .ref q2] kf) :: (q0, ({ cls := .type "tuple", data := .seq #[.ref r0, .int ((a0 : Nat) : Int) u0] } : Obj)) :: (r0, listOf (List.toArray v0) n0) :: (q1, ({ cls := .type "tuple", data := .seq #[.ref r1, .int ((a1 : Nat) : Int) u1] } : Obj)) :: (r1, listOf (List.toArray v1) n1) :: (q2, ({ cls := .type "tuple", data := .seq #[.ref r2, .int ((a2 : Nat) : Int) u2] } : Obj)) :: (r2, listOf (List.toArray v2) n2) :: (ta, LCg.lst tvs) :: (LL + 1 + 1 + 1 + 1 + 1 + 1, o6) :: (LL + 1 + 1 + 1 + 1, o3) :: (LL + 1 + 1, o2) :: []) → K9 { heap := h', gens := s1.gens, drawn := s1.drawn, toks := tk', os := s1.os }) ?_ ?_
  · intro R9 X9 hK
    k_steps
    rename_i Fz Nz _
    exact hK _ _ _ Fz (by rfl) (by rfl) (kst_newsOf Nz (by kst_inAny))
  intro h12 tk12 m12 Fq12 hm12a hm12b Nq12
  clear Fq11 hm11a hm11b hm11c Nq11 hi3
  rw [← kstB_id (m := m12) (ps := [(Str.ofString "found", .ref fl), (Str.ofString "told", .ref ta)]) (by intro p hp; rcases List.mem_cons.mp hp with rfl | hp; exact hm12a; rw [List.mem_singleton.mp hp]; exact hm12b)] at Fq12
  dsimp only [kstB] at Fq12
  refine cutR (fun K9 => ∀ h' tk' m' so mr ti tj ks km, Fr hb LL h' m' → m' (Str.ofString "found") = some (.ref fl) → m' (Str.ofString "some") = some (.ref so) → m' (Str.ofString "more") = some (.ref mr) → News hb LL h' ((216, tabObj pt) :: (fl, listOf #[.ref q0, .ref q1, .ref q2] kf) :: (q0, ({ cls := .type "tuple", data := .seq #[.ref r0, .int ((a0 : Nat) : Int) u0] } : Obj)) :: (r0, listOf (List.toArray v0) n0) :: (q1, ({ cls := .type "tuple", data := .seq #[.ref r1, .int ((a1 : Nat) : Int) u1] } : Obj)) :: (r1, listOf (List.toArray v1) n1) :: (q2, ({ cls := .type "tuple", data := .seq #[.ref r2, .int ((a2 : Nat) : Int) u2] } : Obj)) :: (r2, listOf (List.toArray v2) n2) :: (ta, LCg.lst tvs) :: (LL + 1 + 1 + 1 + 1 + 1 + 1, o6) :: (LL + 1 + 1 + 1 + 1, o3) :: (LL + 1 + 1, o2) :: (so, someObj ta sz 0 ts ti ks) :: (mr, someObj ta sz 0 ts tj km) :: []) → OffA so [216, fl, q0, r0, q1, r1, q2, r2, ta, LL + 1 + 1 + 1 + 1 + 1 + 1, LL + 1 + 1 + 1 + 1, LL + 1 + 1, mr] → OffA mr [216, fl, q0, r0, q1, r1, q2, r2, ta, LL + 1 + 1 + 1 + 1 + 1 + 1, LL + 1 + 1 + 1 + 1, LL + 1 + 1, so] → K9 { heap := h', gens := s1.gens, drawn := s1.drawn, toks := tk', os := s1.os }) ?_ ?_
  · intro R9 X9 hK
    k_steps
    rename_i lS _ hlS lM _ hlM _ _ _ _ _ _ Fz Nz
    exact hK _ _ _ lS lM _ _ 0 0 Fz (by rfl) (by rfl) (by rfl) (kst_newsOf Nz (by kst_inAny)) (by repeat (first | exact offA_nil | refine offA_cons (by k_ne) ?_)) (by repeat (first | exact offA_nil | refine offA_cons (by k_ne) ?_))
  intro h13 tk13 m13 so mr ti tj ks km Fq13 hm13a hm13b hm13c Nq13 hso hmr
  clear Fq12 hm12a hm12b Nq12
  rw [← kstB_id (m := m13) (ps := [(Str.ofString "found", .ref fl), (Str.ofString "some", .ref so), (Str.ofString "more", .ref mr)]) (by intro p hp; rcases List.mem_cons.mp hp with rfl | hp; exact hm13a; rcases List.mem_cons.mp hp with rfl | hp; exact hm13b; rw [List.mem_singleton.mp hp]; exact hm13c)] at Fq13
  dsimp only [kstB] at Fq13
  refine cutR (fun K9 => ∀ h' tk' m' ti tj ks km ll nl td tz, ∀ dN aS aM : Nat, ∀ vl : List Value, ∀ zl : List Nat, Fr hb LL h' m' → m' (Str.ofString "found") = some (.ref fl) → m' (Str.ofString "some") = some (.ref so) → m' (Str.ofString "more") = some (.ref mr) → m' (Str.ofString "drawn") = some (.int ((dN : Nat) : Int) td) → m' (Str.ofString "lengths") = some (.ref ll) → m' (Str.ofString "number") = some (.int 0 tz) → News hb LL h' ((216, tabObj pt) :: (fl, listOf #[.ref q0, .ref q1, .ref q2] kf) :: (q0, ({ cls := .type "tuple", data := .seq #[.ref r0, .int ((a0 : Nat) : Int) u0] } : Obj)) :: (r0, listOf (List.toArray v0) n0) :: (q1, ({ cls := .type "tuple", data := .seq #[.ref r1, .int ((a1 : Nat) : Int) u1] } : Obj)) :: (r1, listOf (List.toArray v1) n1) :: (q2, ({ cls := .type "tuple", data := .seq #[.ref r2, .int ((a2 : Nat) : Int) u2] } : Obj)) :: (r2, listOf (List.toArray v2) n2) :: (LL + 1 + 1 + 1 + 1 + 1 + 1, o6) :: (so, someObj ta sz aS ts ti ks) :: (mr, someObj ta sz aM ts tj km) :: (ll, listOf (List.toArray vl) nl) :: []) → IntsAre vl (castL zl) → zl = (rows told sz 0 n).1 → aM = (rows told sz 0 n).2 → dN = drawn told sz 0 n → aS = 0 + turns n sz → K9 { heap := h', gens := s1.gens, drawn := s1.drawn, toks := tk', os := s1.os }) ?_ ?_
  · intro R9 X9 hK
    k_steps
    rename_i tD _ _ tS kS _ _ rL vL nL _ _ tM kM _ _ _ iL _ _ _ _ _ _ _ _ Fz Nz
    exact hK _ _ _ tS tM kS kM rL nL tD _ _ _ _ vL _ Fz (by rfl) (by rfl) (by rfl) (by rfl) (by rfl) (by rfl) (kst_newsOf Nz (by kst_inAny)) iL rfl rfl rfl rfl
  intro h14 tk14 m14 ti' tj' ks' km' ll nl td tz dN aS aM vl zl Fq14 hm14a hm14b hm14c hm14d hm14e hm14f Nq14 hvl ezl eaM edN eaS
  clear Fq13 hm13a hm13b hm13c Nq13 hso hmr
  rw [← kstB_id (m := m14) (ps := [(Str.ofString "found", .ref fl), (Str.ofString "some", .ref so), (Str.ofString "more", .ref mr), (Str.ofString "drawn", .int ((dN : Nat) : Int) td), (Str.ofString "lengths", .ref ll), (Str.ofString "number", .int 0 tz)]) (by intro p hp; rcases List.mem_cons.mp hp with rfl | hp; exact hm14a; rcases List.mem_cons.mp hp with rfl | hp; exact hm14b; rcases List.mem_cons.mp hp with rfl | hp; exact hm14c; rcases List.mem_cons.mp hp with rfl | hp; exact hm14d; rcases List.mem_cons.mp hp with rfl | hp; exact hm14e; rw [List.mem_singleton.mp hp]; exact hm14f)] at Fq14
  dsimp only [kstB] at Fq14
  refine cutE (fun K9 => ∀ h' tk' m' tz, ∀ nN : Nat, Fr hb LL h' m' → m' (Str.ofString "found") = some (.ref fl) → m' (Str.ofString "some") = some (.ref so) → m' (Str.ofString "more") = some (.ref mr) → m' (Str.ofString "drawn") = some (.int ((dN : Nat) : Int) td) → m' (Str.ofString "lengths") = some (.ref ll) → m' (Str.ofString "number") = some (.int ((nN : Nat) : Int) tz) → News hb LL h' ((216, tabObj pt) :: (fl, listOf #[.ref q0, .ref q1, .ref q2] kf) :: (q0, ({ cls := .type "tuple", data := .seq #[.ref r0, .int ((a0 : Nat) : Int) u0] } : Obj)) :: (r0, listOf (List.toArray v0) n0) :: (q1, ({ cls := .type "tuple", data := .seq #[.ref r1, .int ((a1 : Nat) : Int) u1] } : Obj)) :: (r1, listOf (List.toArray v1) n1) :: (q2, ({ cls := .type "tuple", data := .seq #[.ref r2, .int ((a2 : Nat) : Int) u2] } : Obj)) :: (r2, listOf (List.toArray v2) n2) :: (LL + 1 + 1 + 1 + 1 + 1 + 1, o6) :: (so, someObj ta sz aS ts ti' ks') :: (mr, someObj ta sz aM ts tj' km') :: (ll, listOf (List.toArray vl) nl) :: []) → nN = numK zl zl.length → K9 { heap := h', gens := s1.gens, drawn := s1.drawn, toks := tk', os := s1.os }) ?_ ?_
  · intro R9 hK
    k_steps
    apply Hold.mk
    rename Fr _ _ _ _ => F6; rename News _ _ _ _ => N6; rename EnumAt _ _ _ _ _ _ _ => D6
    refine my_enum (σ := Nat × Tok) (fun c => [(Str.ofString "found", .ref fl), (Str.ofString "some", .ref so), (Str.ofString "more", .ref mr), (Str.ofString "drawn", .int ((dN : Nat) : Int) td), (Str.ofString "lengths", .ref ll), (Str.ofString "number", .int ((c.1 : Nat) : Int) c.2)]) (fun i c => c.1 = numK zl i) (0, tz) rfl D6 F6 N6 (by kst_all) rfl ?_ ?_
    · rintro i ⟨nc, tc⟩ v t u h tk own hi hv hP F7 N7
      obtain ⟨hi3, tt, rfl⟩ := ints_at hvl hv
      rw [getD_castL] at F7
      dsimp only [kstB] at F7 hP
      have hsm : zl.sum = n := by rw [ezl]; exact rows_sum _ _ _ _
      obtain ⟨len, hlen⟩ : ∃ len, len = zl.getD i 0 := ⟨_, rfl⟩
      obtain ⟨hb1, hle24⟩ := turn_bounds hP hlen hsm (by omega)
      obtain ⟨e1, e2⟩ := turn_vals hP hlen
      rw [← hlen] at F7
      clear F6 N6 D6 hsm hP hlen hez h2a h2b ez0 ez1 ez2 ea0 ea1 ea2 ezl eaM edN eaS hi0 hi1 hi2 hRa hRb hRc hTa hTb hTc htd
      obtain ⟨nx, hnx⟩ : ∃ nx, nx = numK zl (i + 1) := ⟨_, rfl⟩
      rw [← hnx] at e1 e2
      refine wpAny_mono ?_ (fun _ _ x => x) (fun _ _ x => x)
      try k_fold
      k_steps
      · rename Int.fmod _ _ = _ => hc
        rename Fr _ _ _ _ => F8; rename News _ _ _ _ => N8
        exact ⟨rfl, (nx, _), _, _, _, rfl, F8, N8, by ((try dsimp only); refine List.forall_mem_cons.mpr ⟨by with_unfolding_all rfl, ?_⟩; refine List.forall_mem_cons.mpr ⟨by with_unfolding_all rfl, ?_⟩; refine List.forall_mem_cons.mpr ⟨by with_unfolding_all rfl, ?_⟩; refine List.forall_mem_cons.mpr ⟨by with_unfolding_all rfl, ?_⟩; refine List.forall_mem_cons.mpr ⟨by with_unfolding_all rfl, ?_⟩; exact List.forall_mem_cons.mpr ⟨by with_unfolding_all exact congrArg (fun z => some (Value.int z _)) (e1 hc), List.forall_mem_nil _⟩), hnx⟩
      · rename Int.fmod _ _ ≠ _ => hc
        rename Fr _ _ _ _ => F8; rename News _ _ _ _ => N8
        exact ⟨rfl, (nx, _), _, _, _, rfl, F8, N8, by ((try dsimp only); refine List.forall_mem_cons.mpr ⟨by with_unfolding_all rfl, ?_⟩; refine List.forall_mem_cons.mpr ⟨by with_unfolding_all rfl, ?_⟩; refine List.forall_mem_cons.mpr ⟨by with_unfolding_all rfl, ?_⟩; refine List.forall_mem_cons.mpr ⟨by with_unfolding_all rfl, ?_⟩; refine List.forall_mem_cons.mpr ⟨by with_unfolding_all rfl, ?_⟩; exact List.forall_mem_cons.mpr ⟨by with_unfolding_all exact congrArg (fun z => some (Value.int z _)) (e2 hc), List.forall_mem_nil _⟩), hnx⟩
    · rintro ⟨nc, tc⟩ u h tk hP F7 N7
      dsimp only [kstB] at F7 hP
      have hl9 := IntsAre.length hvl
      rw [castL_len] at hl9
      rw [hl9] at hP
      exact hK _ _ _ tc nc F7 (by rfl) (by rfl) (by rfl) (by rfl) (by rfl) (by rfl) N7 hP
  intro h15 tk15 m15 tz' nN Fq15 hm15a hm15b hm15c hm15d hm15e hm15f Nq15 enN
  clear Fq14 hm14a hm14b hm14c hm14d hm14e hm14f Nq14
  rw [← kstB_id (m := m15) (ps := [(Str.ofString "found", .ref fl), (Str.ofString "some", .ref so), (Str.ofString "more", .ref mr), (Str.ofString "drawn", .int ((dN : Nat) : Int) td), (Str.ofString "lengths", .ref ll), (Str.ofString "number", .int ((nN : Nat) : Int) tz')]) (by intro p hp; rcases List.mem_cons.mp hp with rfl | hp; exact hm15a; rcases List.mem_cons.mp hp with rfl | hp; exact hm15b; rcases List.mem_cons.mp hp with rfl | hp; exact hm15c; rcases List.mem_cons.mp hp with rfl | hp; exact hm15d; rcases List.mem_cons.mp hp with rfl | hp; exact hm15e; rw [List.mem_singleton.mp hp]; exact hm15f)] at Fq15
  dsimp only [kstB] at Fq15
  rw [esa] at ez0 ea0
  rw [esb] at ez1 ea1
  rw [esc, ← ezl, ← enN] at ez2
  rw [esc, ← eaM] at ea2
  rw [← edN] at ez0
  rw [← eaS] at ea0
  rw [← ezl] at ez1
  rw [← eaM] at ea1
  have hdN : dN < 2 ^ 200 := by rw [edN]; exact Nat.lt_of_lt_of_le (drawn_lt _ _ _ _) (Nat.pow_le_pow_right (by omega) (by omega))
  have hnN : nN < 2 ^ 200 := by
    have h9 := numK_lt zl zl.length
    rw [List.take_length, ezl, rows_sum, ← ezl] at h9
    rw [enN]
    exact Nat.lt_of_lt_of_le h9 (Nat.pow_le_pow_right (by omega) (by omega))
  have hE : (z0 = limbs wn (((dN : Nat) : Int)).toNat ∧ ((a0 : Nat) : Int) = ((aS : Nat) : Int)) ∧ (z1 = castL zl ∧ ((a1 : Nat) : Int) = ((aM : Nat) : Int)) ∧ z2 = limbs wn (((nN : Nat) : Int)).toNat ∧ ((a2 : Nat) : Int) = ((aM : Nat) : Int) := by
    rw [Int.toNat_natCast, Int.toNat_natCast, ez0, ea0, ez1, ea1, ez2, ea2]
    exact ⟨⟨rfl, rfl⟩, ⟨rfl, rfl⟩, rfl, rfl⟩
  k_steps
  apply Hold.mk
  rename News _ _ _ _ => N9
  refine' eq_three N9 ?zqa ?zqb ?zq0 ?zq1 ?zq2 ?zq3 ?zq4 ?zq5 ?zqe ?zqu ?_
  case zqa => k_mem
  case zqb => k_mem
  case zq0 => exact RecAt.of N9 (by k_mem) (by k_mem) hi0
  case zq1 => exact RecAt.of N9 (by k_mem) (by k_mem) hi1
  case zq2 => exact RecAt.of N9 (by k_mem) (by k_mem) hi2
  case zq3 => exact RecAt.of N9 (by k_mem) (by k_mem) (by assumption)
  case zq4 => exact RecAt.of N9 (by k_mem) (by k_mem) hvl
  case zq5 => exact RecAt.of N9 (by k_mem) (by k_mem) (by assumption)
  case zqe => exact hE
  case zqu => ke_room
  clear hE hdN hnN ez0 ea0 ez1 ea1 ez2 ea2 ezl eaM edN eaS enN hvl hi0 hi1 hi2 h2a h2b hez
  k_steps
  )
end Mine
end

set_option maxRecDepth 100000 in
set_option maxHeartbeats 8000000 in
theorem PySem.Challenge.cw_rr0056_01_holds : PySem.Challenge.rw_rr0056_01.Holds := by
  exact Mine.tlaw
