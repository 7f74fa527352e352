import PyProof.Rows.All
import Wide.All
import OpenK.AllK
import Wide.FinOn
import PySem.Challenge.RW_pq0137_01
open PySem PySem.W PyProof.Rows
set_option Elab.async false
set_option maxRecDepth 100000
set_option linter.unusedVariables false
set_option linter.unusedSimpArgs false
set_option maxHeartbeats 8000000
namespace Mine
open_top hd for PySem.Challenge.rw_pq0137_01
set_option maxHeartbeats 3000000
abbrev MStr := PySem.Str
noncomputable def S (l : List Nat) : MStr := ⟨l.toArray⟩
theorem S_list (l : List Nat) : (S l).cps.toList = l := rfl
theorem S_len (l : List Nat) : (S l).length = l.length := by simp [S, PySem.Str.length]
theorem S_app (a b : List Nat) : S a ++ S b = S (a ++ b) := by
  apply PySem.Str.ext'; rw [PySem.Str.cps_append]; simp [S]
theorem S_of (x : MStr) : S x.cps.toList = x := by cases x; rfl
theorem S_mk (l : List Nat) : (⟨l.toArray⟩ : MStr) = S l := rfl
theorem of_len (x : MStr) : x.length = x.cps.toList.length := by simp [PySem.Str.length]
theorem cps_app (a b : MStr) : (a ++ b).cps.toList = a.cps.toList ++ b.cps.toList := by
  rw [PySem.Str.cps_append]; simp

/-! figures -/
noncomputable def nfig (n : Nat) : Nat := if h : n < 10 then 1 else nfig (n / 10) + 1
noncomputable def digs (n : Nat) : List Nat := if h : n < 10 then [48 + n] else digs (n / 10) ++ [48 + n % 10]
noncomputable def pre (n : Nat) : List Nat := if n < 10 then [] else digs (n / 10)
theorem nfig_lt {n : Nat} (h : n < 10) : nfig n = 1 := by rw [nfig]; simp [h]
theorem nfig_ge {n : Nat} (h : ¬ n < 10) : nfig n = nfig (n / 10) + 1 := by rw [nfig]; simp [h]
theorem digs_lt {n : Nat} (h : n < 10) : digs n = [48 + n] := by rw [digs]; simp [h]
theorem digs_ge {n : Nat} (h : ¬ n < 10) : digs n = digs (n / 10) ++ [48 + n % 10] := by rw [digs]; simp [h]
theorem nfig_pos (n : Nat) : 1 ≤ nfig n := by
  by_cases h : n < 10
  · rw [nfig_lt h]; omega
  · rw [nfig_ge h]; omega
theorem digs_len (n : Nat) : (digs n).length = nfig n := by
  induction n using Nat.strongRecOn with
  | _ n ih =>
    by_cases h : n < 10
    · rw [digs_lt h, nfig_lt h]; rfl
    · rw [digs_ge h, nfig_ge h, List.length_append, ih (n / 10) (by omega)]; rfl
theorem digs_pre (n : Nat) : digs n = pre n ++ [48 + n % 10] := by
  unfold pre
  by_cases h : n < 10
  · rw [digs_lt h, if_pos h]; simp; omega
  · rw [digs_ge h, if_neg h]
theorem nfig_le {n : Nat} : ∀ {k : Nat}, n < 10 ^ (k + 1) → nfig n ≤ k + 1 := by
  induction n using Nat.strongRecOn with
  | _ n ih =>
    intro k h
    by_cases h1 : n < 10
    · rw [nfig_lt h1]; omega
    · rw [nfig_ge h1]
      cases k with
      | zero => simp at h; omega
      | succ k =>
        have h2 : n / 10 < 10 ^ (k + 1) := by
          rw [Nat.pow_succ] at h
          exact Nat.div_lt_of_lt_mul (by omega)
        have := ih (n / 10) (by omega) h2
        omega
theorem le_nfig {n : Nat} : ∀ {k : Nat}, 10 ^ k ≤ n → k + 1 ≤ nfig n := by
  induction n using Nat.strongRecOn with
  | _ n ih =>
    intro k h
    cases k with
    | zero => have := nfig_pos n; omega
    | succ k =>
      have h0 : 0 < 10 ^ k := Nat.pos_of_ne_zero (by simp)
      have h1 : ¬ n < 10 := by rw [Nat.pow_succ] at h; omega
      rw [nfig_ge h1]
      have h2 : 10 ^ k ≤ n / 10 := by
        rw [Nat.pow_succ] at h
        exact (Nat.le_div_iff_mul_le (by omega)).mpr h
      have := ih (n / 10) (by omega) h2
      omega
theorem lt_pow_nfig (n : Nat) : n < 10 ^ nfig n := by
  induction n using Nat.strongRecOn with
  | _ n ih =>
    by_cases h : n < 10
    · rw [nfig_lt h]; omega
    · rw [nfig_ge h, Nat.pow_succ]
      have := ih (n / 10) (by omega)
      omega

/-! runs -/
noncomputable def isD (c : Nat) : Bool := decide (48 ≤ c) && decide (c ≤ 57)
noncomputable def runV (a : Nat) : List Nat → Nat
  | [] => a
  | c :: r => if isD c then runV (10 * a + (c - 48)) r else a
noncomputable def runN : List Nat → Nat
  | [] => 0
  | c :: r => if isD c then runN r + 1 else 0

/-! an exponent's text read -/
noncomputable def isE (c : Nat) : Bool := c == 69 || c == 101 || c == 68 || c == 100
noncomputable def expAt (l : List Nat) (i : Nat) : Int × Nat :=
  match l[i]? with
  | none => (0, i)
  | some c =>
    if isE c then
      let b := if l[i + 1]? = some 43 ∨ l[i + 1]? = some 45 then i + 2 else i + 1
      if runN (l.drop b) = 0 then (0, i)
      else ((if l[i + 1]? = some 45 then -1 else 1) * min (runV 0 (l.drop b) : Int) 9999, b + runN (l.drop b))
    else (0, i)
noncomputable def blanksN : List Nat → Nat
  | [] => 0
  | c :: r => if c = 32 ∨ c = 9 then blanksN r + 1 else 0
noncomputable def A0 (l : List Nat) : Nat := blanksN l
noncomputable def A1 (l : List Nat) : Nat := if l[A0 l]? = some 43 ∨ l[A0 l]? = some 45 then A0 l + 1 else A0 l
noncomputable def N1 (l : List Nat) : Nat := runN (l.drop (A1 l))
noncomputable def V1 (l : List Nat) : Nat := runV 0 (l.drop (A1 l))
noncomputable def A2 (l : List Nat) : Nat := A1 l + N1 l
noncomputable def N2 (l : List Nat) : Nat := if l[A2 l]? = some 46 then runN (l.drop (A2 l + 1)) else 0
noncomputable def F2 (l : List Nat) : Nat := if l[A2 l]? = some 46 then V1 l * 10 ^ N2 l + runV 0 (l.drop (A2 l + 1)) else V1 l
noncomputable def A3 (l : List Nat) : Nat := if l[A2 l]? = some 46 ∧ 0 < N1 l + N2 l then A2 l + 1 + N2 l else A2 l
noncomputable def cR (l : List Nat) : Int := if l[A0 l]? = some 45 then 0 - (F2 l : Int) else F2 l
noncomputable def eR (l : List Nat) : Int := (expAt l (A3 l)).1 - N2 l
noncomputable def aR (l : List Nat) : Nat := (expAt l (A3 l)).2
/-! a decimal without its noughts -/
noncomputable def tz (n : Nat) : Nat := if h : n = 0 then 0 else if n % 10 = 0 then tz (n / 10) + 1 else 0
noncomputable def bare (c e : Int) : Int × Int := if c = 0 then (0, 0) else (c / 10 ^ tz c.natAbs, e + tz c.natAbs)
/-! what is shown -/
noncomputable def expText (e : Int) : List Nat := (if e < 0 then [45] else [43]) ++ (if (digs e.natAbs).length < 2 then 48 :: digs e.natAbs else digs e.natAbs)
noncomputable def sizeText (n : Nat) (e d : Int) : List Nat :=
  let f := digs n
  let top := e + f.length - 1
  if 0 ≤ e ∧ top < d then f ++ List.replicate e.toNat 48
  else if e < 0 ∧ 0 ≤ top then f.take (top + 1).toNat ++ 46 :: f.drop (top + 1).toNat
  else if top < 0 ∧ 0 - e ≤ d then 46 :: (List.replicate (0 - e - f.length).toNat 48 ++ f)
  else f.take 1 ++ ((if 1 < f.length then 46 :: f.drop 1 else []) ++ 69 :: expText top)
noncomputable def dText (c e d : Int) : List Nat := if c = 0 then [32, 48] else (if c < 0 then 45 else 32) :: sizeText c.natAbs e d
noncomputable def wholeText (n : Int) : List Nat := (if n < 0 then 45 else 32) :: digs n.natAbs
abbrev MAddr := Addr
abbrev MTok := Tok
abbrev MVal := Value
abbrev MObj := Obj
abbrev MLed := List (Addr × Obj)

/-- what a call of the def at f gives back -/
def Con (w : World) (f : Addr) (dep : Nat) (vs : List Value) (news : MLed) (Out : MLed → Value → Prop) : Prop :=
  ∀ (mean : ExcName → Option Value) (mg mb : PySem.Str → Option Value) (dp un : Nat) (gd : Option (List Code)) (cn : PySem.Str) (cs : Scope) (a : Addr) (ccd : Value) (cl : List (PySem.Str × Addr)) (outer : List Env) (A₀ : Around) (base h₀ : Heap) (L : Addr) (m : PySem.Str → Option Value) (s : Shared) (Q E : Value → Shared → Prop),
    Below A₀ base outer h₀ → Fr h₀ L s.heap m → (Mine.hd.heap_39 w.params).In h₀ → News h₀ L s.heap news →
    Top Mine.hd.view_39 (looseW Mine.hd.view_39 [PySem.Str.ofString "BasicError"]) mean mg mb h₀ → cs.kind = .function →
    dp + dep < recursionLimit → un + 8 * dep < cLine →
    (∀ (v : Value) (news' : MLed) (h' : Heap) (tk' : Nat), Fr h₀ L h' m → News h₀ L h' news' → Out news' v → Q v { s with heap := h', toks := tk' }) →
    wpAny (model PySem.Challenge.rw_pq0137_01.prog w) (ktrTop dp un gd cn cs L a ccd cl outer) (PySem.call (.ref f) vs) Q E s
section
variable {w : World} {f : Addr} {dep : Nat} {vs : List Value} {news : MLed} {Out Out' : MLed → Value → Prop} {mean : ExcName → Option Value} {mg mb : PySem.Str → Option Value} {dp un : Nat} {gd : Option (List Code)} {cn : PySem.Str} {cs : Scope} {a : Addr} {ccd : Value} {cl : List (PySem.Str × Addr)} {outer : List Env} {A₀ : Around} {base h₀ : Heap} {L : Addr} {m : PySem.Str → Option Value} {s : Shared} {Q E : Value → Shared → Prop}
theorem Con.use (C : Con w f dep vs news Out) (hB : Below A₀ base outer h₀) (hF : Fr h₀ L s.heap m) (hX : (Mine.hd.heap_39 w.params).In h₀) (hN : News h₀ L s.heap news)
    (hT : Top Mine.hd.view_39 (looseW Mine.hd.view_39 [PySem.Str.ofString "BasicError"]) mean mg mb h₀) (hk : cs.kind = .function)
    (hd : dp + dep < recursionLimit) (hu : un + 8 * dep < cLine)
    (ret : ∀ (v : Value) (news' : MLed) (h' : Heap) (tk' : Nat), Fr h₀ L h' m → News h₀ L h' news' → Out news' v → Q v { s with heap := h', toks := tk' }) :
    wpAny (model PySem.Challenge.rw_pq0137_01.prog w) (ktrTop dp un gd cn cs L a ccd cl outer) (PySem.call (.ref f) vs) Q E s :=
  C _ _ _ _ _ _ _ _ _ _ _ _ _ _ _ _ _ _ _ _ hB hF hX hN hT hk hd hu ret
theorem Con.mono (C : Con w f dep vs news Out) (h : ∀ n v, Out n v → Out' n v) : Con w f dep vs news Out' := by
  intro mean mg mb dp un gd cn cs a ccd cl outer A₀ base h₀ L m s Q E hB hF hX hN hT hk hdp hun hret
  exact C.use hB hF hX hN hT hk hdp hun fun v n h' tk' F N o => hret v n h' tk' F N (h _ _ o)
theorem con_ret {v : Value} {news' n'' : MLed} {h' : Heap} {tk' : Nat}
    (ret : ∀ (v : Value) (news' : MLed) (h' : Heap) (tk' : Nat), Fr h₀ L h' m → News h₀ L h' news' → Out news' v → Q v { s with heap := h', toks := tk' })
    (F : Fr h₀ L h' m) (N : News h₀ L h' n'') (hs : ∀ p ∈ news', p ∈ n'') (o : Out news' v) : Q v { s with heap := h', toks := tk' } :=
  ret v news' h' tk' F (fun p hp => N p (hs p hp)) o
end
abbrev OutI (news : MLed) (x : Int) : MLed → Value → Prop := fun n' v => n' = news ∧ ∃ t, v = .int x t
abbrev OutS (news : MLed) (x : PySem.Str) : MLed → Value → Prop := fun n' v => n' = news ∧ ∃ t, v = .str x t
theorem outI {news : MLed} {x y : Int} {t : Tok} (h : y = x) : OutI news x news (.int y t) := ⟨rfl, t, by rw [h]⟩
theorem outS {news : MLed} {x y : PySem.Str} {t : Tok} (h : y = x) : OutS news x news (.str y t) := ⟨rfl, t, by rw [h]⟩
theorem outS_get {news n : MLed} {x : MStr} {v : MVal} (h : OutS news x n v) : ∃ y t, y = x ∧ y.length = x.length ∧ news = n ∧ v = .str y t := by
  obtain ⟨rfl, t, rfl⟩ := h; exact ⟨x, t, rfl, rfl, rfl, rfl⟩
theorem outI_get {news n : MLed} {x : Int} {v : MVal} (h : OutI news x n v) : ∃ y t, y = x ∧ news = n ∧ v = .int y t := by
  obtain ⟨rfl, t, rfl⟩ := h; exact ⟨x, t, rfl, rfl, rfl⟩
theorem digs_S_le {x : Int} (h0 : 0 ≤ x) (h : x < 10000000000) : (S (digs x.toNat)).length ≤ 10 := by
  rw [S_len, digs_len]; exact nfig_le (k := 9) (by omega)
theorem l_m : PySem.Str.ofString "-" = S [45] := by decide +kernel
theorem l_p : PySem.Str.ofString "+" = S [43] := by decide +kernel
theorem l_0 : PySem.Str.ofString "0" = S [48] := by decide +kernel
theorem l_b : PySem.Str.ofString " " = S [32] := by decide +kernel
theorem l_d : PySem.Str.ofString "." = S [46] := by decide +kernel
theorem l_E : PySem.Str.ofString "E" = S [69] := by decide +kernel
theorem l_nil : PySem.Str.ofString "" = S [] := by decide +kernel
theorem l_b0 : PySem.Str.ofString " 0" = S [32, 48] := by decide +kernel
theorem abs_nat (e : Int) : (if e < 0 then -e else e).toNat = e.natAbs := by split <;> omega
structure CutMk (n : Nat) : Prop where
def CutTo {τ : Type} (h₀ : Heap) (L : Addr) (news : MLed) (s : Shared) (ps : τ → List (MStr × MVal)) (R : τ → Prop) (f : Flow) (s₂ : Shared) : Prop :=
  f = .next ∧ ∃ (c : τ) (h : Heap) (tk : Nat) (m : MStr → Option Value) (news' : MLed), s₂ = { s with heap := h, toks := tk } ∧ Fr h₀ L h m ∧ News h₀ L h news' ∧ (∀ p ∈ news, p ∈ news') ∧ (∀ p ∈ ps c, m p.1 = some p.2) ∧ R c
theorem cut_end {τ : Type} {h₀ : Heap} {L : Addr} {news news' : MLed} {s : Shared} {ps : τ → List (MStr × MVal)} {R : τ → Prop} {h : Heap} {tk : Nat} {m : MStr → Option Value} (c : τ)
    (F : Fr h₀ L h m) (N : News h₀ L h news') (hs : ∀ p ∈ news, p ∈ news') (hp : ∀ p ∈ ps c, m p.1 = some p.2) (hR : R c) : CutTo h₀ L news s ps R .next { s with heap := h, toks := tk } :=
  ⟨rfl, c, h, tk, m, news', rfl, F, N, hs, hp, hR⟩
theorem cut_st {τ : Type} (n : Nat) (ps : τ → List (MStr × MVal)) (R : τ → Prop) {M : Model} {A : Around} {T : Sem Flow} {Q : Flow → Shared → Prop} {E : Value → Shared → Prop} {s : Shared} {h₀ : Heap} {L : Addr} {m₀ : MStr → Option Value} {news : MLed}
    (_F : Fr h₀ L s.heap m₀) (_N : News h₀ L s.heap news) (hi : CutMk n → wpAny M A T (fun f s₂ => CutTo h₀ L news s ps R f s₂) E s)
    (ho : ∀ (c : τ) (u : MStr → Option Value) (h : Heap) (tk : Nat), R c → Fr h₀ L h (kstB u (ps c)) → News h₀ L h news → Q .next { s with heap := h, toks := tk }) : wpAny M A T Q E s := by
  refine wpAny_mono (hi ⟨⟩) (fun f s₂ q => ?_) fun _ _ h => h
  obtain ⟨rfl, c, h, tk, m, news', rfl, F, N, hs, hp, hR⟩ := q
  refine ho c m h tk hR ?_ fun p hp => N p (hs p hp)
  have e : kstB m (ps c) = m := by
    funext y
    exact kstB_eq hp fun _ => rfl
  rw [e]
  exact F
local macro_rules | `(tactic| cell_ask $C:term) => `(tactic| (
  refine' Con.use $C ?k1 ?k2 ?k3 ?k4 ?k5 ?kK ?kd ?ku ?kR
  (case k1 => first | k_asm | fail "con: the frames below")
  (case k2 => first | k_asm | fail "con: the frame")
  (case k3 => first | k_asm | fail "con: the written part")
  (case k4 => first | k_asm | fail "con: the ledger")
  (case k5 => first | k_asm | fail "con: the top")
  (case kK => first | exact rfl | assumption | fail "con: the caller")
  (case kd => first | ktr_room | fail "con: the room")
  (case ku => first | ktr_units | fail "con: the units")))
local macro_rules | `(tactic| cell_end $hret:term $o:term $x:term) => `(tactic| (refine' con_ret $hret ?ca ?cb ?cc $o; (case ca => k_asm); (case cb => assumption); (case cc => kcj_all)))
local macro_rules | `(tactic| walk_at "call ref") => `(tactic| k_extra "call ref")
local macro_rules | `(tactic| walk_at "binaryOp Mult int int") => `(tactic| k_extra "binaryOp Mult int int")
local macro_rules | `(tactic| walk_at "subscriptTail") => `(tactic| k_extra "subscriptTail")
local macro_rules | `(tactic| walk_at "setItem ref str") => `(tactic| k_extra "setItem ref str")
local macro_rules | `(tactic| walk_at "exec For Name Tuple cons nil") => `(tactic| k_extra "exec For Name Tuple cons nil")
/-! P00 -/
theorem slice_to {l : List Nat} {j : Int} (h0 : 0 ≤ j) (h1 : j ≤ l.length) : Txt.slice (S l) none (some j) = S (l.take j.toNat) := by
  have h := slice_closes_toL (x := S l) h0 (by rw [S_len]; exact h1)
  rw [eq_of_beq h, S_list]
  simp [S]
theorem slice_from {l : List Nat} {i : Int} (h0 : 0 ≤ i) (h1 : i ≤ l.length) : Txt.slice (S l) (some i) none = S (l.drop i.toNat) := by
  have h := slice_closes_fromL (x := S l) (b := l.length) h0 (by rw [S_len]; exact h1) (by rw [S_len])
  rw [eq_of_beq h, S_list]
  unfold S; congr 2
  apply List.take_of_length_le
  rw [List.length_drop]; lia
theorem slice_mid {l : List Nat} {i j : Int} (h0 : 0 ≤ i) (h1 : i ≤ j) (h2 : j ≤ l.length) : Txt.slice (S l) (some i) (some j) = S ((l.drop i.toNat).take (j - i).toNat) := by
  have h := slice_closesL (x := S l) h0 h1 (by rw [S_len]; exact h2)
  rw [eq_of_beq h, S_list]; rfl
theorem fold_app (l : List (Array Nat)) : ∀ a : Array Nat, l.foldl (· ++ ·) a = a ++ l.foldl (· ++ ·) #[] := by
  induction l with
  | nil => intro a; simp
  | cons b r ih => intro a; simp only [List.foldl_cons]; rw [ih (a ++ b), ih (#[] ++ b)]; simp
theorem rep_one (c n : Nat) : (List.replicate n (#[c] : Array Nat)).foldl (· ++ ·) #[] = (List.replicate n c).toArray := by
  induction n with
  | zero => rfl
  | succ n ih => rw [List.replicate_succ, List.foldl_cons, fold_app, ih, List.replicate_succ]; simp
theorem mul_one_S (c : Nat) (n : Int) : Txt.mul (S [c]) n = S (List.replicate n.toNat c) := by
  unfold Txt.mul
  by_cases h : n < 1
  · rw [if_pos h, show n.toNat = 0 by lia]; rfl
  · rw [if_neg h]
    by_cases h1 : n = 1
    · subst h1; rfl
    · rw [if_neg (by simp [S_len, h1])]
      show PySem.Str.mk _ = _
      rw [show (S [c]).cps = #[c] from rfl, rep_one]; rfl
theorem item_S {l : List Nat} {i : Int} {c : Nat} (h0 : 0 ≤ i) (h : l[i.toNat]? = some c) : Txt.item (S l) i = S [c] := by
  have hl : i.toNat < l.length := (List.getElem?_eq_some_iff.mp h).1
  unfold Txt.item Txt.charAt
  have : seqIndex? i (S l).length = some i.toNat := by
    unfold seqIndex?
    rw [S_len]
    simp
    lia
  rw [this]
  simp [S, h]
theorem item0_S {l : List Nat} (h : 1 ≤ l.length) : Txt.item (S l) 0 = S (l.take 1) := by
  cases l with
  | nil => simp at h
  | cons a r => exact item_S (by lia) rfl
theorem S_inj {a b : List Nat} : S a = S b ↔ a = b := ⟨fun h => by simpa [S] using h, fun h => by rw [h]⟩
theorem range_none {a b : Int} (h : ¬ a < b) : sliceRange a b 1 = [] := by
  unfold sliceRange
  rw [if_pos (by decide), if_neg h]; rfl
theorem slice_one {x : MStr} {j : Int} (h0 : 0 ≤ j) : Txt.slice x (some j) (some (j + 1)) = S (x.cps.toList[j.toNat]?).toList := by
  rw [← S_of x]
  generalize x.cps.toList = l
  rw [S_list]
  by_cases h : j < l.length
  · rw [slice_mid h0 (by lia) (by lia)]
    have hl : j.toNat < l.length := by lia
    rw [show (j + 1 - j).toNat = 1 by lia, List.drop_eq_getElem_cons hl, List.getElem?_eq_getElem hl]
    rfl
  · rw [List.getElem?_eq_none (by lia)]
    have e : Builtin.Str.strSliceIndices (some j) (some (j + 1)) 1 (S l).length = [] := by
      refine range_none ?_
      rw [S_len]
      simp only [show (1 : Int) > 0 by decide, if_true]
      (repeat' split) <;> lia
    unfold Txt.slice
    rw [e]
    by_cases hn : l = []
    · subst hn; rfl
    · rw [if_neg]
      · rfl
      · cases l with
        | nil => exact absurd rfl hn
        | cons a r => simp [S_len]
theorem one_is {x : MStr} {j : Int} {c : Nat} {k : String} (h0 : 0 ≤ j) (hk : PySem.Str.ofString k = S [c]) : (Txt.slice x (some j) (some (j + 1)) == PySem.Str.ofString k) = decide (x.cps.toList[j.toNat]? = some c) := by
  rw [slice_one h0, hk, Bool.eq_iff_iff, beq_iff_eq, decide_eq_true_eq, S_inj]
  cases x.cps.toList[j.toNat]? with
  | none => simp
  | some a => simp
theorem one_in {x : MStr} {j : Int} {c : Nat} {k : String} (h0 : 0 ≤ j) (hk : PySem.Str.ofString k = S [c]) : (PySem.Str.ofString k == Txt.slice x (some j) (some (j + 1))) = decide (x.cps.toList[j.toNat]? = some c) := by
  rw [← one_is h0 hk, Bool.eq_iff_iff, beq_iff_eq, beq_iff_eq]; exact eq_comm
theorem is_pm {x : MStr} {j : Int} (h0 : 0 ≤ j) : ([PySem.Str.ofString "+", PySem.Str.ofString "-"].any fun y => y == Txt.slice x (some j) (some (j + 1))) = decide (x.cps.toList[j.toNat]? = some 43 ∨ x.cps.toList[j.toNat]? = some 45) := by
  rw [Bool.eq_iff_iff]
  simp only [List.any_cons, List.any_nil, Bool.or_false, one_in h0 l_p, one_in h0 l_m, Bool.or_eq_true, decide_eq_true_eq]
/-! P01 -/
theorem fo_state {x many bound : Int} (hx : x < 10000000000) (hx0 : 0 ≤ x) (h1 : 1 ≤ many) (h2 : many ≤ nfig x.toNat) (h3 : bound = 10 ^ many.toNat) (h : bound ≤ x) :
    1 ≤ many + 1 ∧ many + 1 ≤ nfig x.toNat ∧ bound * 10 = 10 ^ (many + 1).toNat := by
  obtain ⟨k, rfl⟩ : ∃ k : Nat, many = k := ⟨many.toNat, by lia⟩
  simp only [Int.toNat_natCast] at h3
  refine ⟨by lia, ?_, ?_⟩
  · have : 10 ^ k ≤ x.toNat := by
      subst h3
      have : ((10 ^ k : Nat) : Int) ≤ x := by simpa using h
      lia
    have := le_nfig this
    lia
  · rw [show ((k : Int) + 1).toNat = k + 1 by lia, Int.pow_succ, h3]
theorem nfig_ten {x : Int} (hx0 : 0 ≤ x) (hx : x < 10000000000) : nfig x.toNat ≤ 10 := nfig_le (k := 9) (by lia)
theorem fo_meas {x many : Int} (hx : x < 10000000000) (hx0 : 0 ≤ x) (h1 : 1 ≤ many) (h2 : many ≤ nfig x.toNat) : (11 - (many + 1)).toNat < (11 - many).toNat := by
  have := nfig_ten hx0 hx
  lia
theorem fo_end {x many bound : Int} (hx0 : 0 ≤ x) (h1 : 1 ≤ many) (h2 : many ≤ nfig x.toNat) (h3 : bound = 10 ^ many.toNat) (h : ¬ bound ≤ x) : many = nfig x.toNat := by
  obtain ⟨k, rfl⟩ : ∃ k : Nat, many = k + 1 := ⟨many.toNat - 1, by lia⟩
  rw [show ((k : Int) + 1).toNat = k + 1 by lia] at h3
  have : x.toNat < 10 ^ (k + 1) := by
    have : x < ((10 ^ (k + 1) : Nat) : Int) := by subst h3; simpa using h
    lia
  have := nfig_le this
  lia
theorem c_figures_of (w : World) (x : Int) (t : MTok) (news : MLed) (hx0 : 0 ≤ x) (hx : x < 10000000000) :
    Con w 44 1 [.int x t] news (OutI news (nfig x.toNat)) := by
  intro mean mg mb dp un gd cn cs a ccd cl outer A₀ base h₀ L m s Q E hB hF hX hN hT hk hdp hun hret
  k_with "exec While Compare cons nil" => k_while (fun _ many bound => 1 ≤ many ∧ many ≤ nfig x.toNat ∧ bound = 10 ^ many.toNat) (fun _ many _ => (11 - many).toNat) "many" "bound"
  k_with "state" => first | exact ⟨by omega, by have := nfig_pos x.toNat; omega, rfl⟩ | exact fo_state hx hx0 (by assumption) (by assumption) (by assumption) (by assumption)
  k_with "measure" => exact fo_meas hx hx0 (by assumption) (by assumption)
  refine wpAny_call ?_
  k_dflt cell_enter
  k_steps
  all_goals first | exact con_ret hret (by k_asm) (by assumption) (by kcj_all) (outI (fo_end hx0 (by assumption) (by assumption) (by assumption) (by assumption))) | skip
  k_with_none
/-! P02 -/
theorem pre_ge {n : Nat} (h : ¬ n < 10) : pre n = digs (n / 10) := by unfold pre; rw [if_neg h]
theorem pre_lt {n : Nat} (h : n < 10) : pre n = [] := by unfold pre; rw [if_pos h]
theorem one_list (n : Nat) : (⟨#[n]⟩ : MStr).cps.toList = [n] := rfl
theorem ft_start {x : Int} (hx0 : 0 ≤ x) : pre x.toNat ++ (⟨#[(48 + x.fmod 10).toNat]⟩ : MStr).cps.toList = digs x.toNat := by
  rw [digs_pre, one_list]
  congr 2
  rw [Int.fmod_eq_emod_of_nonneg _ (by lia)]
  lia
theorem ft_turn {x n : Int} {found : MStr} (_h0 : 0 ≤ n) (h9 : 9 < n) (hI : pre n.toNat ++ found.cps.toList = digs x.toNat) :
    pre (n.fdiv 10).toNat ++ ((⟨#[(48 + (n.fdiv 10).fmod 10).toNat]⟩ : MStr) ++ found).cps.toList = digs x.toNat := by
  have e : (n.fdiv 10).toNat = n.toNat / 10 := by rw [Int.fdiv_eq_ediv_of_nonneg _ (by lia)]; lia
  have e2 : (48 + (n.fdiv 10).fmod 10).toNat = 48 + n.toNat / 10 % 10 := by
    rw [Int.fmod_eq_emod_of_nonneg _ (by lia), Int.fdiv_eq_ediv_of_nonneg _ (by lia)]
    lia
  rw [e2, e, cps_app, one_list, ← List.append_assoc, ← digs_pre, ← pre_ge (by lia), hI]
theorem ft_len {x n : Int} {found : MStr} (hx0 : 0 ≤ x) (hx : x < 10000000000) (hI : pre n.toNat ++ found.cps.toList = digs x.toNat) : found.length ≤ 10 := by
  have h := congrArg List.length hI
  rw [List.length_append, digs_len] at h
  have := nfig_le (n := x.toNat) (k := 9) (by lia)
  rw [of_len]; lia
theorem ft_end {x n : Int} {found : MStr} (h0 : 0 ≤ n) (h9 : ¬ 9 < n) (hI : pre n.toNat ++ found.cps.toList = digs x.toNat) : found = S (digs x.toNat) := by
  rw [pre_lt (by lia), List.nil_append] at hI
  rw [← hI, S_of]
theorem ft_div {x n : Int} (h0 : 0 ≤ n) (h1 : n ≤ x) : 0 ≤ n.fdiv 10 ∧ n.fdiv 10 ≤ x := by
  rw [Int.fdiv_eq_ediv_of_nonneg _ (by lia)]; lia
theorem ft_meas {n : Int} (h9 : 9 < n) : (n.fdiv 10).toNat < n.toNat := by
  rw [Int.fdiv_eq_ediv_of_nonneg _ (by lia)]; lia
theorem ft_word {x n : Int} {found : MStr} (hx0 : 0 ≤ x) (hx : x < 10000000000) (h0 : 0 ≤ n) (h1 : n ≤ x) (h9 : 9 < n) (hI : pre n.toNat ++ found.cps.toList = digs x.toNat) :
    0 ≤ n.fdiv 10 ∧ n.fdiv 10 ≤ x ∧ ((⟨#[(48 + (n.fdiv 10).fmod 10).toNat]⟩ : MStr) ++ found).length ≤ 10 ∧ pre (n.fdiv 10).toNat ++ ((⟨#[(48 + (n.fdiv 10).fmod 10).toNat]⟩ : MStr) ++ found).cps.toList = digs x.toNat :=
  ⟨(ft_div h0 h1).1, (ft_div h0 h1).2, ft_len hx0 hx (ft_turn h0 h9 hI), ft_turn h0 h9 hI⟩
theorem c_figures_text (w : World) (x : Int) (t : MTok) (news : MLed) (hx0 : 0 ≤ x) (hx : x < 10000000000) :
    Con w 66 1 [.int x t] news (OutS news (S (digs x.toNat))) := by
  intro mean mg mb dp un gd cn cs a ccd cl outer A₀ base h₀ L m s Q E hB hF hX hN hT hk hdp hun hret
  k_with "exec While Compare cons nil" => k_while (fun _ found number => 0 ≤ number ∧ number ≤ x ∧ found.length ≤ 10 ∧ pre number.toNat ++ found.cps.toList = digs x.toNat) (fun _ _ number => number.toNat) "found" "number"
  k_with "state" => first | exact ⟨by omega, by omega, ft_len hx0 hx (ft_start hx0), ft_start hx0⟩ | exact ft_word hx0 hx (by assumption) (by assumption) (by assumption) (by assumption)
  k_with "measure" => exact ft_meas (by assumption)
  refine wpAny_call ?_
  k_dflt cell_enter
  k_steps
  all_goals first | exact con_ret hret (by k_asm) (by assumption) (by kcj_all) (outS (ft_end (by assumption) (by assumption) (by assumption))) | skip
  k_with_none
/-! P03 -/
noncomputable def dropD (l : List Nat) (i : Int) : List Nat := l.drop i.toNat
theorem item_eq {x : MStr} {i : Int} (h0 : 0 ≤ i) (h1 : i < x.length) : Txt.item x i = S [(x.cps.toList[i.toNat]?).getD 0] := by
  unfold Txt.item Txt.charAt
  have : seqIndex? i x.length = some i.toNat := by
    unfold seqIndex?
    simp
    lia
  rw [this]
  simp [S]
theorem drop_at {x : MStr} {i : Int} (h0 : 0 ≤ i) (h1 : i < x.length) : x.cps.toList.drop i.toNat = (x.cps.toList[i.toNat]?).getD 0 :: x.cps.toList.drop (i + 1).toNat := by
  have hl : i.toNat < x.cps.toList.length := by rw [← of_len]; lia
  rw [List.drop_eq_getElem_cons hl, show (i + 1).toNat = i.toNat + 1 by lia]
  simp [List.getElem?_eq_getElem hl]
theorem drop_out {x : MStr} {i : Int} (h1 : ¬ i < x.length) : x.cps.toList.drop i.toNat = [] := by
  apply List.drop_eq_nil_of_le
  rw [← of_len]; lia
theorem lt0 {c : Nat} : (S [c]).cps.toList < (PySem.Str.ofString "0").cps.toList ↔ c < 48 := by
  rw [show (PySem.Str.ofString "0").cps.toList = [48] by decide +kernel, S_list]
  simp [List.cons_lt_cons_iff]
theorem gt9 {c : Nat} : (PySem.Str.ofString "9").cps.toList < (S [c]).cps.toList ↔ 57 < c := by
  rw [show (PySem.Str.ofString "9").cps.toList = [57] by decide +kernel, S_list]
  simp [List.cons_lt_cons_iff]
theorem isD_iff {c : Nat} : isD c = true ↔ 48 ≤ c ∧ c ≤ 57 := by unfold isD; rw [Bool.and_eq_true, decide_eq_true_eq, decide_eq_true_eq]
theorem isD_not {c : Nat} (h : c < 48 ∨ 57 < c) : isD c = false := by
  cases e : isD c with
  | false => rfl
  | true => rw [isD_iff] at e; lia
theorem runV_cons {a c : Nat} {r : List Nat} (h : isD c = true) : runV a (c :: r) = runV (10 * a + (c - 48)) r := by rw [runV, if_pos h]
theorem runN_cons {c : Nat} {r : List Nat} (h : isD c = true) : runN (c :: r) = runN r + 1 := by rw [runN, if_pos h]
theorem runV_not {a c : Nat} {r : List Nat} (h : isD c = false) : runV a (c :: r) = a := by rw [runV, h]; rfl
theorem runN_not {c : Nat} {r : List Nat} (h : isD c = false) : runN (c :: r) = 0 := by rw [runN, h]; rfl
theorem notD_lt {x : MStr} {i : Int} (h0 : 0 ≤ i) (h1 : i < x.length) (h : (Txt.item x i).cps.toList < (PySem.Str.ofString "0").cps.toList) : isD ((x.cps.toList[i.toNat]?).getD 0) = false := by
  rw [item_eq h0 h1, lt0] at h
  exact isD_not (.inl h)
theorem notD_gt {x : MStr} {i : Int} (h0 : 0 ≤ i) (h1 : i < x.length) (h : (PySem.Str.ofString "9").cps.toList < (Txt.item x i).cps.toList) : isD ((x.cps.toList[i.toNat]?).getD 0) = false := by
  rw [item_eq h0 h1, gt9] at h
  exact isD_not (.inr h)
theorem isD_of {x : MStr} {i : Int} (h0 : 0 ≤ i) (h1 : i < x.length) (h : ¬ (Txt.item x i).cps.toList < (PySem.Str.ofString "0").cps.toList) (h' : ¬ (PySem.Str.ofString "9").cps.toList < (Txt.item x i).cps.toList) :
    isD ((x.cps.toList[i.toNat]?).getD 0) = true := by
  rw [item_eq h0 h1, lt0] at h
  rw [item_eq h0 h1, gt9] at h'
  exact isD_iff.mpr (by lia)
theorem ord_item {x : MStr} {i : Int} (h0 : 0 ≤ i) (h1 : i < x.length) : (Txt.item x i).cps.getD 0 0 = (x.cps.toList[i.toNat]?).getD 0 := by
  rw [item_eq h0 h1]; rfl
/-- between the turns of run_of_figures -/
def RunI (x : MStr) (i at' found : Int) : Prop :=
  0 ≤ found ∧ i ≤ at' ∧ found < 10 ^ (at' - i).toNat ∧ runV found.toNat (x.cps.toList.drop at'.toNat) = runV 0 (x.cps.toList.drop i.toNat) ∧
  at' - i + runN (x.cps.toList.drop at'.toNat) = runN (x.cps.toList.drop i.toNat)
theorem runI_start (x : MStr) (i : Int) : RunI x i i 0 := ⟨by lia, by lia, by simp, rfl, by lia⟩
theorem runI_turn {x : MStr} {i at' found : Int} (hi : 0 ≤ i) (h1 : at' < x.length) (h2 : ¬ (Txt.item x at').cps.toList < (PySem.Str.ofString "0").cps.toList) (h3 : ¬ (PySem.Str.ofString "9").cps.toList < (Txt.item x at').cps.toList)
    (hI : RunI x i at' found) : RunI x i (at' + 1) (10 * found + ((Txt.item x at').cps.getD 0 0 : Nat) - 48) := by
  obtain ⟨a, b, c, d, e⟩ := hI
  have hat : 0 ≤ at' := by lia
  have hD := isD_of hat h1 h2 h3
  rw [ord_item hat h1]
  rw [drop_at hat h1] at d e
  generalize hg : (x.cps.toList[at'.toNat]?).getD 0 = g at *
  rw [runV_cons hD] at d
  rw [runN_cons hD] at e
  have hg2 := isD_iff.mp hD
  refine ⟨by lia, by lia, ?_, ?_, by lia⟩
  · rw [show (at' + 1 - i).toNat = (at' - i).toNat + 1 by lia, Int.pow_succ]
    lia
  · rw [← d]
    congr 1
    lia
theorem pow_le40 {k : Nat} (h : k ≤ 40) : (10 : Int) ^ k ≤ 10 ^ 40 := by
  have : (10 : Nat) ^ k ≤ 10 ^ 40 := Nat.pow_le_pow_right (by lia) h
  exact_mod_cast this
theorem runI_lt {x : MStr} {i at' found : Int} (hi : 0 ≤ i) (h : at' ≤ 40) (hI : RunI x i at' found) : found < 10000000000000000000000000000000000000000 := by
  obtain ⟨a, b, c, d, e⟩ := hI
  have := pow_le40 (k := (at' - i).toNat) (by lia)
  have e40 : (10 : Int) ^ 40 = 10000000000000000000000000000000000000000 := by decide +kernel
  lia
theorem runI_word {x : MStr} {i at' found : Int} (hx : x.length ≤ 40) (hi : 0 ≤ i) (h0 : 0 ≤ at') (h1 : at' < x.length) (h2 : ¬ (Txt.item x at').cps.toList < (PySem.Str.ofString "0").cps.toList) (h3 : ¬ (PySem.Str.ofString "9").cps.toList < (Txt.item x at').cps.toList)
    (hI : RunI x i at' found) : 0 ≤ at' + 1 ∧ 0 ≤ 10 * found + ((Txt.item x at').cps.getD 0 0 : Nat) - 48 ∧ 10 * found + ((Txt.item x at').cps.getD 0 0 : Nat) - 48 < 10000000000000000000000000000000000000000 ∧ at' + 1 ≤ 40 ∧ RunI x i (at' + 1) (10 * found + ((Txt.item x at').cps.getD 0 0 : Nat) - 48) := by
  have h := runI_turn hi h1 h2 h3 hI
  exact ⟨by lia, h.1, runI_lt hi (by lia) h, by lia, h⟩
theorem runI_end {x : MStr} {i at' found : Int} {r : List Nat} (_hi : 0 ≤ i) (hI : RunI x i at' found) (e : x.cps.toList.drop at'.toNat = r) (hr : ∀ c r', r = c :: r' → isD c = false) :
    found = runV 0 (x.cps.toList.drop i.toNat) ∧ at' - i = runN (x.cps.toList.drop i.toNat) ∧ at' = i + runN (x.cps.toList.drop i.toNat) := by
  obtain ⟨a, b, c, d, f⟩ := hI
  rw [e] at d f
  cases r with
  | nil => simp only [runV, runN] at d f; lia
  | cons g r' =>
    have hg := hr g r' rfl
    rw [runV_not hg] at d
    rw [runN_not hg] at f
    lia
theorem runI_end1 {x : MStr} {i at' found : Int} (hi : 0 ≤ i) (h1 : ¬ at' < x.length) (hI : RunI x i at' found) :
    found = runV 0 (x.cps.toList.drop i.toNat) ∧ at' - i = runN (x.cps.toList.drop i.toNat) ∧ at' = i + runN (x.cps.toList.drop i.toNat) :=
  runI_end hi hI (drop_out h1) (fun _ _ h => nomatch h)
theorem runI_end2 {x : MStr} {i at' found : Int} (hi : 0 ≤ i) (h0 : 0 ≤ at') (h1 : at' < x.length) (hI : RunI x i at' found) (h : isD ((x.cps.toList[at'.toNat]?).getD 0) = false) :
    found = runV 0 (x.cps.toList.drop i.toNat) ∧ at' - i = runN (x.cps.toList.drop i.toNat) ∧ at' = i + runN (x.cps.toList.drop i.toNat) :=
  runI_end hi hI (drop_at h0 h1) (fun c r' e => by cases e; exact h)
abbrev OutRun (news : MLed) (a b c : Int) : MLed → Value → Prop := fun n' v => ∃ D t1 t2 t3, v = .ref D ∧ n' = (D, ({ cls := .type "tuple", data := .seq #[.int a t1, .int b t2, .int c t3] } : MObj)) :: news ∧ ∀ p ∈ news, p.1 < D
theorem outRun {news : MLed} {a b c a' b' c' : Int} {D : MAddr} {t1 t2 t3 : MTok} (h : a' = a ∧ b' = b ∧ c' = c) (hl : AllLt D news) :
    OutRun news a b c ((D, ({ cls := .type "tuple", data := .seq #[.int a' t1, .int b' t2, .int c' t3] } : MObj)) :: news) (.ref D) := by
  obtain ⟨rfl, rfl, rfl⟩ := h
  exact ⟨D, t1, t2, t3, rfl, rfl, fun p hp => ktn_ltOf hl p hp⟩
theorem c_run (w : World) (x : MStr) (t : MTok) (i : Int) (t2 : MTok) (news : MLed) (hi0 : 0 ≤ i) (hi1 : i ≤ 40) (hx : x.length ≤ 40) :
    Con w 101 1 [.str x t, .int i t2] news (OutRun news (runV 0 (x.cps.toList.drop i.toNat)) (runN (x.cps.toList.drop i.toNat)) (i + runN (x.cps.toList.drop i.toNat))) := by
  intro mean mg mb dp un gd cn cs a ccd cl outer A₀ base h₀ L m s Q E hB hF hX hN hT hk hdp hun hret
  k_with "exec While BoolOp" => k_while (fun _ found at' => 0 ≤ at' ∧ 0 ≤ found ∧ found < 10000000000000000000000000000000000000000 ∧ at' ≤ 40 ∧ RunI x i at' found) (fun _ _ at' => (40 - at').toNat) "found" "at"
  k_with "state" => first | exact ⟨by omega, by omega, by omega, by omega, runI_start x i⟩ | exact runI_word hx hi0 (by assumption) (by assumption) (by assumption) (by assumption) (by assumption)
  refine wpAny_call ?_
  k_dflt cell_enter
  k_steps
  all_goals first
    | exact con_ret hret (by k_asm) (by assumption) (by kcj_all) (outRun (runI_end1 hi0 (by assumption) (by assumption)) (by simp_all))
    | exact con_ret hret (by k_asm) (by assumption) (by kcj_all) (outRun (runI_end2 hi0 (by assumption) (by assumption) (by assumption) (notD_lt (by assumption) (by assumption) (by assumption))) (by simp_all))
    | exact con_ret hret (by k_asm) (by assumption) (by kcj_all) (outRun (runI_end2 hi0 (by assumption) (by assumption) (by assumption) (notD_gt (by assumption) (by assumption) (by assumption))) (by simp_all))
    | skip
  k_with_none
theorem run_fit {x : MStr} {i : Int} (h0 : 0 ≤ i) (h : i ≤ x.length) : i + runN (x.cps.toList.drop i.toNat) ≤ x.length := by
  have key : ∀ l : List Nat, runN l ≤ l.length := by
    intro l
    induction l with
    | nil => exact Nat.le_refl _
    | cons c r ih => unfold runN; split <;> simp only [List.length_cons] <;> lia
  have := key (x.cps.toList.drop i.toNat)
  rw [List.length_drop, ← of_len] at this
  lia
theorem runV_lt : ∀ (l : List Nat) (a k : Nat), a < 10 ^ k → runV a l < 10 ^ (k + runN l)
  | [], a, k, h => by simpa [runV, runN] using h
  | c :: r, a, k, h => by
    cases hc : isD c with
    | false => rw [runV_not hc, runN_not hc]; simpa using h
    | true =>
      rw [runV_cons hc, runN_cons hc]
      have := isD_iff.mp hc
      have := runV_lt r (10 * a + (c - 48)) (k + 1) (by rw [Nat.pow_succ]; lia)
      rw [show k + (runN r + 1) = k + 1 + runN r by lia]
      exact this
theorem c_run2 (w : World) (x : MStr) (t : MTok) (i : Int) (t2 : MTok) (news : MLed) (hi0 : 0 ≤ i) (hi1 : i ≤ x.length) (hx : x.length ≤ 40) :
    Con w 101 1 [.str x t, .int i t2] news (fun n' v => ∃ (D : MAddr) (t1 t2 t3 : MTok) (a b c : Int), v = .ref D ∧ n' = (D, ({ cls := .type "tuple", data := .seq #[.int a t1, .int b t2, .int c t3] } : MObj)) :: news ∧ (∀ p ∈ news, p.1 < D) ∧
      a = runV 0 (x.cps.toList.drop i.toNat) ∧ b = runN (x.cps.toList.drop i.toNat) ∧ c = i + b ∧ 0 ≤ a ∧ a < 10000000000000000000000000000000000000000 ∧ 0 ≤ b ∧ c ≤ x.length) := by
  refine Con.mono (c_run w x t i t2 news hi0 (by lia) hx) ?_
  rintro n v ⟨D, t1, t2, t3, rfl, rfl, hl⟩
  have hf := run_fit hi0 hi1
  have hv := runV_lt (x.cps.toList.drop i.toNat) 0 0 (by lia)
  have hp : (10 : Nat) ^ (0 + runN (x.cps.toList.drop i.toNat)) ≤ 10 ^ 40 := Nat.pow_le_pow_right (by lia) (by lia)
  exact ⟨D, t1, t2, t3, _, _, _, rfl, rfl, hl, rfl, rfl, rfl, by lia, by lia, by lia, hf⟩
/-! P04 -/
theorem et {e : Int} {T : MStr} (hT : T = S (digs (if e < 0 then -e else e).toNat)) : (if e < 0 then PySem.Str.ofString "-" else PySem.Str.ofString "+") ++ (if (T.length : Int) < 2 then PySem.Str.ofString "0" ++ T else T) = S (expText e) := by
  subst hT
  rw [abs_nat, S_len, l_m, l_p, l_0]
  unfold expText
  (repeat' split) <;> first | (simp only [S_app]; done) | (simp only [S_app]; rfl) | omega
theorem et1 {e : Int} {T : MStr} (hT : T = S (digs (if e < 0 then -e else e).toNat)) (h : e < 0) (hl : (T.length : Int) < 2) : PySem.Str.ofString "-" ++ (PySem.Str.ofString "0" ++ T) = S (expText e) := by rw [← et hT, if_pos h, if_pos hl]
theorem et2 {e : Int} {T : MStr} (hT : T = S (digs (if e < 0 then -e else e).toNat)) (h : e < 0) (hl : ¬ (T.length : Int) < 2) : PySem.Str.ofString "-" ++ T = S (expText e) := by rw [← et hT, if_pos h, if_neg hl]
theorem et3 {e : Int} {T : MStr} (hT : T = S (digs (if e < 0 then -e else e).toNat)) (h : ¬ e < 0) (hl : (T.length : Int) < 2) : PySem.Str.ofString "+" ++ (PySem.Str.ofString "0" ++ T) = S (expText e) := by rw [← et hT, if_neg h, if_pos hl]
theorem et4 {e : Int} {T : MStr} (hT : T = S (digs (if e < 0 then -e else e).toNat)) (h : ¬ e < 0) (hl : ¬ (T.length : Int) < 2) : PySem.Str.ofString "+" ++ T = S (expText e) := by rw [← et hT, if_neg h, if_neg hl]
theorem c_exponent_text (w : World) (e : Int) (t : MTok) (news : MLed) (h0 : -1000 ≤ e) (h1 : e ≤ 1000) :
    Con w 73 2 [.int e t] news (OutS news (S (expText e))) := by
  k_with "call ref" => ((k_here; k_dflt (cell_ask (c_figures_text _ _ _ _ ?_ ?_)); (next => first | omega | (split <;> omega)); (next => first | omega | (split <;> omega)); (intro v9 n9 h9 tk9 F9 N9 ho9); (obtain ⟨T9, t9, hT9, hl9, hn9, hv9⟩ := outS_get ho9); clear ho9; subst hn9; subst hv9; rw [S_len, digs_len] at hl9; (try dsimp only); (try k_fold)))
  intro mean mg mb dp un gd cn cs a ccd cl outer A₀ base h₀ L m s Q E hB hF hX hN hT hk hdp hun hret
  have hlen : nfig (if e < 0 then -e else e).toNat ≤ 4 := nfig_le (k := 3) (by split <;> omega)
  refine wpAny_call ?_
  k_dflt cell_enter
  k_steps
  all_goals first
    | exact con_ret hret (by k_asm) (by assumption) (by kcj_all) (outS (et1 (by assumption) (by assumption) (by assumption)))
    | exact con_ret hret (by k_asm) (by assumption) (by kcj_all) (outS (et2 (by assumption) (by assumption) (by assumption)))
    | exact con_ret hret (by k_asm) (by assumption) (by kcj_all) (outS (et3 (by assumption) (by assumption) (by assumption)))
    | exact con_ret hret (by k_asm) (by assumption) (by kcj_all) (outS (et4 (by assumption) (by assumption) (by assumption)))
    | skip
  k_with_none
/-! P05 -/
theorem wt1 {n : Int} {T : MStr} (hT : T = S (digs (if n < 0 then -n else n).toNat)) (h : n < 0) : PySem.Str.ofString "-" ++ T = S (wholeText n) := by
  subst hT; rw [abs_nat, l_m, S_app]; unfold wholeText; rw [if_pos h]; rfl
theorem wt2 {n : Int} {T : MStr} (hT : T = S (digs (if n < 0 then -n else n).toNat)) (h : ¬ n < 0) : PySem.Str.ofString " " ++ T = S (wholeText n) := by
  subst hT; rw [abs_nat, l_b, S_app]; unfold wholeText; rw [if_neg h]; rfl
theorem c_whole_text (w : World) (n : Int) (t : MTok) (news : MLed) (h0 : -10000000000 < n) (h1 : n < 10000000000) :
    Con w 94 2 [.int n t] news (OutS news (S (wholeText n))) := by
  k_with "call ref" => ((k_here; k_dflt (cell_ask (c_figures_text _ _ _ _ ?_ ?_)); (next => first | omega | (split <;> omega)); (next => first | omega | (split <;> omega)); (intro v9 n9 h9 tk9 F9 N9 ho9); (obtain ⟨T9, t9, hT9, hl9, hn9, hv9⟩ := outS_get ho9); clear ho9; subst hn9; subst hv9; rw [S_len, digs_len] at hl9; (try dsimp only); (try k_fold)))
  intro mean mg mb dp un gd cn cs a ccd cl outer A₀ base h₀ L m s Q E hB hF hX hN hT hk hdp hun hret
  have hlen : nfig (if n < 0 then -n else n).toNat ≤ 10 := nfig_le (k := 9) (by split <;> omega)
  refine wpAny_call ?_
  k_dflt cell_enter
  k_steps
  all_goals first
    | exact con_ret hret (by k_asm) (by assumption) (by kcj_all) (outS (wt1 (by assumption) (by assumption)))
    | exact con_ret hret (by k_asm) (by assumption) (by kcj_all) (outS (wt2 (by assumption) (by assumption)))
    | skip
  k_with_none
/-! P06 -/
theorem expText_len {e : Int} (h0 : -1000 ≤ e) (h1 : e ≤ 1000) : (S (expText e)).length ≤ 6 := by
  have : nfig e.natAbs ≤ 4 := nfig_le (k := 3) (by lia)
  rw [S_len]; unfold expText
  (repeat' split) <;> simp only [List.length_append, List.length_cons, List.length_nil, digs_len] <;> lia
theorem st1 {x e d : Int} {T : MStr} (hT : T = S (digs x.toNat)) (h : 0 ≤ e) (h' : e + T.length - 1 < d) : T ++ Txt.mul (PySem.Str.ofString "0") e = S (sizeText x.toNat e d) := by
  subst hT; rw [S_len] at h'; unfold sizeText; dsimp only
  rw [if_pos ⟨h, h'⟩, l_0, mul_one_S, S_app]
theorem st2 {x e d : Int} {T : MStr} (hT : T = S (digs x.toNat)) (h : ¬ 0 ≤ e) (h' : 0 ≤ e + T.length - 1) :
    Txt.slice T none (some (e + T.length - 1 + 1)) ++ PySem.Str.ofString "." ++ Txt.slice T (some (e + T.length - 1 + 1)) none = S (sizeText x.toNat e d) := by
  subst hT; rw [S_len] at *; unfold sizeText; dsimp only
  rw [if_neg (by lia), if_pos ⟨by lia, h'⟩, l_d, slice_to (by lia) (by lia), slice_from (by lia) (by lia), S_app, S_app]
  simp
theorem st3 {x e d : Int} {T : MStr} (hT : T = S (digs x.toNat)) (h : ¬ 0 ≤ e) (h' : ¬ 0 ≤ e + T.length - 1) (h'' : 0 - e ≤ d) :
    PySem.Str.ofString "." ++ Txt.mul (PySem.Str.ofString "0") (0 - e - T.length) ++ T = S (sizeText x.toNat e d) := by
  subst hT; rw [S_len] at *; unfold sizeText; dsimp only
  rw [if_neg (by lia), if_neg (by lia), if_pos ⟨by lia, h''⟩, l_d, l_0, mul_one_S, S_app, S_app]
  simp
theorem st4 {x e d : Int} {T U : MStr} (hT : T = S (digs x.toNat)) (hU : U = S (expText (e + T.length - 1))) (h : (0 ≤ e ∧ ¬ e + T.length - 1 < d) ∨ (¬ 0 ≤ e ∧ ¬ 0 ≤ e + T.length - 1 ∧ ¬ 0 - e ≤ d)) (h1 : 1 < (T.length : Int)) :
    Txt.item T 0 ++ (PySem.Str.ofString "." ++ Txt.slice T (some 1) none) ++ PySem.Str.ofString "E" ++ U = S (sizeText x.toNat e d) := by
  subst hU; subst hT; rw [S_len] at *; unfold sizeText; dsimp only
  have h2 : 1 < (digs x.toNat).length := by lia
  rw [if_neg (by lia), if_neg (by lia), if_neg (by lia), if_pos h2, l_d, l_E, item0_S (by lia), slice_from (by lia) (by lia), S_app, S_app, S_app, S_app]
  simp
theorem st5 {x e d : Int} {T U : MStr} (hT : T = S (digs x.toNat)) (hU : U = S (expText (e + T.length - 1))) (h : (0 ≤ e ∧ ¬ e + T.length - 1 < d) ∨ (¬ 0 ≤ e ∧ ¬ 0 ≤ e + T.length - 1 ∧ ¬ 0 - e ≤ d)) (h1 : ¬ 1 < (T.length : Int)) :
    Txt.item T 0 ++ PySem.Str.ofString "" ++ PySem.Str.ofString "E" ++ U = S (sizeText x.toNat e d) := by
  subst hU; subst hT; rw [S_len] at *; unfold sizeText; dsimp only
  have hp : 1 ≤ (digs x.toNat).length := by rw [digs_len]; exact nfig_pos _
  have h2 : ¬ 1 < (digs x.toNat).length := by lia
  rw [if_neg (by lia), if_neg (by lia), if_neg (by lia), if_neg h2, l_nil, l_E, item0_S (by lia), S_app, S_app, S_app]
  simp
theorem c_size_text (w : World) (x : Int) (t : MTok) (e : Int) (t2 : MTok) (d : Int) (t3 : MTok) (news : MLed) (h0 : 0 ≤ x) (h1 : x < 10000000000) (he0 : -200 ≤ e) (he1 : e ≤ 200) (hd0 : 0 ≤ d) (hd1 : d ≤ 20) :
    Con w 80 3 [.int x t, .int e t2, .int d t3] news (OutS news (S (sizeText x.toNat e d))) := by
  k_with "call ref" => ((k_here; k_dflt (cell_ask (c_figures_text _ _ _ _ ?_ ?_)); (next => first | lia | (split <;> lia)); (next => first | lia | (split <;> lia)); (intro v9 n9 h9 tk9 F9 N9 ho9); (obtain ⟨T9, t9, hT9, hl9, hn9, hv9⟩ := outS_get ho9); clear ho9; subst hn9; subst hv9; rw [S_len, digs_len] at hl9; (try dsimp only); (try k_fold)))
  k_with "call ref" => ((k_here; k_dflt (cell_ask (c_exponent_text _ _ _ _ ?_ ?_)); (next => first | lia | (split <;> lia)); (next => first | lia | (split <;> lia)); (intro v9 n9 h9 tk9 F9 N9 ho9); (obtain ⟨T8, t9, hT8, hl8, hn9, hv9⟩ := outS_get ho9); clear ho9; subst hn9; subst hv9; (have hl7 := hT8 ▸ expText_len (by lia) (by lia)); (try dsimp only); (try k_fold)))
  intro mean mg mb dp un gd cn cs a ccd cl outer A₀ base h₀ L m s Q E hB hF hX hN hT hk hdp hun hret
  have hlen : nfig x.toNat ≤ 10 := nfig_le (k := 9) (by lia)
  have hpos := nfig_pos x.toNat
  refine wpAny_call ?_
  k_dflt cell_enter
  k_steps
  all_goals cell_end hret (outS ?_) ()
  all_goals first
    | with_reducible exact st1 (by assumption) (by assumption) (by assumption)
    | with_reducible exact st2 (by assumption) (by assumption) (by assumption)
    | with_reducible exact st3 (by assumption) (by assumption) (by assumption) (by assumption)
    | with_reducible exact st4 (by assumption) (by assumption) (by lia) (by assumption)
    | with_reducible exact st5 (by assumption) (by assumption) (by lia) (by assumption)
    | skip
  k_with_none
/-! P07 -/
theorem dt1 {c e d : Int} {T : MStr} (hT : T = S (sizeText (if c < 0 then -c else c).toNat e d)) (h : c ≠ 0) (h' : c < 0) : PySem.Str.ofString "-" ++ T = S (dText c e d) := by
  subst hT; rw [abs_nat, l_m, S_app]; unfold dText; rw [if_neg h, if_pos h']; rfl
theorem dt2 {c e d : Int} {T : MStr} (hT : T = S (sizeText (if c < 0 then -c else c).toNat e d)) (h : c ≠ 0) (h' : ¬ c < 0) : PySem.Str.ofString " " ++ T = S (dText c e d) := by
  subst hT; rw [abs_nat, l_b, S_app]; unfold dText; rw [if_neg h, if_neg h']; rfl
theorem dt0 {c e d : Int} (h : c = 0) : PySem.Str.ofString " 0" = S (dText c e d) := by unfold dText; rw [if_pos h, l_b0]
theorem sizeText_len {n : Nat} {e d : Int} (hn : nfig n ≤ 10) (he0 : -200 ≤ e) (he1 : e ≤ 200) (hd0 : 0 ≤ d) (hd1 : d ≤ 20) : (S (sizeText n e d)).length ≤ 40 := by
  have h1 := nfig_pos n
  have h2 : ∀ e : Int, -1000 ≤ e → e ≤ 1000 → (expText e).length ≤ 6 := fun e h0 h1 => by rw [← S_len]; exact expText_len h0 h1
  have h3 := h2 (e + nfig n - 1) (by lia) (by lia)
  rw [S_len]; unfold sizeText; dsimp only
  rw [digs_len]
  (repeat' split) <;> simp only [List.length_append, List.length_cons, List.length_nil, digs_len, List.length_replicate, List.length_take, List.length_drop] <;> lia
theorem c_d_text (w : World) (D : MAddr) (c : Int) (t1 : MTok) (e : Int) (t2 : MTok) (d : Int) (t3 : MTok) (news : MLed) (hm : (D, ({ cls := .type "tuple", data := .seq #[.int c t1, .int e t2] } : MObj)) ∈ news)
    (h0 : -10000000000 < c) (h1 : c < 10000000000) (he0 : -200 ≤ e) (he1 : e ≤ 200) (hd0 : 0 ≤ d) (hd1 : d ≤ 20) :
    Con w 87 4 [.ref D, .int d t3] news (OutS news (S (dText c e d))) := by
  k_with "call ref" => ((k_here; k_dflt (cell_ask (c_size_text _ _ _ _ _ _ _ _ ?_ ?_ ?_ ?_ ?_ ?_)); (next => first | lia | (split <;> lia)); (next => first | lia | (split <;> lia)); (next => lia); (next => lia); (next => lia); (next => lia); (intro v9 n9 h9 tk9 F9 N9 ho9); (obtain ⟨T9, t9, hT9, hl9, hn9, hv9⟩ := outS_get ho9); clear ho9; subst hn9; subst hv9; (have hl7 := hT9 ▸ sizeText_len (by assumption) (by lia) (by lia) (by lia) (by lia)); (try dsimp only); (try k_fold)))
  intro mean mg mb dp un gd cn cs a ccd cl outer A₀ base h₀ L m s Q E hB hF hX hN hT hk hdp hun hret
  have hlen : nfig (if c < 0 then -c else c).toNat ≤ 10 := nfig_le (k := 9) (by split <;> lia)
  refine wpAny_call ?_
  k_dflt cell_enter
  k_steps
  all_goals cell_end hret (outS ?_) ()
  all_goals first
    | with_reducible exact dt0 (by assumption)
    | with_reducible exact dt1 (by assumption) (by assumption) (by assumption)
    | with_reducible exact dt2 (by assumption) (by assumption) (by assumption)
    | skip
  k_with_none
/-! P08 -/
theorem dText_len {c e d : Int} (hn : nfig c.natAbs ≤ 10) (he0 : -200 ≤ e) (he1 : e ≤ 200) (hd0 : 0 ≤ d) (hd1 : d ≤ 20) : (S (dText c e d)).length ≤ 41 := by
  have h := sizeText_len hn he0 he1 hd0 hd1
  rw [S_len] at *; unfold dText
  (repeat' split) <;> simp only [List.length_cons, List.length_nil] <;> lia
theorem wholeText_len {n : Int} (hn : nfig n.natAbs ≤ 10) : (S (wholeText n)).length ≤ 41 := by
  rw [S_len]; unfold wholeText
  (repeat' split) <;> simp only [List.length_cons, List.length_nil, digs_len] <;> lia
theorem sh_end {T : MStr} {l : List Nat} (hT : T = S l) : T ++ PySem.Str.ofString " " = S (l ++ [32]) := by rw [hT, l_b, S_app]
theorem c_shown_str (w : World) (x : MStr) (t : MTok) (d : Int) (t3 : MTok) (news : MLed) :
    Con w 129 1 [.str x t, .int d t3] news (OutS news x) := by
  intro mean mg mb dp un gd cn cs a ccd cl outer A₀ base h₀ L m s Q E hB hF hX hN hT hk hdp hun hret
  refine wpAny_call ?_
  k_dflt cell_enter
  k_steps
  all_goals cell_end hret (outS ?_) ()
  all_goals first | rfl | skip
  k_with_none
theorem c_shown_int (w : World) (n : Int) (t : MTok) (d : Int) (t3 : MTok) (news : MLed) (h0 : -10000000000 < n) (h1 : n < 10000000000) :
    Con w 129 5 [.int n t, .int d t3] news (OutS news (S (wholeText n ++ [32]))) := by
  k_with "call ref" => ((k_here; k_dflt (cell_ask (c_whole_text _ _ _ _ ?_ ?_)); (next => omega); (next => omega); (intro v9 n9 h9 tk9 F9 N9 ho9); (obtain ⟨T9, t9, hT9, hl9, hn9, hv9⟩ := outS_get ho9); clear ho9; subst hn9; subst hv9; (have hl7 := hT9 ▸ wholeText_len (by assumption)); (try dsimp only); (try k_fold)))
  intro mean mg mb dp un gd cn cs a ccd cl outer A₀ base h₀ L m s Q E hB hF hX hN hT hk hdp hun hret
  have hlen : nfig n.natAbs ≤ 10 := nfig_le (k := 9) (by omega)
  refine wpAny_call ?_
  k_dflt cell_enter
  k_steps
  all_goals cell_end hret (outS ?_) ()
  all_goals first | with_reducible exact sh_end (by assumption) | skip
  k_with_none
theorem c_shown_tup (w : World) (D : MAddr) (c : Int) (t1 : MTok) (e : Int) (t2 : MTok) (d : Int) (t3 : MTok) (news : MLed) (hm : (D, ({ cls := .type "tuple", data := .seq #[.int c t1, .int e t2] } : MObj)) ∈ news)
    (h0 : -10000000000 < c) (h1 : c < 10000000000) (he0 : -200 ≤ e) (he1 : e ≤ 200) (hd0 : 0 ≤ d) (hd1 : d ≤ 20) :
    Con w 129 5 [.ref D, .int d t3] news (OutS news (S (dText c e d ++ [32]))) := by
  k_with "call ref" => ((k_here; k_dflt (cell_ask (c_whole_text _ _ _ _ ?_ ?_)); (next => omega); (next => omega); (intro v9 n9 h9 tk9 F9 N9 ho9); (obtain ⟨T9, t9, hT9, hl9, hn9, hv9⟩ := outS_get ho9); clear ho9; subst hn9; subst hv9; (have hl7 := hT9 ▸ wholeText_len (by assumption)); (try dsimp only); (try k_fold)))
  k_with "call ref" => ((k_here; k_dflt (cell_ask (c_d_text _ _ _ _ _ _ _ _ _ ?_ ?_ ?_ ?_ ?_ ?_ ?_)); (any_goals exact hm); (next => omega); (next => omega); (next => omega); (next => omega); (next => omega); (next => omega); (intro v9 n9 h9 tk9 F9 N9 ho9); (obtain ⟨T9, t9, hT9, hl9, hn9, hv9⟩ := outS_get ho9); clear ho9; subst hn9; subst hv9; (have hl7 := hT9 ▸ dText_len (by assumption) (by omega) (by omega) (by omega) (by omega)); (try dsimp only); (try k_fold)))
  intro mean mg mb dp un gd cn cs a ccd cl outer A₀ base h₀ L m s Q E hB hF hX hN hT hk hdp hun hret
  have hlen : nfig c.natAbs ≤ 10 := nfig_le (k := 9) (by omega)
  refine wpAny_call ?_
  k_dflt cell_enter
  k_steps
  all_goals cell_end hret (outS ?_) ()
  all_goals first | with_reducible exact sh_end (by assumption) | skip
  k_with_none
/-! P09 -/
theorem isE_iff {c : Nat} : isE c = true ↔ c = 69 ∨ c = 101 ∨ c = 68 ∨ c = 100 := by
  unfold isE; simp [or_assoc]
theorem occ_E {c : Nat} : (Builtin.Str.occurrences (PySem.Str.ofString "EeDd") (S [c]) 0 (PySem.Str.ofString "EeDd").length 1).isEmpty = !isE c := by
  have h := StrLaws.found_one (PySem.Str.ofString "EeDd") c
  have h2 : (PySem.Str.ofString "EeDd").cps.toList = [69, 101, 68, 100] := by decide +kernel
  rw [h2] at h
  have h3 : decide (c ∈ [69, 101, 68, 100]) = isE c := by
    rw [Bool.eq_iff_iff, decide_eq_true_eq, isE_iff]; simp
  rw [← h3, ← h, Bool.not_not]; rfl
theorem get_some {x : MStr} {i : Int} (h0 : 0 ≤ i) (h : ¬ (x.length : Int) ≤ i) : x.cps.toList[i.toNat]? = some ((x.cps.toList[i.toNat]?).getD 0) := by
  have : i.toNat < x.cps.toList.length := by rw [← of_len]; lia
  rw [List.getElem?_eq_getElem this]; rfl
theorem ex0 {x : MStr} {i : Int} (h0 : 0 ≤ i) (h : (x.length : Int) ≤ i) : 0 = (expAt x.cps.toList i.toNat).1 ∧ i = ((expAt x.cps.toList i.toNat).2 : Int) := by
  have e : x.cps.toList[i.toNat]? = none := List.getElem?_eq_none (by rw [← of_len]; lia)
  unfold expAt; rw [e]; exact ⟨rfl, by simp; lia⟩
theorem ex1 {x : MStr} {i : Int} (h0 : 0 ≤ i) (h : ¬ (x.length : Int) ≤ i) (hE : (Builtin.Str.occurrences (PySem.Str.ofString "EeDd") (Txt.item x i) 0 (PySem.Str.ofString "EeDd").length 1).isEmpty = true) :
    0 = (expAt x.cps.toList i.toNat).1 ∧ i = ((expAt x.cps.toList i.toNat).2 : Int) := by
  rw [item_eq h0 (by lia), occ_E] at hE
  unfold expAt; rw [get_some h0 h]
  dsimp only
  rw [if_neg (by simpa using hE)]
  exact ⟨rfl, by simp; lia⟩
theorem ex_go {x : MStr} {i : Int} (h0 : 0 ≤ i) (h : ¬ (x.length : Int) ≤ i) (hE : (Builtin.Str.occurrences (PySem.Str.ofString "EeDd") (Txt.item x i) 0 (PySem.Str.ofString "EeDd").length 1).isEmpty = false) {bt : Bool}
    (hT : ([PySem.Str.ofString "+", PySem.Str.ofString "-"].any fun y => y == Txt.slice x (some (i + 1)) (some (i + 1 + 1))) = bt) {bm : Bool} (hM : (Txt.slice x (some (i + 1)) (some (i + 1 + 1)) == PySem.Str.ofString "-") = bm) :
    expAt x.cps.toList i.toNat = if runN (x.cps.toList.drop (bif bt then i + 1 + 1 else i + 1).toNat) = 0 then (0, i.toNat) else ((bif bm then -1 else 1) * min (runV 0 (x.cps.toList.drop (bif bt then i + 1 + 1 else i + 1).toNat) : Int) 9999, (bif bt then i + 1 + 1 else i + 1).toNat + runN (x.cps.toList.drop (bif bt then i + 1 + 1 else i + 1).toNat)) := by
  rw [item_eq h0 (by lia), occ_E] at hE
  rw [is_pm (by lia)] at hT
  rw [one_is (by lia) l_m] at hM
  rw [show (i + 1).toNat = i.toNat + 1 by lia] at hT hM
  unfold expAt; rw [get_some h0 h]
  dsimp only
  rw [if_pos (by simpa using hE)]
  have e1 : (if x.cps.toList[i.toNat + 1]? = some 43 ∨ x.cps.toList[i.toNat + 1]? = some 45 then i.toNat + 2 else i.toNat + 1) = (bif bt then i + 1 + 1 else i + 1).toNat := by
    subst hT
    by_cases q : x.cps.toList[i.toNat + 1]? = some 43 ∨ x.cps.toList[i.toNat + 1]? = some 45
    · rw [if_pos q, decide_eq_true q, cond_true]; lia
    · rw [if_neg q, decide_eq_false q, cond_false]; lia
  have e2 : (if x.cps.toList[i.toNat + 1]? = some 45 then (-1 : Int) else 1) = (bif bm then -1 else 1) := by
    subst hM
    by_cases q : x.cps.toList[i.toNat + 1]? = some 45
    · rw [if_pos q, decide_eq_true q, cond_true]
    · rw [if_neg q, decide_eq_false q, cond_false]
  rw [e1, e2]
theorem ex2 {x : MStr} {i : Int} (h0 : 0 ≤ i) (h : ¬ (x.length : Int) ≤ i) (hE : (Builtin.Str.occurrences (PySem.Str.ofString "EeDd") (Txt.item x i) 0 (PySem.Str.ofString "EeDd").length 1).isEmpty = false) {bt : Bool}
    (hT : ([PySem.Str.ofString "+", PySem.Str.ofString "-"].any fun y => y == Txt.slice x (some (i + 1)) (some (i + 1 + 1))) = bt) {bm : Bool} (hM : (Txt.slice x (some (i + 1)) (some (i + 1 + 1)) == PySem.Str.ofString "-") = bm)
    (hz : (runN (x.cps.toList.drop (bif bt then i + 1 + 1 else i + 1).toNat) : Int) = 0) : 0 = (expAt x.cps.toList i.toNat).1 ∧ i = ((expAt x.cps.toList i.toNat).2 : Int) := by
  rw [ex_go h0 h hE hT hM, if_pos (by exact_mod_cast hz)]
  exact ⟨rfl, by simp; lia⟩
theorem ex3 {x : MStr} {i a b : Int} (h0 : 0 ≤ i) (h : ¬ (x.length : Int) ≤ i) (hE : (Builtin.Str.occurrences (PySem.Str.ofString "EeDd") (Txt.item x i) 0 (PySem.Str.ofString "EeDd").length 1).isEmpty = false) {bt : Bool}
    (hT : ([PySem.Str.ofString "+", PySem.Str.ofString "-"].any fun y => y == Txt.slice x (some (i + 1)) (some (i + 1 + 1))) = bt) {bm : Bool} (hM : (Txt.slice x (some (i + 1)) (some (i + 1 + 1)) == PySem.Str.ofString "-") = bm)
    (hz : (runN (x.cps.toList.drop (bif bt then i + 1 + 1 else i + 1).toNat) : Int) ≠ 0)
    (ha : a = (bif bm then -1 else 1) * (if 9999 < (runV 0 (x.cps.toList.drop (bif bt then i + 1 + 1 else i + 1).toNat) : Int) then 9999 else (runV 0 (x.cps.toList.drop (bif bt then i + 1 + 1 else i + 1).toNat) : Int)))
    (hb : b = (bif bt then i + 1 + 1 else i + 1) + (runN (x.cps.toList.drop (bif bt then i + 1 + 1 else i + 1).toNat) : Int)) : a = (expAt x.cps.toList i.toNat).1 ∧ b = ((expAt x.cps.toList i.toNat).2 : Int) := by
  rw [ex_go h0 h hE hT hM, if_neg (by exact_mod_cast hz)]
  dsimp only
  refine ⟨?_, ?_⟩
  · rw [ha]; congr 1; split <;> lia
  · rw [hb]; cases bt <;> simp <;> lia
abbrev OutT2 (news : MLed) (a b : Int) : MLed → Value → Prop := fun n' v => ∃ D t1 t2, v = .ref D ∧ n' = (D, ({ cls := .type "tuple", data := .seq #[.int a t1, .int b t2] } : MObj)) :: news ∧ ∀ p ∈ news, p.1 < D
theorem outT2 {news : MLed} {a b a' b' : Int} {D : MAddr} {t1 t2 : MTok} (h : a' = a ∧ b' = b) (hl : ∀ p ∈ news, p.1 < D) :
    OutT2 news a b ((D, ({ cls := .type "tuple", data := .seq #[.int a' t1, .int b' t2] } : MObj)) :: news) (.ref D) := by
  obtain ⟨rfl, rfl⟩ := h
  exact ⟨D, t1, t2, rfl, rfl, hl⟩
abbrev SgR (x : MStr) (i s : Int) : Prop := s = (bif (Txt.slice x (some (i + 1)) (some (i + 1 + 1)) == PySem.Str.ofString "-") then -1 else 1) ∧ (s = -1 ∨ s = 1)
abbrev BgR (x : MStr) (i b : Int) : Prop := b = (bif ([PySem.Str.ofString "+", PySem.Str.ofString "-"].any fun y => y == Txt.slice x (some (i + 1)) (some (i + 1 + 1))) then i + 1 + 1 else i + 1) ∧ (b = i + 1 ∨ b = i + 1 + 1)
theorem exs1 {x : MStr} {i : Int} (h : (Txt.slice x (some (i + 1)) (some (i + 1 + 1)) == PySem.Str.ofString "-") = true) : SgR x i (-1) ∧ i + 1 = i + 1 := ⟨⟨by rw [h]; rfl, .inl rfl⟩, rfl⟩
theorem exs0 {x : MStr} {i : Int} (h : (Txt.slice x (some (i + 1)) (some (i + 1 + 1)) == PySem.Str.ofString "-") = false) : SgR x i 1 ∧ i + 1 = i + 1 := ⟨⟨by rw [h]; rfl, .inr rfl⟩, rfl⟩
theorem exb1 {x : MStr} {i s : Int} (hs : SgR x i s) (h : ([PySem.Str.ofString "+", PySem.Str.ofString "-"].any fun y => y == Txt.slice x (some (i + 1)) (some (i + 1 + 1))) = true) : SgR x i s ∧ BgR x i (i + 1 + 1) := ⟨hs, by rw [h]; rfl, .inr rfl⟩
theorem exb0 {x : MStr} {i s : Int} (hs : SgR x i s) (h : ([PySem.Str.ofString "+", PySem.Str.ofString "-"].any fun y => y == Txt.slice x (some (i + 1)) (some (i + 1 + 1))) = false) : SgR x i s ∧ BgR x i (i + 1) := ⟨hs, by rw [h]; rfl, .inl rfl⟩
theorem exp_mul {s v : Int} (hs : s = -1 ∨ s = 1) (hv : 0 ≤ v) : IntMulOk s (if 9999 < v then 9999 else v) := by
  refine IntMulOk.of_le (m := 2) (n := 20) (intBits_le_iff.mpr ?_) (intBits_le_iff.mpr ?_) (by omega)
  · have : (2 : Nat) ^ 2 = 4 := by decide
    omega
  · have : (2 : Nat) ^ 20 = 1048576 := by decide
    split <;> omega
theorem ex2' {x : MStr} {i b : Int} (h0 : 0 ≤ i) (h : ¬ (x.length : Int) ≤ i) (hE : (Builtin.Str.occurrences (PySem.Str.ofString "EeDd") (Txt.item x i) 0 (PySem.Str.ofString "EeDd").length 1).isEmpty = false) (hb : BgR x i b) (hz : (runN (x.cps.toList.drop b.toNat) : Int) = 0) : 0 = (expAt x.cps.toList i.toNat).1 ∧ i = ((expAt x.cps.toList i.toNat).2 : Int) := by
  obtain ⟨rfl, _⟩ := hb
  exact ex2 h0 h hE rfl rfl hz
theorem ex3' {x : MStr} {i a b c s : Int} (h0 : 0 ≤ i) (h : ¬ (x.length : Int) ≤ i) (hE : (Builtin.Str.occurrences (PySem.Str.ofString "EeDd") (Txt.item x i) 0 (PySem.Str.ofString "EeDd").length 1).isEmpty = false) (hs : SgR x i s) (hb : BgR x i b) (hz : (runN (x.cps.toList.drop b.toNat) : Int) ≠ 0)
    (ha : a = s * (if 9999 < (runV 0 (x.cps.toList.drop b.toNat) : Int) then 9999 else (runV 0 (x.cps.toList.drop b.toNat) : Int))) (hc : c = b + (runN (x.cps.toList.drop b.toNat) : Int)) : a = (expAt x.cps.toList i.toNat).1 ∧ c = ((expAt x.cps.toList i.toNat).2 : Int) := by
  obtain ⟨rfl, _⟩ := hb
  obtain ⟨rfl, _⟩ := hs
  exact ex3 h0 h hE rfl rfl hz ha hc
theorem c_exp (w : World) (x : MStr) (t : MTok) (i : Int) (t2 : MTok) (news : MLed) (hi0 : 0 ≤ i) (hi1 : i ≤ 38) (hx : x.length ≤ 40) :
    Con w 108 2 [.str x t, .int i t2] news (OutT2 news (expAt x.cps.toList i.toNat).1 (expAt x.cps.toList i.toNat).2) := by
  k_with "con lt" => (first | assumption | exact fun p hp => ktn_ltOf (by assumption) p hp | exact fun p hp => ktn_ltOf (And.right (by assumption)) p hp | exact fun p hp => ktn_ltOf (And.right (And.right (by assumption))) p hp | exact fun p hp => ktn_ltOf (And.right (And.right (And.right (by assumption)))) p hp)
  k_with "call ref" => ((k_here; k_dflt (cell_ask (c_run _ _ _ _ _ _ ?_ ?_ ?_)); (next => omega); (next => omega); (next => omega); (intro v9 n9 h9 tk9 F9 N9 ho9); (obtain ⟨D9, t91, t92, t93, hv9, hn9, hl9⟩ := ho9); subst hn9; subst hv9; (try dsimp only); (try k_fold)))
  k_with "binaryOp Mult int int" => (with_reducible refine mul_int ?_ (exp_mul (And.right (by with_reducible assumption)) (Int.natCast_nonneg _)))
  k_with "exec Assign" =>
    k_dflt (
      fail_if_success (rename CutMk 1 => q)
      (with_reducible show wpAny _ _ (exec (PySem.Stmt.Assign _ (PySem.Expr.IfExp _ _ _ _) _) _) _ _ _)
      rename Fr _ _ _ _ => cF
      rename News _ _ _ _ => cN
      refine' cut_st 1 (fun c : (Int × MTok) × (Int × MTok) => [(PySem.Str.ofString "sign", .int c.1.1 c.1.2), (PySem.Str.ofString "begin", .int c.2.1 c.2.2), (PySem.Str.ofString "text", .str x t), (PySem.Str.ofString "at", .int i t2)]) (fun c => SgR x i c.1.1 ∧ c.2.1 = i + 1) cF cN ?ci1 ?co1
      (case' ci1 => (intro mk1; (try k_fold)))
      (case' co1 => (rintro ⟨⟨s1, us1⟩, ⟨b1, ub1⟩⟩ v0 h0 tk0 ⟨hS1, hB1⟩ F0 N0; dsimp only at hS1 hB1; subst hB1; dsimp only [kstB] at F0; clear cF cN; (try dsimp only); (try k_fold))))
  k_with "exec If" =>
    k_dflt (
      fail_if_success (rename CutMk 2 => q)
      with_reducible show wpAny _ _ (exec (PySem.Stmt.If (PySem.Expr.Compare _ [CmpOp.In] _ _) _ _ _) _) _ _ _
      rename Fr _ _ _ _ => cF
      rename News _ _ _ _ => cN
      refine' cut_st 2 (fun c : (Int × MTok) × (Int × MTok) => [(PySem.Str.ofString "sign", .int c.1.1 c.1.2), (PySem.Str.ofString "begin", .int c.2.1 c.2.2), (PySem.Str.ofString "text", .str x t), (PySem.Str.ofString "at", .int i t2)]) (fun c => SgR x i c.1.1 ∧ BgR x i c.2.1) cF cN ?ci2 ?co2
      (case' ci2 => (intro mk2; (try k_fold)))
      (case' co2 => (rintro ⟨⟨s2, us2⟩, ⟨b2, ub2⟩⟩ v0 h0 tk0 ⟨hS2, hB2⟩ F0 N0; dsimp only at hS2 hB2; have hB3 := hB2.2; dsimp only [kstB] at F0; clear cF cN; (try dsimp only); (try k_fold))))
  intro mean mg mb dp un gd cn cs a ccd cl outer A₀ base h₀ L m s Q E hB hF hX hN hT hk hdp hun hret
  refine wpAny_call ?_
  k_dflt cell_enter
  k_steps
  all_goals first
    | (refine' cut_end ⟨⟨_, _⟩, ⟨_, _⟩⟩ ?ca ?cb ?cc ?cd ?_; (case ca => k_asm); (case cb => assumption); (case cc => kcj_all); (case cd => kst_all))
    | cell_end hret (outT2 ?_ ?_) ()
  all_goals first
    | with_reducible exact ex0 hi0 (by assumption)
    | with_reducible exact ex1 hi0 (by assumption) (by assumption)
    | exact exs1 (by with_reducible assumption)
    | exact exs0 (by with_reducible assumption)
    | exact exb1 (by with_reducible assumption) (by with_reducible assumption)
    | exact exb0 (by with_reducible assumption) (by with_reducible assumption)
    | exact ex2' hi0 (by with_reducible assumption) (by with_reducible assumption) (by with_reducible assumption) (by assumption)
    | exact ex3' hi0 (by with_reducible assumption) (by with_reducible assumption) (by with_reducible assumption) (by with_reducible assumption) (by assumption) rfl rfl
    | walk_at "con lt"
    | skip
  k_with_none
/-! P10 -/
theorem tz_ten {n : Nat} (h0 : 0 < n) (h : n % 10 = 0) : tz n = tz (n / 10) + 1 := by rw [tz, dif_neg (by lia), if_pos h]
theorem tz_not {n : Nat} (h : n % 10 ≠ 0) : tz n = 0 := by
  rw [tz, if_neg h]; simp
def MadeI (A e size ex : Int) : Prop :=
  0 < size ∧ e ≤ ex ∧ size * 10 ^ (ex - e).toNat = A ∧ (tz size.toNat : Int) + (ex - e) = tz A.toNat ∧ (nfig size.toNat : Int) + (ex - e) = nfig A.toNat
theorem made_turn {A e size ex : Int} (hI : MadeI A e size ex) (h : size.fmod 10 = 0) : MadeI A e (size.fdiv 10) (ex + 1) := by
  obtain ⟨a, b, c, d, f⟩ := hI
  rw [Int.fmod_eq_emod_of_nonneg _ (by lia)] at h
  rw [Int.fdiv_eq_ediv_of_nonneg _ (by lia)]
  have e1 : (size / 10).toNat = size.toNat / 10 := by lia
  refine ⟨by lia, by lia, ?_, ?_, ?_⟩
  · rw [show (ex + 1 - e).toNat = (ex - e).toNat + 1 by lia, Int.pow_succ, Int.mul_comm (10 ^ _) 10, ← Int.mul_assoc, show size / 10 * 10 = size by lia, c]
  · rw [e1]; rw [tz_ten (by lia) (by lia)] at d; lia
  · rw [e1]; rw [nfig_ge (by lia)] at f; lia
theorem made_word {A e size ex : Int} (hA : A < 10000000000) (h0 : 0 < size) (h1 : size < 10000000000) (hI : MadeI A e size ex) (h : size.fmod 10 = 0) : 0 < size.fdiv 10 ∧ size.fdiv 10 < 10000000000 ∧ MadeI A e (size.fdiv 10) (ex + 1) := by
  have := made_turn hI h
  refine ⟨this.1, ?_, this⟩
  rw [Int.fdiv_eq_ediv_of_nonneg _ (by lia)]; lia
theorem made_meas {size : Int} (h0 : 0 < size) : (size.fdiv 10).toNat < size.toNat := by
  rw [Int.fdiv_eq_ediv_of_nonneg _ (by lia)]; lia
theorem made_end {c e size ex : Int} (hI : MadeI (if c < 0 then -c else c) e size ex) (h : size.fmod 10 ≠ 0) : (if c < 0 then -size else size) = (bare c e).1 ∧ ex = (bare c e).2 := by
  obtain ⟨a, b, p, d, f⟩ := hI
  rw [Int.fmod_eq_emod_of_nonneg _ (by lia)] at h
  rw [tz_not (by lia), abs_nat] at d
  have hc : c ≠ 0 := by
    intro hc; subst hc
    have hp : 0 < size * 10 ^ (ex - e).toNat := Int.mul_pos a (Int.pow_pos (by lia))
    simp at p; lia
  unfold bare
  rw [if_neg hc]
  dsimp only
  have hk : (ex - e).toNat = tz c.natAbs := by lia
  rw [hk] at p
  have hpos : (10 : Int) ^ tz c.natAbs ≠ 0 := Int.ne_of_gt (Int.pow_pos (by lia))
  refine ⟨?_, by lia⟩
  generalize (10 : Int) ^ tz c.natAbs = P at p hpos
  by_cases hn : c < 0
  · rw [if_pos hn] at p ⊢
    rw [show c = -size * P by rw [Int.neg_mul, p]; lia]
    exact (Int.mul_ediv_cancel _ hpos).symm
  · rw [if_neg hn] at p ⊢
    rw [← p]
    exact (Int.mul_ediv_cancel _ hpos).symm
theorem made_neg {c e size ex : Int} (hI : MadeI (if c < 0 then -c else c) e size ex) (h : size.fmod 10 ≠ 0) (hn : c < 0) : -size = (bare c e).1 ∧ ex = (bare c e).2 := by
  have := made_end hI h; rw [if_pos hn] at this; exact this
theorem made_pos {c e size ex : Int} (hI : MadeI (if c < 0 then -c else c) e size ex) (h : size.fmod 10 ≠ 0) (hn : ¬ c < 0) : size = (bare c e).1 ∧ ex = (bare c e).2 := by
  have := made_end hI h; rw [if_neg hn] at this; exact this
theorem made_first {c e size ex r : Int} (hI : MadeI (if c < 0 then -c else c) e size ex) (hr : r = (nfig size.toNat : Int)) : ex + r - 1 = e + nfig c.natAbs - 1 := by
  have := hI.2.2.2.2; rw [abs_nat] at this; lia
theorem c_made (w : World) (c : Int) (t : MTok) (e : Int) (t2 : MTok) (d : Int) (t3 : MTok) (news : MLed) (h0 : -10000000000 < c) (h1 : c < 10000000000) (hc : c ≠ 0) (hf : nfig c.natAbs ≤ d) (he0 : -99 ≤ e + nfig c.natAbs - 1) (he1 : e + nfig c.natAbs - 1 ≤ 99) :
    Con w 58 2 [.int c t, .int e t2, .int d t3] news (OutT2 news (bare c e).1 (bare c e).2) := by
  k_with "con lt" => (first | assumption | exact fun p hp => ktn_ltOf (by assumption) p hp | exact fun p hp => ktn_ltOf (And.right (by assumption)) p hp | exact fun p hp => ktn_ltOf (And.right (And.right (by assumption))) p hp | exact fun p hp => ktn_ltOf (And.right (And.right (And.right (by assumption)))) p hp)
  k_with "call ref" => ((k_here; k_dflt (cell_ask (c_figures_of _ _ _ _ ?_ ?_)); (next => first | lia | (split <;> lia)); (next => first | lia | (split <;> lia)); (intro v9 n9 h9 tk9 F9 N9 ho9); (obtain ⟨r9, t9, hT9, hn9, hv9⟩ := outI_get ho9); clear ho9; subst hn9; subst hv9; (try rw [abs_nat] at hT9); (try dsimp only); (try k_fold)))
  intro mean mg mb dp un gd cn cs a ccd cl outer A₀ base h₀ L m s Q E hB hF hX hN hT hk hdp hun hret
  have hA : (if c < 0 then -c else c) < 10000000000 := by split <;> lia
  have hA0 : (if c < 0 then -c else c) ≠ 0 := by split <;> lia
  k_with "exec While Compare cons nil" => k_while (fun _ size exponent => 0 < size ∧ size < 10000000000 ∧ MadeI (if c < 0 then -c else c) e size exponent) (fun _ size _ => size.toNat) "size" "exponent"
  k_with "state" => exact made_word hA (by assumption) (by assumption) (by assumption) (by assumption)
  k_with "measure" => exact made_meas (by assumption)
  refine wpAny_call ?_
  k_dflt cell_enter
  k_steps
  all_goals first
    | (exfalso; lia)
    | (exfalso; exact absurd (by assumption) hA0)
    | (exfalso; have q := made_first (by assumption) (by assumption); lia)
    | skip
  all_goals cell_end hret (outT2 ?_ ?_) ()
  all_goals first
    | with_reducible exact made_neg (by assumption) (by assumption) (by assumption)
    | with_reducible exact made_pos (by assumption) (by assumption) (by assumption)
    | walk_at "con lt"
    | skip
  k_with_none
/-! P11 -/
abbrev OutTD (news : MLed) (a b : Int) : MLed → Value → Prop := fun n' v => OutT2 news a b n' v ∨ (v = .ref 59 ∧ n' = news ∧ a = 0 ∧ b = 0)
def okDec (c e d : Int) : Prop := c = 0 ∨ (-99 ≤ e + nfig c.natAbs - 1 ∧ e + nfig c.natAbs - 1 ≤ 99 ∧ nfig c.natAbs ≤ d)
theorem bare_0 {c e : Int} (h : c = 0) : (bare c e).1 = 0 ∧ (bare c e).2 = 0 := by unfold bare; rw [if_pos h]; exact ⟨rfl, rfl⟩
theorem c_told (w : World) (c : Int) (t : MTok) (e : Int) (t2 : MTok) (d : Int) (t3 : MTok) (news : MLed) (h0 : -10000000000 < c) (h1 : c < 10000000000) (hok : okDec c e d) :
    Con w 122 3 [.int c t, .int e t2, .int d t3] news (OutTD news (bare c e).1 (bare c e).2) := by
  k_with "call ref" => ((k_here; k_dflt (cell_ask (c_figures_of _ _ _ _ ?_ ?_)); (next => first | omega | (split <;> omega)); (next => first | omega | (split <;> omega)); (intro v9 n9 h9 tk9 F9 N9 ho9); (obtain ⟨r9, t9, hT9, hn9, hv9⟩ := outI_get ho9); clear ho9; subst hn9; subst hv9; (try rw [abs_nat] at hT9); (try dsimp only); (try k_fold)))
  k_with "call ref" => ((k_here; k_dflt (cell_ask (c_made _ _ _ _ _ _ _ _ ?_ ?_ ?_ ?_ ?_ ?_)); (next => omega); (next => omega); (next => omega); (next => omega); (next => omega); (next => omega); (intro v9 n9 h9 tk9 F9 N9 ho9); (obtain ⟨D9, t91, t92, hv9, hn9, hl9⟩ := ho9); subst hn9; subst hv9; (try dsimp only); (try k_fold)))
  unfold okDec at hok
  intro mean mg mb dp un gd cn cs a ccd cl outer A₀ base h₀ L m s Q E hB hF hX hN hT hk hdp hun hret
  refine wpAny_call ?_
  k_dflt cell_enter
  k_steps
  all_goals first
    | (cell_end hret (.inr ⟨rfl, rfl, ?_, ?_⟩) (); exact (bare_0 (by assumption)).1; exact (bare_0 (by assumption)).2)
    | (cell_end hret (.inl (outT2 ⟨rfl, rfl⟩ ?_)) (); assumption)
    | skip
  k_with_none
/-! P12 -/
def okRaw (l : List Nat) (d : Int) : Prop := N1 l + N2 l ≠ 0 → -10000000000 < cR l ∧ cR l < 10000000000 ∧ okDec (cR l) (eR l) d ∧ -1000000 < (expAt l (A3 l)).1 ∧ (expAt l (A3 l)).1 < 1000000
abbrev OutDT (news : MLed) (l : List Nat) : MLed → Value → Prop := fun n' v => (N1 l + N2 l = 0 ∧ v = .none ∧ n' = news) ∨
  (N1 l + N2 l ≠ 0 ∧ ∃ (D D1 : MAddr) (t : MTok) (n1 : MLed), v = .ref D ∧ n' = (D, ({ cls := .type "tuple", data := .seq #[.ref D1, .int (aR l) t] } : MObj)) :: n1 ∧ OutTD news (bare (cR l) (eR l)).1 (bare (cR l) (eR l)).2 n1 (.ref D1) ∧ ∀ p ∈ n1, p.1 < D)
/-! the blanks ahead -/
theorem occ_B {c : Nat} : (Builtin.Str.occurrences (PySem.Str.ofString " \t") (S [c]) 0 (PySem.Str.ofString " \t").length 1).isEmpty = !decide (c = 32 ∨ c = 9) := by
  have h := StrLaws.found_one (PySem.Str.ofString " \t") c
  have h2 : (PySem.Str.ofString " \t").cps.toList = [32, 9] := by decide +kernel
  rw [h2] at h
  have h3 : decide (c ∈ [32, 9]) = decide (c = 32 ∨ c = 9) := by simp
  rw [← h3, ← h, Bool.not_not]; rfl
def BlI (x : MStr) (i : Int) : Prop := i + blanksN (x.cps.toList.drop i.toNat) = blanksN x.cps.toList
theorem blI_start (x : MStr) : BlI x 0 := by simp [BlI]
theorem blI_turn {x : MStr} {i : Int} (h0 : 0 ≤ i) (h1 : i < x.length) (hI : BlI x i) (h : (Builtin.Str.occurrences (PySem.Str.ofString " \t") (Txt.item x i) 0 (PySem.Str.ofString " \t").length 1).isEmpty = false) : BlI x (i + 1) := by
  rw [item_eq h0 h1, occ_B] at h
  unfold BlI at *
  have h : _ ∨ _ := of_decide_eq_true (by simpa only [Bool.not_eq_false'] using h)
  rw [drop_at h0 h1, blanksN, if_pos h] at hI
  lia
theorem blI_end1 {x : MStr} {i : Int} (h1 : ¬ i < x.length) (hI : BlI x i) : i = A0 x.cps.toList := by
  unfold BlI at hI; rw [drop_out h1] at hI; simpa [blanksN, A0] using hI
theorem blI_end2 {x : MStr} {i : Int} (h0 : 0 ≤ i) (h1 : i < x.length) (hI : BlI x i) (h : (Builtin.Str.occurrences (PySem.Str.ofString " \t") (Txt.item x i) 0 (PySem.Str.ofString " \t").length 1).isEmpty = true) : i = A0 x.cps.toList := by
  rw [item_eq h0 h1, occ_B] at h
  unfold BlI at hI
  have h : ¬ (_ ∨ _) := of_decide_eq_false (by simpa only [Bool.not_eq_true'] using h)
  rw [drop_at h0 h1, blanksN, if_neg h] at hI
  simpa [A0] using hI
theorem blanks_le (l : List Nat) : blanksN l ≤ l.length := by
  induction l with
  | nil => exact Nat.le_refl _
  | cons c r ih => unfold blanksN; split <;> simp only [List.length_cons] <;> lia
theorem A1_le (l : List Nat) : A1 l ≤ l.length := by
  unfold A1
  have := blanks_le l
  split
  · rename_i h
    have : A0 l < l.length := by
      cases h with
      | inl h => exact (List.getElem?_eq_some_iff.mp h).1
      | inr h => exact (List.getElem?_eq_some_iff.mp h).1
    lia
  · exact this
/-! the sign -/
theorem sg_end {x : MStr} {a a' : Int} {bt b : Bool} (ha : a = A0 x.cps.toList) (h : ([PySem.Str.ofString "+", PySem.Str.ofString "-"].any fun y => y == Txt.slice x (some a) (some (a + 1))) = bt) (h' : a' = if bt then a + 1 else a)
    (hb : b = (Txt.slice x (some a) (some (a + 1)) == PySem.Str.ofString "-")) : a' = A1 x.cps.toList ∧ b = decide (x.cps.toList[A0 x.cps.toList]? = some 45) := by
  rw [is_pm (by lia), ha] at h
  rw [one_is (by lia) l_m, ha] at hb
  rw [show ((A0 x.cps.toList : Nat) : Int).toNat = A0 x.cps.toList from rfl] at h hb
  refine ⟨?_, hb⟩
  rw [h', ← h, ha]; unfold A1
  by_cases q : x.cps.toList[A0 x.cps.toList]? = some 43 ∨ x.cps.toList[A0 x.cps.toList]? = some 45
  · rw [if_pos q, decide_eq_true q, if_pos rfl]; rfl
  · rw [if_neg q, decide_eq_false q, if_neg (by decide)]
/-! the dot -/
theorem dot_no {x : MStr} {a1 a2 v1 n1 : Int} (ha : a1 = A1 x.cps.toList) (hv : v1 = runV 0 (x.cps.toList.drop a1.toNat)) (hn : n1 = runN (x.cps.toList.drop a1.toNat)) (h2 : a2 = a1 + n1) (h : (Txt.slice x (some a2) (some (a2 + 1)) == PySem.Str.ofString ".") = false) :
    v1 = F2 x.cps.toList ∧ n1 = N1 x.cps.toList ∧ 0 = (N2 x.cps.toList : Int) ∧ a2 = A3 x.cps.toList := by
  have e1 : a1.toNat = A1 x.cps.toList := by lia
  rw [e1] at hv hn
  have e2 : a2.toNat = A2 x.cps.toList := by unfold A2 N1; lia
  rw [one_is (by lia) l_d, e2] at h
  have h := of_decide_eq_false h
  unfold F2 N2 A3
  rw [if_neg h, if_neg h, if_neg (fun q => h q.1)]
  exact ⟨by rw [hv]; rfl, by rw [hn]; rfl, rfl, by lia⟩
theorem dot_yes {x : MStr} {a1 a2 a3 v1 n1 v2 n2 e2 f : Int} (ha : a1 = A1 x.cps.toList) (hv : v1 = runV 0 (x.cps.toList.drop a1.toNat)) (hn : n1 = runN (x.cps.toList.drop a1.toNat)) (h2 : a2 = a1 + n1) (h : (Txt.slice x (some a2) (some (a2 + 1)) == PySem.Str.ofString ".") = true)
    (hv2 : v2 = runV 0 (x.cps.toList.drop (a2 + 1).toNat)) (hn2 : n2 = runN (x.cps.toList.drop (a2 + 1).toNat)) (he2 : e2 = a2 + 1 + n2) (hf : f = v1 * 10 ^ n2.toNat + v2) (h3 : (0 < n1 + n2 ∧ a3 = e2) ∨ (¬ 0 < n1 + n2 ∧ a3 = a2)) :
    f = F2 x.cps.toList ∧ n1 = N1 x.cps.toList ∧ n2 = (N2 x.cps.toList : Int) ∧ a3 = A3 x.cps.toList := by
  have e1 : a1.toNat = A1 x.cps.toList := by lia
  rw [e1] at hv hn
  have e2' : a2.toNat = A2 x.cps.toList := by unfold A2 N1; lia
  have e3 : (a2 + 1).toNat = A2 x.cps.toList + 1 := by lia
  rw [one_is (by lia) l_d, e2'] at h
  have h := of_decide_eq_true h
  rw [e3] at hv2 hn2
  have q1 : n1 = N1 x.cps.toList := by rw [hn]; rfl
  have q2 : n2 = (N2 x.cps.toList : Int) := by unfold N2; rw [if_pos h, hn2]
  refine ⟨?_, q1, q2, ?_⟩
  · unfold F2; rw [if_pos h, hf, hv, hv2, q2]
    simp [V1]
  · unfold A3
    rcases h3 with ⟨p, q⟩ | ⟨p, q⟩
    · rw [if_pos ⟨h, by lia⟩]; lia
    · rw [if_neg (fun z => by have := z.2; lia)]; lia
theorem dot_ok {x : MStr} {a2 : Int} (h0 : 0 ≤ a2) (h : (Txt.slice x (some a2) (some (a2 + 1)) == PySem.Str.ofString ".") = true) : a2 + 1 ≤ x.length := by
  rw [one_is h0 l_d] at h
  have := (List.getElem?_eq_some_iff.mp (of_decide_eq_true h)).1
  rw [← of_len] at this; lia
theorem pow_nat (n : Nat) : ((10 : Int) ^ n).natAbs = 10 ^ n := by rw [Int.natAbs_pow]; rfl
theorem mul_ok {a n : Int} (h0 : 0 ≤ a) (h1 : a < 10000000000000000000000000000000000000000) (h2 : 0 ≤ n) (h3 : n ≤ 40) : IntMulOk a (10 ^ n.toNat) := by
  refine IntMulOk.of_le (m := 140) (n := 140) (intBits_le_iff.mpr ?_) (intBits_le_iff.mpr ?_) (by lia)
  · have : (2 : Nat) ^ 140 > 10000000000000000000000000000000000000000 := by decide
    lia
  · rw [pow_nat]
    have : (10 : Nat) ^ n.toNat ≤ 10 ^ 40 := Nat.pow_le_pow_right (by lia) (by lia)
    exact Nat.lt_of_le_of_lt this (by decide)
theorem runN_le : ∀ l : List Nat, runN l ≤ l.length
  | [] => Nat.le_refl _
  | c :: r => by
    have := runN_le r
    unfold runN; split <;> simp only [List.length_cons] <;> lia
theorem A2_le (l : List Nat) : A2 l ≤ l.length := by
  have h1 := A1_le l
  have h2 := runN_le (l.drop (A1 l))
  rw [List.length_drop] at h2
  unfold A2 N1; lia
theorem A3_le (l : List Nat) : A3 l ≤ l.length := by
  have h1 := A2_le l
  unfold A3
  split
  · rename_i h
    have h2 := (List.getElem?_eq_some_iff.mp h.1).1
    have h3 := runN_le (l.drop (A2 l + 1))
    rw [List.length_drop] at h3
    unfold N2; rw [if_pos h.1]; lia
  · exact h1
theorem told_neg {l : List Nat} {d f3 n3 m3 a3 : Int} {b3 : Bool} (hok : okRaw l d) (h : n3 + m3 ≠ 0) (hRf : f3 = F2 l) (hRn : n3 = N1 l) (hRm : m3 = (N2 l : Int)) (hRa : a3 = A3 l) (hRb : b3 = decide (l[A0 l]? = some 45)) (hb : b3 = true) :
    (0 - f3 = cR l ∧ (expAt l a3.toNat).1 - m3 = eR l) ∧ (-10000000000 < cR l ∧ cR l < 10000000000 ∧ okDec (cR l) (eR l) d) := by
  have h' : N1 l + N2 l ≠ 0 := by lia
  refine ⟨⟨?_, ?_⟩, (hok h').1, (hok h').2.1, (hok h').2.2.1⟩
  · unfold cR; rw [if_pos (of_decide_eq_true (hRb ▸ hb)), hRf]
  · unfold eR; rw [hRm, show a3.toNat = A3 l by lia]
theorem told_pos {l : List Nat} {d f3 n3 m3 a3 : Int} {b3 : Bool} (hok : okRaw l d) (h : n3 + m3 ≠ 0) (hRf : f3 = F2 l) (hRn : n3 = N1 l) (hRm : m3 = (N2 l : Int)) (hRa : a3 = A3 l) (hRb : b3 = decide (l[A0 l]? = some 45)) (hb : b3 = false) :
    (f3 = cR l ∧ (expAt l a3.toNat).1 - m3 = eR l) ∧ (-10000000000 < cR l ∧ cR l < 10000000000 ∧ okDec (cR l) (eR l) d) := by
  have h' : N1 l + N2 l ≠ 0 := by lia
  refine ⟨⟨?_, ?_⟩, (hok h').1, (hok h').2.1, (hok h').2.2.1⟩
  · unfold cR; rw [if_neg (of_decide_eq_false (hRb ▸ hb)), hRf]
  · unfold eR; rw [hRm, show a3.toNat = A3 l by lia]
theorem aR_of {l : List Nat} {a3 : Int} (hRa : a3 = A3 l) : ((expAt l a3.toNat).2 : Int) = aR l := by unfold aR; rw [show a3.toNat = A3 l by lia]
theorem ltT {q : MAddr × MObj} {news : MLed} {D : MAddr} (h : ∀ p ∈ q :: news, p.1 < D) : ∀ p ∈ news, p.1 < D := fun p hp => h p (List.mem_cons_of_mem _ hp)
theorem outDT_none {news : MLed} {l : List Nat} {n3 m3 : Int} (h : n3 + m3 = 0) (hRn : n3 = N1 l) (hRm : m3 = (N2 l : Int)) : OutDT news l news .none := .inl ⟨by lia, rfl, rfl⟩
theorem outDT_one {news : MLed} {l : List Nat} {n3 m3 a4 : Int} {D D1 : MAddr} {t t1 t2 : MTok} (h : n3 + m3 ≠ 0) (hRn : n3 = N1 l) (hRm : m3 = (N2 l : Int)) (ha : a4 = aR l) (h1 : ∀ p ∈ news, p.1 < D1) (h2 : AllLt D ((D1, ({ cls := .type "tuple", data := .seq #[.int (bare (cR l) (eR l)).1 t1, .int (bare (cR l) (eR l)).2 t2] } : MObj)) :: news)) :
    OutDT news l ((D, ({ cls := .type "tuple", data := .seq #[.ref D1, .int a4 t] } : MObj)) :: (D1, ({ cls := .type "tuple", data := .seq #[.int (bare (cR l) (eR l)).1 t1, .int (bare (cR l) (eR l)).2 t2] } : MObj)) :: news) (.ref D) := by
  subst ha
  exact .inr ⟨by lia, D, D1, t, _, rfl, rfl, .inl ⟨D1, t1, t2, rfl, rfl, h1⟩, fun p hp => ktn_ltOf h2 p hp⟩
theorem outDT_two {news : MLed} {l : List Nat} {n3 m3 a4 : Int} {D : MAddr} {t : MTok} (h : n3 + m3 ≠ 0) (hRn : n3 = N1 l) (hRm : m3 = (N2 l : Int)) (ha : a4 = aR l) (hb1 : (bare (cR l) (eR l)).1 = 0) (hb2 : (bare (cR l) (eR l)).2 = 0) (h2 : ∀ p ∈ news, p.1 < D) :
    OutDT news l ((D, ({ cls := .type "tuple", data := .seq #[.ref 59, .int a4 t] } : MObj)) :: news) (.ref D) := by
  subst ha
  exact .inr ⟨by lia, D, 59, t, _, rfl, rfl, .inr ⟨rfl, rfl, hb1, hb2⟩, h2⟩
theorem c_d_of_text (w : World) (x : MStr) (t : MTok) (d : Int) (t2 : MTok) (news : MLed) (hx : x.length ≤ 37) (hok : okRaw x.cps.toList d) :
    Con w 115 5 [.str x t, .int d t2] news (OutDT news x.cps.toList) := by
  k_with "binaryOp Mult int int" => ((with_reducible refine mul_int ?_ (mul_ok (by assumption) (by assumption) (by lia) (by lia))))
  k_with "call ref" => ((k_here; k_dflt (cell_ask (c_run2 _ _ _ _ _ _ ?_ ?_ ?_)); (next => lia); (next => first | lia | exact dot_ok (by lia) (by assumption)); (next => lia); (intro v9 n9 h9 tk9 F9 N9 ho9); (obtain ⟨D9, t91, t92, t93, a9, b9, c9, hv9, hn9, hl9, ha9, hb9, hc9, hq1, hq2, hq3, hq4⟩ := ho9); subst hn9; subst hv9; (try dsimp only); (try k_fold)))
  k_with "call ref" => ((k_here; k_dflt (cell_ask (c_exp _ _ _ _ _ _ ?_ ?_ ?_)); (next => lia); (next => lia); (next => lia); (intro v9 n9 h9 tk9 F9 N9 ho9); (obtain ⟨D9, t91, t92, hv9, hn9, hl9⟩ := ho9); subst hn9; subst hv9; (try dsimp only); (try k_fold)))
  intro mean mg mb dp un gd cn cs a ccd cl outer A₀ base h₀ L m s Q E hB hF hX hN hT hk hdp hun hret
  have hA1 := A1_le x.cps.toList
  rw [← of_len] at hA1
  have hA3 := A3_le x.cps.toList
  rw [← of_len] at hA3
  k_with "exec While BoolOp" =>
    k_dflt (
      fail_if_success (rename CutMk 1 => q)
      rename Fr _ _ _ _ => cF
      rename News _ _ _ _ => cN
      refine' cut_st 1 (fun c : Int × MTok => [(PySem.Str.ofString "at", .int c.1 c.2), (PySem.Str.ofString "text", .str x t), (PySem.Str.ofString "digits", .int d t2)]) (fun c => c.1 = A0 x.cps.toList) cF cN ?ci1 ?co1
      (case' ci1 => (intro mk1; k_while (fun _ at' => 0 ≤ at' ∧ at' ≤ x.length ∧ BlI x at') (fun _ at' => (x.length - at').toNat) "at"))
      (case' co1 => (rintro ⟨a0, u0⟩ v0 h0 tk0 hR0 F0 N0; dsimp only [kstB] at F0 hR0; clear cF cN; (try dsimp only); (try k_fold))))
  k_with "state" => first | exact ⟨by lia, by lia, blI_start x⟩ | exact ⟨by lia, by lia, blI_turn (by assumption) (by assumption) (by assumption) (by assumption)⟩
  k_with "exec If" =>
    k_dflt (
      fail_if_success (rename CutMk 2 => q)
      with_reducible show wpAny _ _ (exec (PySem.Stmt.If (PySem.Expr.Compare _ [CmpOp.In] _ _) _ _ _) _) _ _ _
      rename Fr _ _ _ _ => cF
      rename News _ _ _ _ => cN
      refine' cut_st 2 (fun c : Int × MTok × Bool => [(PySem.Str.ofString "at", .int c.1 c.2.1), (PySem.Str.ofString "is_below", .bool c.2.2), (PySem.Str.ofString "text", .str x t), (PySem.Str.ofString "digits", .int d t2)]) (fun c => c.1 = A1 x.cps.toList ∧ c.2.2 = decide (x.cps.toList[A0 x.cps.toList]? = some 45)) cF cN ?ci2 ?co2
      (case' ci2 => (intro mk2; (try k_fold)))
      (case' co2 => (rintro ⟨a1, u1, b1⟩ v0 h0 tk0 ⟨hR1, hRb⟩ F0 N0; dsimp only [kstB] at F0 hR1 hRb; clear cF cN; (try dsimp only); (try k_fold))))
  k_with "exec If" =>
    k_dflt (
      fail_if_success (rename CutMk 3 => q)
      with_reducible show wpAny _ _ (exec (PySem.Stmt.If (PySem.Expr.Compare (PySem.Expr.Subscript _ _ _) [CmpOp.Eq] _ _) _ _ _) _) _ _ _
      rename Fr _ _ _ _ => cF
      rename News _ _ _ _ => cN
      refine' cut_st 3 (fun c : (Int × MTok) × (Int × MTok) × (Int × MTok) × (Int × MTok) × Bool => [(PySem.Str.ofString "found", .int c.1.1 c.1.2), (PySem.Str.ofString "ahead", .int c.2.1.1 c.2.1.2), (PySem.Str.ofString "behind", .int c.2.2.1.1 c.2.2.1.2), (PySem.Str.ofString "at", .int c.2.2.2.1.1 c.2.2.2.1.2), (PySem.Str.ofString "is_below", .bool c.2.2.2.2), (PySem.Str.ofString "text", .str x t), (PySem.Str.ofString "digits", .int d t2)]) (fun c => (c.1.1 = F2 x.cps.toList ∧ c.2.1.1 = N1 x.cps.toList ∧ c.2.2.1.1 = (N2 x.cps.toList : Int) ∧ c.2.2.2.1.1 = A3 x.cps.toList) ∧ c.2.2.2.2 = decide (x.cps.toList[A0 x.cps.toList]? = some 45)) cF cN ?ci3 ?co3
      (case' ci3 => (intro mk3; (try k_fold)))
      (case' co3 => (rintro ⟨⟨f3, uf3⟩, ⟨n3, un3⟩, ⟨m3, um3⟩, ⟨a3, ua3⟩, b3⟩ v0 h0 tk0 ⟨⟨hRf, hRn, hRm, hRa⟩, hRb⟩ F0 N0; dsimp only [kstB] at F0 hRf hRn hRm hRa hRb; clear cF cN; (try dsimp only); (try k_fold))))
  k_with "call ref" =>
    k_dflt (
      obtain ⟨⟨q1, q2⟩, q3, q4, q5⟩ : (_ ∧ _) ∧ (_ ∧ _ ∧ _) := by first | exact told_neg hok (by assumption) hRf hRn hRm hRa hRb (by assumption) | exact told_pos hok (by assumption) hRf hRn hRm hRa hRb (by assumption)
      rw [q1, q2]
      cell_ask (c_told _ _ _ _ _ _ _ _ q3 q4 q5)
      clear q3 q4 q5
      intro v9 n9 h9 tk9 F9 N9 ho9
      (rcases ho9 with ⟨D9, t91, t92, hv9, hn9, hl9⟩ | ⟨hv9, hn9, hz1, hz2⟩) <;> (subst hn9; subst hv9; (try dsimp only); (try k_fold)))
  refine wpAny_call ?_
  k_dflt cell_enter
  k_steps
  all_goals first
    | (refine' cut_end ⟨_, _⟩ ?ca ?cb ?cc ?cd ?_; (case ca => k_asm); (case cb => assumption); (case cc => kcj_all); (case cd => kst_all))
    | (refine' cut_end ⟨_, _, _⟩ ?ca ?cb ?cc ?cd ?_; (case ca => k_asm); (case cb => assumption); (case cc => kcj_all); (case cd => kst_all))
    | (refine' cut_end ⟨⟨_, _⟩, ⟨_, _⟩, ⟨_, _⟩, ⟨_, _⟩, _⟩ ?ca ?cb ?cc ?cd ?_; (case ca => k_asm); (case cb => assumption); (case cc => kcj_all); (case cd => kst_all))
    | exact con_ret hret (by k_asm) (by assumption) (by kcj_all) (outDT_none (by with_reducible assumption) hRn hRm)
    | exact con_ret hret (by k_asm) (by assumption) (by kcj_all) (outDT_one (by with_reducible assumption) hRn hRm (aR_of hRa) (by first | exact ltT (ltT (by with_reducible assumption)) | exact ltT (by with_reducible assumption)) (by first | exact ⟨And.left (by with_reducible assumption), And.right (And.right (And.right (by with_reducible assumption)))⟩))
    | exact con_ret hret (by k_asm) (by assumption) (by kcj_all) (outDT_two (by with_reducible assumption) hRn hRm (aR_of hRa) hz1 hz2 (fun p hp => ktn_ltOf (And.right (And.right (by with_reducible assumption))) p hp))
    | skip
  all_goals (try dsimp only)
  all_goals first
    | with_reducible exact blI_end1 (by assumption) (by assumption)
    | with_reducible exact blI_end2 (by assumption) (by assumption) (by assumption) (by assumption)
    | exact sg_end (bt := true) hR0 (by with_reducible assumption) rfl rfl
    | exact sg_end (bt := false) hR0 (by with_reducible assumption) rfl rfl
    | exact ⟨dot_no hR1 (by with_reducible assumption) (by with_reducible assumption) (by with_reducible assumption) (by with_reducible assumption), hRb⟩
    | exact ⟨dot_yes hR1 (by with_reducible assumption) (by with_reducible assumption) (by with_reducible assumption) (by with_reducible assumption) (by with_reducible assumption) (by with_reducible assumption) (by with_reducible assumption) rfl (.inl ⟨by with_reducible assumption, rfl⟩), hRb⟩
    | exact ⟨dot_yes hR1 (by with_reducible assumption) (by with_reducible assumption) (by with_reducible assumption) (by with_reducible assumption) (by with_reducible assumption) (by with_reducible assumption) (by with_reducible assumption) rfl (.inr ⟨by with_reducible assumption, rfl⟩), hRb⟩
    | skip
  k_with_none
/-! P13 -/
noncomputable def rsN (l : List Nat) : Nat := l.length - (l.reverse.takeWhile (· == 32)).length
noncomputable def nbt (l : List Nat) : Option (Int × Int) := if N1 l + N2 l = 0 then none else if aR l = rsN l then some (bare (cR l) (eR l)) else none
theorem strip_len {goes : Nat → Bool} {x : MStr} (h : ∀ c, goes c = (c == 32)) : (Txt.stripBy goes false true x).length = rsN x.cps.toList := by
  have e : goes = fun c => c == 32 := funext h
  have e2 : stripHi goes true x 0 = rsN x.cps.toList := by
    unfold stripHi rsN
    rw [if_pos rfl, List.drop_zero, e, of_len]
  have hle : rsN x.cps.toList ≤ x.length := by unfold rsN; rw [of_len]; lia
  unfold Txt.stripBy stripSame PySem.stripped
  have e0 : stripLo goes false x = 0 := by unfold stripLo; rfl
  rw [e0, e2]
  split
  · rename_i q
    simp at q
    exact q.symm
  · show (Builtin.Str.strSub x 0 (rsN x.cps.toList)).length = _
    rw [of_len, StrLaws.strSub_toList]
    simp only [List.drop_zero, Nat.sub_zero, List.length_take]
    rw [← of_len]; lia
theorem rstrip_len (x : MStr) : (Txt.rstripChars x (PySem.Str.ofString " ")).length = rsN x.cps.toList := by
  unfold Txt.rstripChars
  refine strip_len fun c => ?_
  rw [l_b]
  show (#[32] : Array Nat).contains c = _
  rw [Bool.eq_iff_iff]
  simp
abbrev OutNB (news : MLed) (l : List Nat) : MLed → Value → Prop := fun n' v => (nbt l = none ∧ v = .none ∧ n' = news) ∨ (∃ a b, nbt l = some (a, b) ∧ OutTD news a b n' v)
theorem outNB_n {news : MLed} {l : List Nat} (h : N1 l + N2 l = 0) : OutNB news l news .none := .inl ⟨by unfold nbt; rw [if_pos h], rfl, rfl⟩
theorem outNB_o {news : MLed} {x : MStr} (h : N1 x.cps.toList + N2 x.cps.toList ≠ 0) (h' : ((aR x.cps.toList : Nat) : Int) ≠ (Txt.rstripChars x (PySem.Str.ofString " ")).length) : OutNB news x.cps.toList news .none := by
  rw [rstrip_len] at h'
  exact .inl ⟨by unfold nbt; rw [if_neg h, if_neg (by lia)], rfl, rfl⟩
theorem nbt_some {x : MStr} (h : N1 x.cps.toList + N2 x.cps.toList ≠ 0) (h' : ((aR x.cps.toList : Nat) : Int) = (Txt.rstripChars x (PySem.Str.ofString " ")).length) : nbt x.cps.toList = some (bare (cR x.cps.toList) (eR x.cps.toList)) := by
  rw [rstrip_len] at h'
  unfold nbt; rw [if_neg h, if_pos (by lia)]
theorem c_nbt (w : World) (x : MStr) (t : MTok) (d : Int) (t2 : MTok) (news : MLed) (hx : x.length ≤ 37) (hok : okRaw x.cps.toList d) :
    Con w 136 6 [.str x t, .int d t2] news (OutNB news x.cps.toList) := by
  k_with "call ref" => ((k_here; k_dflt (cell_ask (c_d_of_text _ _ _ _ _ _ ?_ ?_)); (next => lia); (next => assumption); (intro v9 n9 h9 tk9 F9 N9 ho9); (rcases ho9 with ⟨hz9, hv9, hn9⟩ | ⟨hz9, D9, D8, t9, n8, hv9, hn9, ⟨D7, t91, t92, hv7, hn7, hl7⟩ | ⟨hv7, hn7, hz1, hz2⟩, hl9⟩) <;> ((try replace hn7 := hn7.symm); (try subst hn7); (try (cases hv7)); (replace hn9 := hn9.symm); subst hn9; subst hv9; (try dsimp only); (try k_fold))))
  intro mean mg mb dp un gd cn cs a ccd cl outer A₀ base h₀ L m s Q E hB hF hX hN hT hk hdp hun hret
  refine wpAny_call ?_
  k_dflt cell_enter
  k_steps
  all_goals first
    | exact con_ret hret (by k_asm) (by assumption) (by kcj_all) (outNB_n (by with_reducible assumption))
    | exact con_ret hret (by k_asm) (by assumption) (by kcj_all) (outNB_o (by with_reducible assumption) (by with_reducible assumption))
    | exact con_ret hret (by k_asm) (by assumption) (by kcj_all) (.inr ⟨(bare (cR x.cps.toList) (eR x.cps.toList)).1, (bare (cR x.cps.toList) (eR x.cps.toList)).2, nbt_some (by with_reducible assumption) (by with_reducible assumption), .inl ⟨_, _, _, rfl, rfl, by with_reducible assumption⟩⟩)
    | exact con_ret hret (by k_asm) (by assumption) (by kcj_all) (.inr ⟨(bare (cR x.cps.toList) (eR x.cps.toList)).1, (bare (cR x.cps.toList) (eR x.cps.toList)).2, nbt_some (by with_reducible assumption) (by with_reducible assumption), .inr ⟨rfl, rfl, by with_reducible assumption, by with_reducible assumption⟩⟩)
    | skip
  k_with_none
/-! P14 -/
abbrev DictS (w : World) (o : MObj) (kvs : List (MStr × MVal)) : Prop := o.IsDictOf (PySem.strKind PySem.Challenge.rw_pq0137_01.prog w) kvs
/-- the tray at k draws -/
abbrev TrayOf (w : World) (o : MObj) (l : MAddr) (k : Int) (tk : MTok) : Prop := DictS w o [(PySem.Str.ofString "row", .ref l), (PySem.Str.ofString "at", .int k tk)]
abbrev OutPick (w : World) (D l : MAddr) (lo : MObj) (k many : Int) (rest : MLed) : MLed → Value → Prop := fun n' v =>
  ∃ (o' : MObj) (r : Int) (t tk : MTok), v = .int r t ∧ n' = (D, o') :: (l, lo) :: rest ∧ TrayOf w o' l (k + 1) tk ∧ 0 ≤ r ∧ r < many
theorem outPick {w : World} {D l : MAddr} {lo o' : MObj} {k many r : Int} {t tk : MTok} {rest : MLed} (h : TrayOf w o' l (k + 1) tk) (hm : 0 < many) :
    OutPick w D l lo k many rest ((D, o') :: (l, lo) :: rest) (.int (Int.fmod r many) t) :=
  ⟨o', _, t, tk, rfl, rfl, h, Int.fmod_nonneg_of_pos _ hm, Int.fmod_lt_of_pos _ hm⟩
theorem tray_eq (a b v : MVal) : stored [(PySem.Str.ofString "row", a), (PySem.Str.ofString "at", b)] (PySem.Str.ofString "at") v = [(PySem.Str.ofString "row", a), (PySem.Str.ofString "at", v)] := by
  have h : ¬ PySem.Str.ofString "row" = PySem.Str.ofString "at" := by decide +kernel
  simp [stored, h]
theorem tray_stored {w : World} {o : MObj} {a b v : MVal} (h : o.IsDictOf (PySem.strKind PySem.Challenge.rw_pq0137_01.prog w) (stored [(PySem.Str.ofString "row", a), (PySem.Str.ofString "at", b)] (PySem.Str.ofString "at") v)) : DictS w o [(PySem.Str.ofString "row", a), (PySem.Str.ofString "at", v)] := tray_eq a b v ▸ h
theorem c_pick (w : World) (D l : MAddr) (o : MObj) (tk : MTok) (k : Int) (many : Int) (t : MTok) (vs : List MVal) (ns : List Int) (n2 : Nat) (rest : MLed) (hd : TrayOf w o l k tk) (hne : ∀ p ∈ (l, ({ cls := .type "list", data := .seq vs.toArray n2 } : MObj)) :: rest, p.1 ≠ D)
    (hk0 : 0 ≤ k) (hk1 : k < 100000) (hm : 0 < many) (hns : IntsAre vs ns) (hlen : ns.length ≤ 1000) :
    Con w 143 1 [.ref D, .int many t] ((D, o) :: (l, ({ cls := .type "list", data := .seq vs.toArray n2 } : MObj)) :: rest) (OutPick w D l ({ cls := .type "list", data := .seq vs.toArray n2 } : MObj) k many rest) := by
  k_with "subscriptTail" => ((k_here; k_dflt ((with_reducible show wpAny _ _ (subscriptTail _ _ (Value.ref _) (Value.str _ _)) _ _ _); refine kda_item (knd := PySem.strKind _ _) (by k_asm) (by k_mem) (by k_asm) (strKind_is _ _ _ _) (by rfl) ?_)))
  k_with "setItem ref str" => ((k_here; k_dflt (refine' kda_set (knd := PySem.strKind _ _) ?F ?N ?U ?d (strKind_is _ _ _ _) ?z ?_; (case F => k_asm); (case N => k_asm); (case U => exact UpdF.head (by assumption)); (case d => k_asm); (case z => rw [sizeLine_eq]; exact Nat.le_of_ble_eq_true (by with_unfolding_all rfl))); intro h' o' F' N' hd'; (replace hd' := tray_stored hd'); (try dsimp only at N')))
  intro mean mg mb dp un gd cn cs a ccd cl outer A₀ base h₀ L m s Q E hB hF hX hN hT hk hdp hun hret
  refine wpAny_call ?_
  k_dflt cell_enter
  k_steps
  all_goals exact con_ret hret (by k_asm) (by assumption) (by kcj_all) (outPick (by assumption) hm)
  k_with_none
/-! P15 -/
def BareI (c e n t : Int) : Prop := n ≠ 0 ∧ e ≤ t ∧ n * 10 ^ (t - e).toNat = c ∧ (tz n.natAbs : Int) + (t - e) = tz c.natAbs
theorem bare_start {c e : Int} (h : c ≠ 0) : BareI c e c e := ⟨h, by lia, by simp, by lia⟩
theorem fmod0 {n : Int} (h : n.fmod 10 = 0) : n.fdiv 10 * 10 = n ∧ n.natAbs % 10 = 0 ∧ (n.fdiv 10).natAbs = n.natAbs / 10 := by
  rw [Int.fmod_eq_emod_of_nonneg _ (by lia)] at h
  rw [Int.fdiv_eq_ediv_of_nonneg _ (by lia)]
  lia
theorem bare_turn {c e n t : Int} (hI : BareI c e n t) (h : n.fmod 10 = 0) : BareI c e (n.fdiv 10) (t + 1) := by
  obtain ⟨a, b, p, d⟩ := hI
  have ⟨q1, q2, q3⟩ := fmod0 h
  refine ⟨by lia, by lia, ?_, ?_⟩
  · rw [show (t + 1 - e).toNat = (t - e).toNat + 1 by lia, Int.pow_succ, Int.mul_comm (10 ^ _) 10, ← Int.mul_assoc, q1, p]
  · rw [q3]; rw [tz_ten (by lia) q2] at d; lia
theorem bare_word {c e n t : Int} (h1 : n < 10000000000) (h2 : -10000000000 < n) (hI : BareI c e n t) (h : n.fmod 10 = 0) : n.fdiv 10 < 10000000000 ∧ -10000000000 < n.fdiv 10 ∧ BareI c e (n.fdiv 10) (t + 1) := by
  have ⟨q1, q2, q3⟩ := fmod0 h
  exact ⟨by lia, by lia, bare_turn hI h⟩
theorem bare_meas {c e n t : Int} (hI : BareI c e n t) (h : n.fmod 10 = 0) : (n.fdiv 10).natAbs < n.natAbs := by
  have ⟨q1, q2, q3⟩ := fmod0 h
  have := hI.1
  lia
theorem bare_end {c e n t : Int} (hI : BareI c e n t) (h : n.fmod 10 ≠ 0) : n = (bare c e).1 ∧ t = (bare c e).2 := by
  obtain ⟨a, b, p, d⟩ := hI
  rw [Int.fmod_eq_emod_of_nonneg _ (by lia)] at h
  rw [tz_not (by lia)] at d
  have hpos : (10 : Int) ^ (t - e).toNat ≠ 0 := Int.ne_of_gt (Int.pow_pos (by lia))
  have hc : c ≠ 0 := by
    rw [← p]; exact Int.mul_ne_zero a hpos
  unfold bare
  rw [if_neg hc]
  dsimp only
  rw [show tz c.natAbs = (t - e).toNat by lia]
  refine ⟨?_, by lia⟩
  rw [← p]
  exact (Int.mul_ediv_cancel _ hpos).symm
theorem bare_nil {c e : Int} (h : c = 0) : 0 = (bare c e).1 ∧ 0 = (bare c e).2 := by unfold bare; rw [if_pos h]; exact ⟨rfl, rfl⟩
theorem c_bare (w : World) (c : Int) (t : MTok) (e : Int) (t2 : MTok) (news : MLed) (h0 : -10000000000 < c) (h1 : c < 10000000000) :
    Con w 150 1 [.int c t, .int e t2] news (OutT2 news (bare c e).1 (bare c e).2) := by
  k_with "con lt" => (first | assumption | exact fun p hp => ktn_ltOf (by assumption) p hp | exact fun p hp => ktn_ltOf (And.right (by assumption)) p hp | exact fun p hp => ktn_ltOf (And.right (And.right (by assumption))) p hp | exact fun p hp => ktn_ltOf (And.right (And.right (And.right (by assumption)))) p hp)
  intro mean mg mb dp un gd cn cs a ccd cl outer A₀ base h₀ L m s Q E hB hF hX hN hT hk hdp hun hret
  k_with "exec While Compare cons nil" => k_while (fun _ number tens => number < 10000000000 ∧ -10000000000 < number ∧ BareI c e number tens) (fun _ number _ => number.natAbs) "number" "tens"
  k_with "state" => first | exact ⟨h1, h0, bare_start (by assumption)⟩ | exact bare_word (by assumption) (by assumption) (by assumption) (by assumption)
  k_with "measure" => exact bare_meas (by assumption) (by assumption)
  refine wpAny_call ?_
  k_dflt cell_enter
  k_steps
  all_goals cell_end hret (outT2 ?_ ?_) ()
  all_goals first
    | with_reducible exact bare_nil (by assumption)
    | with_reducible exact bare_end (by assumption) (by assumption)
    | walk_at "con lt"
    | skip
  k_with_none
/-! P16 -/
abbrev ListO (vs : List MVal) (n2 : Nat) : MObj := { cls := .type "list", data := .seq vs.toArray n2 }
abbrev Tup2 (a b : MVal) : MObj := { cls := .type "tuple", data := .seq #[a, b] }
theorem pick_pow {x r0 d : Int} (h : x < 10 ^ (1 + r0).toNat) (h0 : 0 ≤ r0) (h1 : r0 < d) (h2 : d ≤ 8) : x < 10 ^ d.toNat ∧ x < 10000000000 := by
  have e1 : (10 : Int) ^ (1 + r0).toNat ≤ 10 ^ d.toNat := by
    have : (10 : Nat) ^ (1 + r0).toNat ≤ 10 ^ d.toNat := Nat.pow_le_pow_right (by lia) (by lia)
    exact_mod_cast this
  have e2 : (10 : Int) ^ d.toNat ≤ 10 ^ 8 := by
    have : (10 : Nat) ^ d.toNat ≤ 10 ^ 8 := Nat.pow_le_pow_right (by lia) (by lia)
    exact_mod_cast this
  have e3 : (10 : Int) ^ 8 = 100000000 := by decide
  lia
theorem news_rot {h₀ h : Heap} {L : MAddr} {a b c : MAddr × MObj} {r : MLed} (N : News h₀ L h (a :: b :: c :: r)) : News h₀ L h (b :: c :: a :: r) := fun p hp => N p (by
  simp only [List.mem_cons] at *
  rcases hp with h | h | h | h
  · exact .inr (.inl h)
  · exact .inr (.inr (.inl h))
  · exact .inl h
  · exact .inr (.inr (.inr h)))
theorem ltT1 {q : MAddr × MObj} {r : MLed} {B : MAddr} (h : ∀ p ∈ q :: r, p.1 < B) : q.1 < B := h q (.head _)
inductive Num where
  | i (n : Int)
  | d (a b : Int)
noncomputable def Num.due : Num → Int × Int
  | .i n => bare n 0
  | .d a b => (a, b)
noncomputable def tensL : List Int := [0, 1, -1, 3, -4, 20, -30, 60, -70]
def Num.ok (dg : Int) : Num → Prop
  | .i n => -(10 ^ dg.toNat) < n ∧ n < 10 ^ dg.toNat
  | .d a b => ∃ n e : Int, -(10 ^ dg.toNat) < n ∧ n < 10 ^ dg.toNat ∧ e ∈ tensL ∧ (a, b) = bare n e
def Num.val (B : MAddr) (V : MVal) : Num → Prop
  | .i n => ∃ t, V = .int n t
  | .d _ _ => V = .ref B
def OutNum (w : World) (D l : MAddr) (lo : MObj) (k d : Int) (rest : MLed) : MLed → Value → Prop := fun n' v =>
  ∃ (R B : MAddr) (V : MVal) (t1 t2 tk : MTok) (o' : MObj) (x : Num) (j : Int), v = .ref R ∧
    n' = (R, Tup2 V (.ref B)) :: (B, Tup2 (.int x.due.1 t1) (.int x.due.2 t2)) :: (D, o') :: (l, lo) :: rest ∧
    TrayOf w o' l (k + j) tk ∧ 0 ≤ j ∧ j ≤ 5 ∧ x.ok d ∧ x.val B V ∧ D < B
theorem outNum {w : World} {D l R B : MAddr} {lo o' : MObj} {k k' d : Int} {rest : MLed} {V : MVal} {t1 t2 tk : MTok} {a b : Int} (x : Num) (hb : x.due = (a, b)) (hT : TrayOf w o' l k' tk) (hk : k ≤ k' ∧ k' ≤ k + 5) (ho : x.ok d) (hv : x.val B V) (hD : D < B) :
    OutNum w D l lo k d rest ((R, Tup2 V (.ref B)) :: (B, Tup2 (.int a t1) (.int b t2)) :: (D, o') :: (l, lo) :: rest) (.ref R) := by
  have e1 : a = x.due.1 := by rw [hb]
  have e2 : b = x.due.2 := by rw [hb]
  subst e1; subst e2
  exact ⟨R, B, V, t1, t2, tk, o', x, k' - k, rfl, rfl, by rw [show k + (k' - k) = k' by lia]; exact hT, by lia, by lia, ho, hv, hD⟩
theorem tens_all : ∀ k : Fin 9, [0, 1, -1, 3, -4, 20, -30, 60, -70].getD k.val 0 ∈ tensL := by decide
theorem tens_mem {r : Int} (h0 : 0 ≤ r) (h1 : r < 9) : [0, 1, -1, 3, -4, 20, -30, 60, -70].getD r.toNat 0 ∈ tensL := tens_all ⟨r.toNat, by lia⟩
def CutSgn (w : World) (h₀ : Heap) (L D l : MAddr) (lo : MObj) (d k : Int) (rest : MLed) (s : Shared) (f : Flow) (s₂ : Shared) : Prop :=
  f = .next ∧ ∃ (o' : MObj) (tk : MTok) (n : Int) (tn : MTok) (h : Heap) (tkk : Nat) (m : MStr → Option MVal) (news' : MLed), s₂ = { s with heap := h, toks := tkk } ∧ Fr h₀ L h m ∧ News h₀ L h news' ∧ (∀ p ∈ (D, o') :: (l, lo) :: rest, p ∈ news') ∧
    m (PySem.Str.ofString "number") = some (.int n tn) ∧ m (PySem.Str.ofString "tray") = some (.ref D) ∧ TrayOf w o' l (k + 1) tk ∧ (-(10 ^ d.toNat) < n ∧ n < 10 ^ d.toNat) ∧ -10000000000 < n ∧ n < 10000000000
theorem cutSgn_end {w : World} {h₀ : Heap} {L D l : MAddr} {lo o' : MObj} {d k n : Int} {tk tn : MTok} {rest news' : MLed} {s : Shared} {h : Heap} {tkk : Nat} {m : MStr → Option MVal}
    (F : Fr h₀ L h m) (N : News h₀ L h news') (hT : TrayOf w o' l (k + 1) tk) (hs : ∀ p ∈ (D, o') :: (l, lo) :: rest, p ∈ news') (h1 : m (PySem.Str.ofString "number") = some (.int n tn)) (h2 : m (PySem.Str.ofString "tray") = some (.ref D))
    (hn : (-(10 ^ d.toNat) < n ∧ n < 10 ^ d.toNat) ∧ -10000000000 < n ∧ n < 10000000000) : CutSgn w h₀ L D l lo d k rest s .next { s with heap := h, toks := tkk } :=
  ⟨rfl, o', tk, n, tn, h, tkk, m, news', rfl, F, N, hs, h1, h2, hT, hn⟩
theorem cut_sgn {M : Model} {A : Around} {T : Sem Flow} {E : MVal → Shared → Prop} {Q : Flow → Shared → Prop} {w : World} {h₀ : Heap} {L D l : MAddr} {lo o : MObj} {k : Int} (d : Int) {tk : MTok} {rest : MLed} {s : Shared} {m₀ : MStr → Option MVal}
    (_F : Fr h₀ L s.heap m₀) (_N : News h₀ L s.heap ((D, o) :: (l, lo) :: rest)) (_hT : TrayOf w o l k tk)
    (hi : CutMk 3 → wpAny M A T (fun f s₂ => CutSgn w h₀ L D l lo d k rest s f s₂) E s)
    (ho : ∀ (o' : MObj) (tk' : MTok) (n : Int) (tn : MTok) (u : MStr → Option MVal) (h : Heap) (tkk : Nat), TrayOf w o' l (k + 1) tk' → -(10 ^ d.toNat) < n → n < 10 ^ d.toNat → -10000000000 < n → n < 10000000000 →
      Fr h₀ L h (fun y => if y = PySem.Str.ofString "number" then some (.int n tn) else if y = PySem.Str.ofString "tray" then some (.ref D) else u y) →
      News h₀ L h ((D, o') :: (l, lo) :: rest) → Q .next { s with heap := h, toks := tkk }) : wpAny M A T Q E s := by
  refine wpAny_mono (hi ⟨⟩) (fun f s₂ q => ?_) fun _ _ h => h
  obtain ⟨rfl, o', tk', n, tn, h, tkk, m, news', rfl, F, N, hs, h1, h2, hT, ⟨n1, n2⟩, n3, n4⟩ := q
  refine ho o' tk' n tn m h tkk hT n1 n2 n3 n4 ?_ fun p hp => N p (hs p hp)
  have e : (fun y => if y = PySem.Str.ofString "number" then some (PySem.Value.int n tn) else if y = PySem.Str.ofString "tray" then some (.ref D) else m y) = m := by
    funext y
    by_cases q1 : y = PySem.Str.ofString "number"
    · rw [if_pos q1, q1, h1]
    · rw [if_neg q1]
      by_cases q3 : y = PySem.Str.ofString "tray"
      · rw [if_pos q3, q3, h2]
      · rw [if_neg q3]
  rw [e]
  exact F
theorem num_i {n d : Int} (h1 : -(10 ^ d.toNat) < n) (h2 : n < 10 ^ d.toNat) : Num.ok d (.i n) := ⟨h1, h2⟩
theorem num_d {n d q : Int} (h1 : -(10 ^ d.toNat) < n) (h2 : n < 10 ^ d.toNat) (hq : 0 ≤ q) (hq' : q < 9) : Num.ok d (.d (bare n ([0, 1, -1, 3, -4, 20, -30, 60, -70].getD q.toNat 0)).1 (bare n ([0, 1, -1, 3, -4, 20, -30, 60, -70].getD q.toNat 0)).2) :=
  ⟨n, _, h1, h2, tens_mem hq hq', rfl⟩
theorem sgn_1 {r d : Int} (h0 : 0 ≤ r) (h : r < 10 ^ d.toNat ∧ r < 10000000000) : (-(10 ^ d.toNat) < r ∧ r < 10 ^ d.toNat) ∧ -10000000000 < r ∧ r < 10000000000 := by lia
theorem sgn_2 {r d : Int} (h0 : 0 ≤ r) (h : r < 10 ^ d.toNat ∧ r < 10000000000) : (-(10 ^ d.toNat) < 0 - r ∧ 0 - r < 10 ^ d.toNat) ∧ -10000000000 < 0 - r ∧ 0 - r < 10000000000 := by lia
theorem c_number (w : World) (D l : MAddr) (o : MObj) (tk : MTok) (k : Int) (d : Int) (t : MTok) (vs : List MVal) (ns : List Int) (n2 : Nat) (rest : MLed) (hd : TrayOf w o l k tk) (hne : ∀ p ∈ (l, ListO vs n2) :: rest, p.1 ≠ D)
    (hk0 : 0 ≤ k) (hk1 : k < 90000) (hd0 : 4 ≤ d) (hd1 : d ≤ 8) (hns : IntsAre vs ns) (hlen : ns.length ≤ 1000) :
    Con w 157 2 [.ref D, .int d t] ((D, o) :: (l, ListO vs n2) :: rest) (OutNum w D l (ListO vs n2) k d rest) := by
  k_with "call ref" => ((k_here; k_dflt (cell_ask (c_bare _ _ _ _ _ _ ?_ ?_)); (next => lia); (next => lia); (intro v9 n9 h9 tk9 F9 N9 ho9); (obtain ⟨D9, t91, t92, hv9, hn9, hl9⟩ := ho9); subst hn9; subst hv9; (try dsimp only); (try k_fold)))
  k_with "con pick" => (((cell_ask (c_pick _ _ _ _ _ _ _ _ _ _ _ _ (by assumption) ?_ ?_ ?_ ?_ (by assumption) ?_)); (next => ((simp only [List.forall_mem_cons]); (repeat' (refine And.intro ?_ ?_)) <;> (first | assumption | k_ne))); (next => lia); (next => lia); (next => first | lia | exact Int.pow_pos (by lia)); (next => lia); (intro v9 n9 h9 tk9 F9 N9 ho9); (obtain ⟨o9, r9, t9, u9, hv9, hn9, htr9, hr9, hr8⟩ := ho9); subst hn9; subst hv9; (try have hr7 := pick_pow hr8 (by assumption) (by assumption) (by assumption)); (try dsimp only); (try k_fold)))
  k_with "call ref" => ((k_here; k_dflt (rename News _ _ _ _ => nR; replace nR := news_rot nR; walk_at "con pick")))
  k_with "call ref" => ((k_here; k_dflt (walk_at "con pick")))
  k_with "exec Assign" =>
    k_dflt (
      fail_if_success (rename CutMk 3 => q)
      (with_reducible show wpAny _ _ (exec (PySem.Stmt.Assign _ (PySem.Expr.IfExp _ _ _ _) _) _) _ _ _)
      rename Fr _ _ _ _ => cF
      rename News _ _ _ _ => cN
      refine' cut_sgn d cF cN (by with_reducible assumption) ?ci3 ?co3
      (case' ci3 => (intro mk3; (try k_fold)))
      (case' co3 => (intro o3 tk3 n3 tn3 u3 h3 tkk3 hT3 hn1 hn2 hn3 hn4 F3 N3; clear cF cN; (try dsimp only); (try k_fold))))
  intro mean mg mb dp un gd cn cs a ccd cl outer A₀ base h₀ L m s Q E hB hF hX hN hT hk hdp hun hret
  have hne1 : l ≠ D := hne _ (.head _)
  have hne2 : ∀ p ∈ rest, p.1 ≠ D := fun p hp => hne p (.tail _ hp)
  refine wpAny_call ?_
  k_dflt cell_enter
  k_steps
  all_goals first
    | exact cutSgn_end (by k_asm) (by assumption) (by with_reducible assumption) (by kcj_all) (by with_unfolding_all rfl) (by with_unfolding_all rfl) (by first | exact sgn_1 (by with_reducible assumption) (by with_reducible assumption) | exact sgn_2 (by with_reducible assumption) (by with_reducible assumption))
    | exact con_ret hret (by k_asm) (by assumption) (by kcj_all) (outNum (.i _) rfl (by with_reducible assumption) (by lia) (num_i hn1 hn2) ⟨_, rfl⟩ (ltT1 (by with_reducible assumption)))
    | exact con_ret hret (by k_asm) (by assumption) (by kcj_all) (outNum (.d _ _) rfl (by with_reducible assumption) (by lia) (num_d hn1 hn2 (by with_reducible assumption) (by with_reducible assumption)) rfl (ltT1 (by with_reducible assumption)))
    | skip
  k_with_none
/-! P17 -/
theorem td_reads {w : World} {h₀ h : Heap} {L : MAddr} {m : MStr → Option MVal} {news n' : MLed} {a b : Int} {v : MVal} (X : (Mine.hd.heap_39 w.params).In h₀) (F : Fr h₀ L h m) (N : News h₀ L h n') (o : OutTD news a b n' v) :
    ∃ D, v = .ref D ∧ PySem.Reads h (.ref D) (.tuple [.int a, .int b]) [] ∧ News h₀ L h news := by
  rcases o with ⟨D, t1, t2, rfl, rfl, hl⟩ | ⟨rfl, rfl, rfl, rfl⟩
  · exact ⟨D, rfl, PyProof.Rows.reads_tuple_at (N _ (.head _)).1 rfl rfl (.cons (.int _ _) (.cons (.int _ _) .nil)), fun p hp => N p (.tail _ hp)⟩
  · exact ⟨59, rfl, PyProof.Rows.reads_tuple_at (F.keep _ _ (X 59 _ rfl)) rfl rfl (.cons (.int _ _) (.cons (.int _ _) .nil)), N⟩
theorem ne_same {w : World} {A : Around} {E : MVal → Shared → Prop} {Q : MVal → Shared → Prop} {s : Shared} {h₀ : Heap} {L D B : MAddr} {news : MLed} {a b : Int} {t1 t2 : MTok} (ra : PySem.Reads s.heap (.ref D) (.tuple [.int a, .int b]) []) (N : News h₀ L s.heap news) (hm : (B, Tup2 (.int a t1) (.int b t2)) ∈ news)
    (hu : A.units + 64 < cLine) (h : Q (.bool false) s) : wpAny (model PySem.Challenge.rw_pq0137_01.prog w) A (compareOp .NotEq (.ref D) (.ref B)) Q E s := by
  refine PyProof.Rows.ne_dataH ra (PyProof.Rows.reads_tuple_at (N _ hm).1 rfl rfl (.cons (.int _ _) (.cons (.int _ _) .nil))) rfl rfl hu ?_
  have e : PyData.eqv (.tuple [.int a, .int b]) (.tuple [.int a, .int b]) = true := by simp [PyData.eqv, PyData.eqvAll]
  rw [e]; exact h
theorem news_r3 {h₀ h : Heap} {L : MAddr} {a b c : MAddr × MObj} {r : MLed} (N : News h₀ L h (a :: b :: c :: r)) : News h₀ L h (c :: a :: b :: r) := fun p hp => N p (by
  simp only [List.mem_cons] at *
  rcases hp with h | h | h | h
  · exact .inr (.inr (.inl h))
  · exact .inl h
  · exact .inr (.inl h)
  · exact .inr (.inr (.inr h)))
def LawJ (w : World) (D l c : MAddr) (lo oc : MObj) (i : Nat) (m : MStr → Option MVal) (nx : MLed) : Prop :=
  ∃ (o : MObj) (k : Int) (tk : MTok), nx = [(D, o), (l, lo), (c, oc)] ∧ m (PySem.Str.ofString "tray") = some (.ref D) ∧ TrayOf w o l k tk ∧ 0 ≤ k ∧ k ≤ 10 + 20 * (i : Int)
section
variable {prog : Program} {w : World} {A : Around} {E : MVal → Shared → Prop} {Q : Flow → Shared → Prop} {s : Shared} {env : Env} {h₀ : Heap} {x : MStr} {body : List Stmt}
theorem law_for {D l c r : MAddr} {o lo oc : MObj} {k : Int} {tk t₀ u₀ v₀ : MTok} {m₀ : MStr → Option MVal} {news : MLed} {v : MVal}
    (hh : A.handled = none) (hr : IsRange s.heap r 0 6 1 t₀ u₀ v₀) (F : Fr h₀ env.locals s.heap m₀) (N : News h₀ env.locals s.heap news) (hT : TrayOf w o l k tk) (_hoc : oc.data = .cell (some v)) (hm : ∀ p ∈ [(D, o), (l, lo), (c, oc)], p ∈ news) (hlD : l ≠ D) (hcD : c ≠ D)
    (ht : m₀ (PySem.Str.ofString "tray") = some (.ref D)) (hk : 0 ≤ k ∧ k ≤ 10) (hx : x = PySem.Str.ofString "turn")
    (turn : ∀ (i : Nat) (t : MTok) (u : MStr → Option MVal) (o' : MObj) (k' : Int) (tk' : MTok) (h : Heap) (tkk : Nat) (own : MLed), i < 6 → (∀ p ∈ own, p.1 ≠ D) → l ≠ D → c ≠ D → TrayOf w o' l k' tk' → 0 ≤ k' → k' ≤ 10 + 20 * (i : Int) →
      Fr h₀ env.locals h (fun y => if y = PySem.Str.ofString "turn" then some (.int (i : Int) t) else if y = PySem.Str.ofString "tray" then some (.ref D) else u y) → News h₀ env.locals h ((D, o') :: (l, lo) :: (c, oc) :: own) →
      wpAny (model prog w) A (execs body env) (InvPostN h₀ env.locals (LawJ w D l c lo oc (i + 1)) own [D, l, c] { s with heap := h, toks := tkk } Q) E { s with heap := h, toks := tkk })
    (done : ∀ (u : MStr → Option MVal) (h : Heap) (tkk : Nat), Fr h₀ env.locals h u → News h₀ env.locals h [(c, oc)] → Q .next { s with heap := h, toks := tkk }) :
    wpAny (model prog w) A (pyIter (.ref r)) (fun it s₂ => LoopAtV prog w A h₀ env x body Q E it s₂) E s := by
  subst hx
  refine wpAny_pyIter_range hr (by decide) ?_
  have hn : Builtin.Range.rangeSize 0 6 1 = ((6 : Nat) : Int) := by decide
  have W : Walks prog w A s.heap.objs.size [s.heap.objs.size] [s.heap.objs.size] 6 (fun i v => i < 6 ∧ ∃ t, v = .int (0 + i * 1) t)
      (fun i h => IsRangeIter h s.heap.objs.size (0 + (i : Nat) * 1) ((6 : Nat) - (i : Nat) : Int) 1) := (Walks.range hh _ 0 1 6).bound
  have N' : News h₀ env.locals s.heap [(D, o), (l, lo), (c, oc)] := fun p hp => N p (hm p hp)
  refine loop_invN (fun i m nx => LawJ w D l c lo oc i m nx) W ?_ ?_ ?_ ?_ (by show IsRangeIter _ _ _ _ _; rw [hn]; simpa using Heap.get?_push_size _ rfl) (F.push _) (fun p hp => ⟨Heap.get?_push_of_some _ (N' p hp).1, (N' p hp).2⟩) ⟨o, k, tk, rfl, ht, hT, hk.1, by lia⟩ ?_ ?_
  · intro hm
    exact absurd F.ns.lt ((List.mem_singleton.mp hm) ▸ Nat.lt_irrefl _)
  · intro b hb
    rw [List.mem_singleton.mp hb]
    exact next_is_new F
  · intro p hp hI
    exact absurd (Heap.lt_size (N' p hp).1) ((List.mem_singleton.mp hI) ▸ Nat.lt_irrefl _)
  · intro p hp hI
    exact absurd (Heap.lt_size (N' p hp).1) ((List.mem_singleton.mp hI) ▸ Nat.lt_irrefl _)
  · rintro i v m₁ nx h tkk own hi ⟨_, t, rfl⟩ _ hoff ⟨o', k', tk', rfl, h1, h3, h4, h5⟩ F₁ N₁
    have e1 : (0 : Int) + (i : Int) * 1 = (i : Int) := by lia
    rw [e1] at F₁
    refine turn i t m₁ o' k' tk' h tkk own hi (fun p hp => hoff p hp D (.head _)) hlD hcD h3 h4 h5 ?_ N₁
    have e2 : (fun y => if y = PySem.Str.ofString "turn" then some (PySem.Value.int (i : Int) t) else if y = PySem.Str.ofString "tray" then some (.ref D) else m₁ y) = fun y => if y = PySem.Str.ofString "turn" then some (PySem.Value.int (i : Int) t) else m₁ y := by
      funext y
      by_cases q1 : y = PySem.Str.ofString "turn"
      · rw [if_pos q1, if_pos q1]
      · rw [if_neg q1, if_neg q1]
        by_cases q2 : y = PySem.Str.ofString "tray"
        · rw [if_pos q2, q2, h1]
        · rw [if_neg q2]
    rw [e2]
    exact F₁
  · rintro m₁ nx h tkk ⟨o', k', tk', rfl, h1, h3, h4, h5⟩ F₁ N₁
    exact done m₁ h tkk F₁ fun p hp => N₁ p (.tail _ (.tail _ hp))
theorem law_turn_end {D l c : MAddr} {lo o oc : MObj} {k : Int} {tk : MTok} {i : Nat} {L : MAddr} {m' : MStr → Option MVal} {own news' : MLed} {s₁ : Shared} {h' : Heap} {tkk : Nat}
    (F : Fr h₀ L h' m') (N : News h₀ L h' news') (hT : TrayOf w o l k tk) (hs : ∀ p ∈ (D, o) :: (l, lo) :: (c, oc) :: own, p ∈ news') (h1 : m' (PySem.Str.ofString "tray") = some (.ref D)) (h3 : 0 ≤ k) (h4 : k ≤ 10 + 20 * ((i + 1 : Nat) : Int)) :
    InvEndN h₀ L (LawJ w D l c lo oc (i + 1)) own [D, l, c] s₁ { s₁ with heap := h', toks := tkk } :=
  InvEndN.intro F N ⟨o, k, tk, rfl, h1, hT, h3, h4⟩ rfl (fun p hp => hs p (by simp only [List.mem_cons, List.not_mem_nil, or_false] at hp ⊢; rcases hp with h | h | h <;> simp [h])) (fun p hp => hs p (.tail _ (.tail _ (.tail _ hp))))
end
def IsVal (x : MStr) (d a b : Int) : Prop := nbt x.cps.toList = some (a, b) ∧ okRaw x.cps.toList d ∧ x.length ≤ 37
def IsNo (x : MStr) (d : Int) : Prop := nbt x.cps.toList = none ∧ okRaw x.cps.toList d ∧ x.length ≤ 37
abbrev OutNo (news : MLed) : MLed → Value → Prop := fun n' v => v = .none ∧ n' = news
theorem con_no (w : World) (x : MStr) (t : MTok) (d : Int) (t2 : MTok) (news : MLed) (h : IsNo x d) : Con w 136 6 [.str x t, .int d t2] news (OutNo news) :=
  Con.mono (c_nbt w x t d t2 news h.2.2 h.2.1) fun n v o => by
    rcases o with ⟨_, h1, h2⟩ | ⟨a, b, h1, _⟩
    · exact ⟨h1, h2⟩
    · rw [h.1] at h1; cases h1
theorem con_val (w : World) (x : MStr) (t : MTok) (d : Int) (t2 : MTok) (news : MLed) {a b : Int} (h : IsVal x d a b) : Con w 136 6 [.str x t, .int d t2] news (OutTD news a b) :=
  Con.mono (c_nbt w x t d t2 news h.2.2 h.2.1) fun n v o => by
    rcases o with ⟨h1, _⟩ | ⟨a', b', h1, h2⟩
    · rw [h.1] at h1; cases h1
    · rw [h.1] at h1; cases h1; exact h2
noncomputable def numText (x : Num) (d : Int) : List Nat := match x with
  | .i n => wholeText n
  | .d a b => dText a b d
/-! P19 -/
/-! a list of what the def gives, over a made tuple of texts -/
section
variable {prog : Program} {w : World} {A : Around} {E : MVal → Shared → Prop} {s : Shared} {h₀ : Heap} {L : MAddr} {m : MStr → Option MVal} {env : Env}
abbrev TupO (its : Array MVal) (n : Nat) : MObj := { cls := .type "tuple", data := .seq its n }
def SrcTA (ax : MAddr) (its : Array MVal) (news : MLed) : Prop := ∃ n, (ax, TupO its n) ∈ news
def SrcT (prog : Program) (w : World) (A : Around) (h₀ : Heap) (L : MAddr) (m : MStr → Option MVal) (env : Env) (elt : PySem.Expr) (x : MStr) (scope : Scope) (cl : List (MStr × MAddr)) (Q : MVal → Shared → Prop) (xv : MVal) (s₁ : Shared) : Prop :=
  ∃ ax its news, xv = .ref ax ∧ A.handled = none ∧ Fr h₀ L s₁.heap m ∧ News h₀ L s₁.heap news ∧ SrcTA ax its news ∧ its.size ≤ sizeLine ∧
    ∀ s₂ : Shared, (∃ h, s₂ = { s₁ with heap := h }) → LCg.CompRest prog w A h₀ L m env elt x scope cl s₂ (SrcTA ax its) (fun i v => its[i]? = some v) (LCg.FinE h₀ L m s₂ Q) its.size 0 [] news
theorem lc_tup {elt iter : PySem.Expr} {x : MStr} {px : Pos} {scope : Scope} {cl : List (MStr × MAddr)} {pos : Pos} {Q : MVal → Shared → Prop} (_F₀ : Fr h₀ L s.heap m)
    (hclos : closureFor scope env = pure cl) (hcell : ∀ y ∈ scope.names, y.2 ≠ .cell) (hkind : scope.kind = .function)
    (hnames : ∀ y ∈ scope.names, y.2 = .local → scope.names.lookup y.1 = some .local) (hx : scope.names.lookup x = some .local)
    (h : wpAny (model prog w) A (eval iter env) (SrcT prog w A h₀ L m env elt x scope cl Q) E s)
    (hs : ∀ x, foldedSetIterable iter env x = pure x := by intro _; rfl) :
    wpAny (model prog w) A (eval (.ListComp elt [⟨.Name x px, iter, [], 0⟩] scope pos) env) Q E s := by
  rw [eval_ListComp]
  refine wpAny_comprehension_free (use := none) rfl hs hclos hkind hnames (wpAny_mono h (fun xv s₁ h₁ => ?_) fun _ _ e => e)
  obtain ⟨ax, its, news, rfl, hh, F, N, S, hsz, R⟩ := h₁
  obtain ⟨n, hm⟩ := S
  have hax := (N _ hm).1
  have hl : s₁.heap.IsTuple ax its := ⟨_, hax, rfl, n, rfl⟩
  have hlt : ax < s₁.heap.objs.size := Heap.lt_size hax
  refine wpAny_pyIter_tuple hl ?_
  have up : ∀ b o, s₁.heap.get? b = some o → (s₁.heap.push { cls := .type "tuple_iterator", data := .fields #[.ref ax, .int 0 0] }).get? b = some o := fun b o e => Heap.get?_push_of_some _ e
  have tst : ∀ i (h h' : Heap) (o : MObj) (nw : MLed), (h.IsTupleIter s₁.heap.objs.size ax i ∧ h.IsTuple ax its) → h.get? s₁.heap.objs.size = some o → h'.get? s₁.heap.objs.size = some o → (∀ b o, h₀.get? b = some o → h'.get? b = some o) → News h₀ L h' nw → SrcTA ax its nw → (h'.IsTupleIter s₁.heap.objs.size ax i ∧ h'.IsTuple ax its) := by
    rintro i h h' o nw ⟨⟨o', q, r⟩, _⟩ e e' k Nw ⟨n', hm'⟩
    rw [e] at q; cases q
    exact ⟨⟨o, e', r⟩, ⟨_, (Nw _ hm').1, rfl, n', rfl⟩⟩
  refine LCg.block_U (Walks.tuple hh s₁.heap.objs.size ax (Nat.ne_of_lt hlt) its) hsz (fun i h st => by obtain ⟨o, e, _⟩ := st.1; exact ⟨o, e⟩) tst hcell hkind hx ⟨⟨_, Heap.get?_push_size _ rfl, rfl, rfl⟩, ⟨_, up _ _ hax, rfl, n, rfl⟩⟩ (fun b hb => ?_)
    (F.keeps up) (N.grown up) (Nat.ne_of_lt F.ns.lt) (next_is_new F) (fun p hp => Nat.ne_of_lt (Heap.lt_size (N p hp).1)) ⟨n, hm⟩ (R _ ⟨_, rfl⟩) ?_
  · show b < (s₁.heap.push _).objs.size
    rw [Heap.size_push]
    rcases List.mem_cons.mp hb with rfl | hb
    · exact Nat.lt_succ_self _
    · rw [List.mem_singleton.mp hb]; exact Nat.lt_succ_of_lt hlt
  · intro D C h tk m' ys news' F' N' o1 hn hC₀ hD₀ hCL hDL hCD offC fin
    refine ⟨m', hn, fun h'' hs'' => fin D h'' tk (F'.change hs'' hCL hC₀) (fun p hp => ?_) o1⟩
    refine ⟨hs''.extBut _ _ ?_ (N' p hp).1, (N' p hp).2⟩
    rcases List.mem_cons.mp hp with rfl | hp
    · exact Ne.symm hCD
    · exact offC p hp
def StepNo (h₀ : Heap) (L : MAddr) (m : MStr → Option MVal) (s : Shared) (led : MLed) (y : MVal) (s₂ : Shared) : Prop :=
  y = .none ∧ ∃ (h : Heap) (tk : Nat), s₂ = { s with heap := h, toks := tk } ∧ Fr h₀ L h m ∧ News h₀ L h led
theorem stepNo_intro {s : Shared} {led led' : MLed} {h : Heap} {tk : Nat} (F : Fr h₀ L h m) (N : News h₀ L h led') (hs : ∀ p ∈ led, p ∈ led') : StepNo h₀ L m s led .none { s with heap := h, toks := tk } :=
  ⟨rfl, h, tk, rfl, F, fun p hp => N p (hs p hp)⟩
theorem srcT_none {elt : PySem.Expr} {x : MStr} {scope : Scope} {cl : List (MStr × MAddr)} {Q : MVal → Shared → Prop} {s₁ : Shared} {ax c : MAddr} {oc : MObj} {its : Array MVal} {n : Nat} {news : MLed} {d : Int}
    (hh : A.handled = none) (F : Fr h₀ L s₁.heap m) (N : News h₀ L s₁.heap news) (hm : (ax, TupO its n) ∈ news) {td : MTok} (_hoc : oc.data = .cell (some (.int d td))) (hmc : (c, oc) ∈ news) (hits : ∀ v ∈ its.toList, ∃ z t, v = .str z t ∧ IsNo z d) (hsz : its.size ≤ sizeLine)
    (step : ∀ (z : MStr) (t : MTok) (I C D : MAddr) (oI oC oD : MObj) (m₂ : MStr → Option MVal) (h : Heap) (tk : Nat) (E' : MVal → Shared → Prop), IsNo z d → LCg.NsObj oC m₂ → m₂ x = some (.str z t) → Fr h₀ L h m → News h₀ L h [(C, oC), (c, oc), (I, oI), (D, oD), (ax, TupO its n)] →
      wpAny (model prog w) A (eval elt (compEnvC scope cl C env)) (fun y s₂ => StepNo h₀ L m s₁ [(C, oC), (c, oc), (I, oI), (D, oD), (ax, TupO its n)] y s₂) E' { s₁ with heap := h, toks := tk })
    (fin : ∀ (D : MAddr) (h : Heap) (tk : Nat), Fr h₀ L h m → News h₀ L h [(D, LCg.lst (List.replicate its.size .none))] → Q (.ref D) { s₁ with heap := h, toks := tk }) :
    SrcT prog w A h₀ L m env elt x scope cl Q (.ref ax) s₁ := by
  refine ⟨ax, its, [(ax, TupO its n), (c, oc)], rfl, hh, F, fun p hp => ?_, ⟨n, .head _⟩, hsz, ?_⟩
  · simp only [List.mem_cons, List.not_mem_nil, or_false] at hp
    rcases hp with rfl | rfl
    · exact N _ hm
    · exact N _ hmc
  · rintro s₂ ⟨hp0, rfl⟩
    have go : ∀ (k i : Nat), i + k = its.size → LCg.CompRest prog w A h₀ L m env elt x scope cl { s₁ with heap := hp0 } (SrcTA ax its) (fun i v => its[i]? = some v) (LCg.FinE h₀ L m { s₁ with heap := hp0 } Q) k i (List.replicate i .none) [(ax, TupO its n), (c, oc)] := by
      intro k
      induction k with
      | zero =>
        intro i hi D h tk F' N' _
        rw [show i = its.size by lia] at N'
        exact fin D h tk F' fun p hp => N' p (by
          rw [List.mem_singleton.mp hp]; exact .head _)
      | succ k ih =>
        intro i hi v I oI C oC D m₂ h tk E' hv hC hx2 F' N' off ne
        have hv' : v ∈ its.toList := by
          have : its.toList[i]? = some v := by simpa using hv
          exact List.mem_of_getElem? this
        obtain ⟨z, t, rfl, hz⟩ := hits v hv'
        refine wpAny_mono (step z t I C D oI oC (LCg.lst (List.replicate i .none)) m₂ h tk E' hz hC hx2 F' (fun p hp => N' p ?_)) (fun y s₃ q => ?_) fun _ _ e => e
        · simp only [List.mem_cons, List.not_mem_nil, or_false] at hp ⊢
          rcases hp with h | h | h | h | h <;> simp [h]
        · obtain ⟨rfl, h', tk', rfl, F'', N''⟩ := q
          refine LCg.CompEnd.intro F'' N'' [(ax, TupO its n), (c, oc)] (fun p hp => ?_) off ⟨n, .head _⟩ ?_
          · simp only [List.mem_cons, List.not_mem_nil, or_false] at hp ⊢
            rcases hp with h | h | h | h | h <;> simp [h]
          · have := ih (i + 1) (by lia)
            rw [List.replicate_succ'] at this
            exact this
    exact go its.size 0 (by lia)
end
/-! P20 -/
/-! the plain law: what is shown is read back -/
def halt (r : List Nat) : Prop := ∀ c r', r = c :: r' → isD c = false ∧ c ≠ 46
theorem runV_app {l r : List Nat} (hl : ∀ c ∈ l, isD c = true) (hr : ∀ c r', r = c :: r' → isD c = false) : ∀ a, runV a (l ++ r) = runV a l := by
  induction l with
  | nil =>
    intro a
    cases r with
    | nil => rfl
    | cons c r' => rw [List.nil_append, runV_not (hr c r' rfl)]; rfl
  | cons c l ih =>
    intro a
    have hc := hl c (.head _)
    rw [List.cons_append, runV_cons hc, runV_cons hc]
    exact ih (fun x hx => hl x (.tail _ hx)) _
theorem runN_app {l r : List Nat} (hl : ∀ c ∈ l, isD c = true) (hr : ∀ c r', r = c :: r' → isD c = false) : runN (l ++ r) = l.length := by
  induction l with
  | nil =>
    cases r with
    | nil => rfl
    | cons c r' => rw [List.nil_append, runN_not (hr c r' rfl)]; rfl
  | cons c l ih =>
    have hc := hl c (.head _)
    rw [List.cons_append, runN_cons hc, ih (fun x hx => hl x (.tail _ hx))]; rfl
theorem runV_two (l r : List Nat) (hl : ∀ c ∈ l, isD c = true) : ∀ a, runV a (l ++ r) = runV (runV a l) r := by
  induction l with
  | nil => intro a; rfl
  | cons c l ih =>
    intro a
    have hc := hl c (.head _)
    rw [List.cons_append, runV_cons hc, runV_cons hc]
    exact ih (fun x hx => hl x (.tail _ hx)) _
theorem runV_lin (l : List Nat) (hl : ∀ c ∈ l, isD c = true) : ∀ a, runV a l = a * 10 ^ l.length + runV 0 l := by
  induction l with
  | nil => intro a; simp [runV]
  | cons c l ih =>
    intro a
    have hc := hl c (.head _)
    have hl' := fun x hx => hl x (.tail _ hx)
    rw [runV_cons hc, runV_cons hc, ih hl' (10 * a + (c - 48)), ih hl' (10 * 0 + (c - 48)), List.length_cons, Nat.pow_succ]
    have e : (10 * a + (c - 48)) * 10 ^ l.length = a * (10 ^ l.length * 10) + (c - 48) * 10 ^ l.length := by
      rw [Nat.add_mul, Nat.mul_comm 10 a, Nat.mul_assoc, Nat.mul_comm 10]
    rw [e, Nat.mul_zero, Nat.zero_add]; lia
theorem digs_isD (n : Nat) : ∀ c ∈ digs n, isD c = true := by
  induction n using Nat.strongRecOn with
  | _ n ih =>
    intro c hc
    by_cases h : n < 10
    · rw [digs_lt h] at hc
      rw [List.mem_singleton.mp hc]; exact isD_iff.mpr (by lia)
    · rw [digs_ge h] at hc
      rcases List.mem_append.mp hc with h1 | h1
      · exact ih (n / 10) (by lia) c h1
      · rw [List.mem_singleton.mp h1]; exact isD_iff.mpr (by lia)
theorem runV_digs (n : Nat) : runV 0 (digs n) = n := by
  induction n using Nat.strongRecOn with
  | _ n ih =>
    by_cases h : n < 10
    · rw [digs_lt h, runV_cons (isD_iff.mpr (by lia))]; simp [runV]
    · rw [digs_ge h, runV_two _ _ (digs_isD _), ih (n / 10) (by lia), runV_cons (isD_iff.mpr (by lia))]; simp only [runV]; lia
theorem rep0_isD (k : Nat) : ∀ c ∈ List.replicate k 48, isD c = true := fun c hc => by rw [List.eq_of_mem_replicate hc]; decide
theorem runV_rep0 (k : Nat) : ∀ a, runV a (List.replicate k 48) = a * 10 ^ k := by
  induction k with
  | zero => intro a; simp [runV]
  | succ k ih =>
    intro a
    rw [List.replicate_succ, runV_cons (by decide), ih, Nat.pow_succ]
    simp only [Nat.sub_self, Nat.add_zero]
    rw [Nat.mul_comm 10 a, Nat.mul_assoc, Nat.mul_comm 10]
/-! the reader, piece by piece: blanks p, sign g, then body -/
theorem blanks_rep (p : Nat) (r : List Nat) (hr : ∀ c r', r = c :: r' → c ≠ 32 ∧ c ≠ 9) : blanksN (List.replicate p 32 ++ r) = p := by
  induction p with
  | zero =>
    cases r with
    | nil => rfl
    | cons c r' =>
      have := hr c r' rfl
      simp only [List.replicate_zero, List.nil_append, blanksN]; rw [if_neg (by lia)]
  | succ p ih => rw [List.replicate_succ, List.cons_append, blanksN, if_pos (.inl rfl), ih]
/-- the reader behind blanks and sign -/
noncomputable def n2b (b : List Nat) : Nat := if b[runN b]? = some 46 then runN (b.drop (runN b + 1)) else 0
noncomputable def f2b (b : List Nat) : Nat := if b[runN b]? = some 46 then runV 0 b * 10 ^ n2b b + runV 0 (b.drop (runN b + 1)) else runV 0 b
noncomputable def a3b (b : List Nat) : Nat := if b[runN b]? = some 46 ∧ 0 < runN b + n2b b then runN b + 1 + n2b b else runN b
theorem expAt_shift (pre b : List Nat) (i : Nat) : expAt (pre ++ b) (pre.length + i) = ((expAt b i).1, pre.length + (expAt b i).2) := by
  have g : ∀ j, (pre ++ b)[pre.length + j]? = b[j]? := fun j => by
    rw [List.getElem?_append_right (by lia)]; congr 1; lia
  have gd : ∀ j, (pre ++ b).drop (pre.length + j) = b.drop j := fun j => by
    rw [List.drop_append]; simp
  unfold expAt
  rw [g i, Nat.add_assoc, g (i + 1), Nat.add_assoc pre.length i 2]
  cases b[i]? with
  | none => rfl
  | some c =>
    dsimp only
    by_cases hE : isE c = true
    · rw [if_pos hE, if_pos hE]
      by_cases hp : b[i + 1]? = some 43 ∨ b[i + 1]? = some 45
      · rw [if_pos hp, if_pos hp, gd]
        split
        · rfl
        · simp only; rw [Nat.add_assoc]
      · rw [if_neg hp, if_neg hp, gd]
        split
        · rfl
        · simp only; rw [Nat.add_assoc]
    · rw [if_neg hE, if_neg hE]
theorem core {pre b : List Nat} (h : A1 (pre ++ b) = pre.length) :
    N1 (pre ++ b) + N2 (pre ++ b) = runN b + n2b b ∧ F2 (pre ++ b) = f2b b ∧ eR (pre ++ b) = (expAt b (a3b b)).1 - n2b b ∧ aR (pre ++ b) = pre.length + (expAt b (a3b b)).2 ∧ (expAt (pre ++ b) (A3 (pre ++ b))).1 = (expAt b (a3b b)).1 := by
  have d0 : (pre ++ b).drop (A1 (pre ++ b)) = b := by rw [h]; simp
  have e1 : N1 (pre ++ b) = runN b := by unfold N1; rw [d0]
  have e2 : V1 (pre ++ b) = runV 0 b := by unfold V1; rw [d0]
  have e3 : A2 (pre ++ b) = pre.length + runN b := by unfold A2; rw [e1, h]
  have g : (pre ++ b)[A2 (pre ++ b)]? = b[runN b]? := by
    rw [e3, List.getElem?_append_right (by lia)]; congr 1; lia
  have d1 : (pre ++ b).drop (A2 (pre ++ b) + 1) = b.drop (runN b + 1) := by
    rw [e3, Nat.add_assoc, List.drop_append]; simp
  have e4 : N2 (pre ++ b) = n2b b := by unfold N2 n2b; rw [g, d1]
  have e5 : F2 (pre ++ b) = f2b b := by unfold F2 f2b; rw [g, d1, e4, e2]
  have e6 : A3 (pre ++ b) = pre.length + a3b b := by
    unfold A3 a3b; rw [g, e1, e4, e3]
    split <;> lia
  have e7 := expAt_shift pre b (a3b b)
  refine ⟨by rw [e1, e4], e5, ?_, ?_, ?_⟩
  · unfold eR; rw [e6, e7, e4]
  · unfold aR; rw [e6, e7]
  · rw [e6, e7]
/-- the sign's place -/
theorem A1_of {p : Nat} {g b : List Nat} (hg : g = [] ∨ g = [45] ∨ g = [43]) (hb : ∀ c r, b = c :: r → c ≠ 32 ∧ c ≠ 9 ∧ c ≠ 43 ∧ c ≠ 45) :
    A0 (List.replicate p 32 ++ g ++ b) = p ∧ A1 (List.replicate p 32 ++ g ++ b) = (List.replicate p 32 ++ g).length ∧ ((List.replicate p 32 ++ g ++ b)[A0 (List.replicate p 32 ++ g ++ b)]? = some 45 ↔ g = [45]) := by
  have h0 : A0 (List.replicate p 32 ++ g ++ b) = p := by
    unfold A0; rw [List.append_assoc]
    apply blanks_rep
    intro c r' h
    rcases hg with rfl | rfl | rfl
    · have := hb c r' h; lia
    · cases h; lia
    · cases h; lia
  have h1 : (List.replicate p 32 ++ g ++ b)[p]? = (g ++ b)[0]? := by
    rw [List.append_assoc, List.getElem?_append_right (by simp)]; simp
  refine ⟨h0, ?_, ?_⟩
  · unfold A1; rw [h0, h1]
    rcases hg with rfl | rfl | rfl
    · cases b with
      | nil => simp
      | cons c r =>
        have := hb c r rfl
        simp; lia
    · simp
    · simp
  · rw [h0, h1]
    rcases hg with rfl | rfl | rfl
    · cases b with
      | nil => simp
      | cons c r =>
        have := hb c r rfl
        simp; lia
    · simp
    · simp
/-- what the reader makes of B, whatever halts it behind -/
def Parses (B : List Nat) (f : Nat) (e : Int) : Prop :=
  (∀ c r, B = c :: r → c ≠ 32 ∧ c ≠ 9 ∧ c ≠ 43 ∧ c ≠ 45) ∧ B ≠ [] ∧ (∀ c, B.getLast? = some c → c ≠ 32) ∧
  ∀ rest, halt rest → expAt rest 0 = (0, 0) → runN (B ++ rest) + n2b (B ++ rest) ≠ 0 ∧ f2b (B ++ rest) = f ∧ (expAt (B ++ rest) (a3b (B ++ rest))).1 - n2b (B ++ rest) = e ∧ (expAt (B ++ rest) (a3b (B ++ rest))).2 = B.length ∧
    -1000 ≤ (expAt (B ++ rest) (a3b (B ++ rest))).1 ∧ (expAt (B ++ rest) (a3b (B ++ rest))).1 ≤ 1000
theorem halt_D {r : List Nat} (h : halt r) : ∀ c r', r = c :: r' → isD c = false := fun c r' e => (h c r' e).1
theorem form1 {ds rest : List Nat} (hd : ∀ c ∈ ds, isD c = true) (hr : halt rest) : runN (ds ++ rest) = ds.length ∧ n2b (ds ++ rest) = 0 ∧ f2b (ds ++ rest) = runV 0 ds ∧ a3b (ds ++ rest) = ds.length := by
  have e1 := runN_app hd (halt_D hr)
  have g : (ds ++ rest)[ds.length]? ≠ some 46 := by
    rw [List.getElem?_append_right (by lia)]
    cases rest with
    | nil => simp
    | cons c r =>
      have := (hr c r rfl).2
      simp; lia
  refine ⟨e1, ?_, ?_, ?_⟩
  · unfold n2b; rw [e1, if_neg g]
  · unfold f2b; rw [e1, if_neg g, runV_app hd (halt_D hr)]
  · unfold a3b; rw [e1, if_neg (fun h => g h.1)]
theorem form2 {d1 d2 rest : List Nat} (h1 : ∀ c ∈ d1, isD c = true) (h2 : ∀ c ∈ d2, isD c = true) (hn : d1.length + d2.length ≠ 0) (hr : halt rest) :
    runN (d1 ++ 46 :: d2 ++ rest) = d1.length ∧ n2b (d1 ++ 46 :: d2 ++ rest) = d2.length ∧ f2b (d1 ++ 46 :: d2 ++ rest) = runV 0 (d1 ++ d2) ∧ a3b (d1 ++ 46 :: d2 ++ rest) = d1.length + 1 + d2.length := by
  have hdot : ∀ c r', 46 :: d2 ++ rest = c :: r' → isD c = false := fun c r' e => by cases e; decide
  have e1 : runN (d1 ++ 46 :: d2 ++ rest) = d1.length := by rw [List.append_assoc]; exact runN_app h1 hdot
  have g : (d1 ++ 46 :: d2 ++ rest)[d1.length]? = some 46 := by
    rw [List.append_assoc, List.getElem?_append_right (by lia)]; simp
  have d : (d1 ++ 46 :: d2 ++ rest).drop (d1.length + 1) = d2 ++ rest := by
    rw [List.append_assoc, List.drop_append]; simp
  have e2 : n2b (d1 ++ 46 :: d2 ++ rest) = d2.length := by unfold n2b; rw [e1, if_pos g, d, runN_app h2 (halt_D hr)]
  refine ⟨e1, e2, ?_, ?_⟩
  · unfold f2b
    rw [e1, if_pos g, d, e2, runV_app h2 (halt_D hr), runV_two _ _ h1, runV_lin d2 h2 (runV 0 d1)]
    rw [List.append_assoc, runV_app h1 hdot]
  · unfold a3b; rw [e1, if_pos ⟨g, by rw [e2]; lia⟩, e2]
theorem exp_at_end (B rest : List Nat) : expAt (B ++ rest) B.length = ((expAt rest 0).1, B.length + (expAt rest 0).2) := by
  have := expAt_shift B rest 0
  simpa using this
theorem isD_head {c : Nat} (h : isD c = true ∨ c = 46) : c ≠ 32 ∧ c ≠ 9 ∧ c ≠ 43 ∧ c ≠ 45 := by
  rcases h with h | h
  · have := isD_iff.mp h; lia
  · lia
theorem parse1 {ds : List Nat} (hd : ∀ c ∈ ds, isD c = true) (hn : ds ≠ []) : Parses ds (runV 0 ds) 0 := by
  have hl : ds.length ≠ 0 := by simpa using hn
  refine ⟨fun c r e => isD_head (.inl (hd c (by rw [e]; exact .head _))), hn, fun c hc => ?_, fun rest hr he => ?_⟩
  · have := isD_iff.mp (hd c (List.mem_of_getLast? hc)); lia
  · obtain ⟨q1, q2, q3, q4⟩ := form1 hd hr
    have e := exp_at_end ds rest
    rw [q1, q2, q3, q4, e, he]
    exact ⟨by lia, rfl, by simp, by simp, by simp, by simp⟩
theorem parse2 {d1 d2 : List Nat} (h1 : ∀ c ∈ d1, isD c = true) (h2 : ∀ c ∈ d2, isD c = true) (hn : d2 ≠ []) : Parses (d1 ++ 46 :: d2) (runV 0 (d1 ++ d2)) (0 - (d2.length : Int)) := by
  have hl : d2.length ≠ 0 := by simpa using hn
  refine ⟨fun c r e => ?_, by simp, fun c hc => ?_, fun rest hr he => ?_⟩
  · cases d1 with
    | nil => cases e; exact isD_head (.inr rfl)
    | cons a t => cases e; exact isD_head (.inl (h1 _ (.head _)))
  · have hc2 : c ∈ d2 := by
      rw [show d1 ++ 46 :: d2 = (d1 ++ [46]) ++ d2 by simp, List.getLast?_append] at hc
      have hd2 : d2.getLast? = some (d2.getLast hn) := List.getLast?_eq_some_getLast hn
      rw [hd2] at hc
      simp at hc
      rw [← hc]; exact List.getLast_mem hn
    have := isD_iff.mp (h2 c hc2); lia
  · obtain ⟨q1, q2, q3, q4⟩ := form2 h1 h2 (by lia) hr
    have e := exp_at_end (d1 ++ 46 :: d2) rest
    have el : (d1 ++ 46 :: d2).length = d1.length + 1 + d2.length := by simp; lia
    rw [q1, q2, q3, q4, ← el, e, he]
    exact ⟨by lia, rfl, by simp, by simp, by simp, by simp⟩
/-! an exponent behind -/
theorem exp_read {ee rest : List Nat} {neg : Bool} (hd : ∀ c ∈ ee, isD c = true) (hn : ee ≠ []) (hr : halt rest) (hb : runV 0 ee ≤ 1000) :
    expAt (69 :: (if neg then 45 else 43) :: ee ++ rest) 0 = ((if neg then -1 else 1) * (runV 0 ee : Int), 2 + ee.length) := by
  have hl : ee.length ≠ 0 := by simpa using hn
  unfold expAt
  have g0 : (69 :: (if neg then 45 else 43) :: ee ++ rest)[0]? = some 69 := rfl
  have g1 : (69 :: (if neg then 45 else 43) :: ee ++ rest)[0 + 1]? = some (if neg then 45 else 43) := rfl
  have gd : (69 :: (if neg then 45 else 43) :: ee ++ rest).drop (0 + 2) = ee ++ rest := rfl
  rw [g0, g1]
  dsimp only
  have hpm : some (if neg then 45 else 43) = some 43 ∨ some (if neg then 45 else 43) = some 45 := by cases neg <;> simp
  rw [if_pos (by decide), if_pos hpm, gd, runN_app hd (halt_D hr), runV_app hd (halt_D hr), if_neg hl]
  have e1 : (if some (if neg then 45 else 43) = some 45 then (-1 : Int) else 1) = if neg then -1 else 1 := by cases neg <;> rfl
  rw [e1, show min (runV 0 ee : Int) 9999 = runV 0 ee by lia]
theorem halt_E (x : Nat) (l : List Nat) : halt (69 :: x :: l) := fun c r e => by cases e; exact ⟨by decide, by decide⟩
theorem parse4 {d1 d2 ee : List Nat} {neg : Bool} (h1 : ∀ c ∈ d1, isD c = true) (h2 : ∀ c ∈ d2, isD c = true) (hn : d1 ≠ []) (hd : ∀ c ∈ ee, isD c = true) (he0 : ee ≠ []) (hb : runV 0 ee ≤ 1000) :
    Parses (d1 ++ ((if d2 = [] then [] else 46 :: d2) ++ 69 :: (if neg then 45 else 43) :: ee)) (runV 0 (d1 ++ d2)) ((if neg then -1 else 1) * (runV 0 ee : Int) - d2.length) := by
  have hl : d1.length ≠ 0 := by simpa using hn
  have hbb : -1000 ≤ (if neg then -1 else 1) * (runV 0 ee : Int) ∧ (if neg then -1 else 1) * (runV 0 ee : Int) ≤ 1000 := by cases neg <;> simp <;> lia
  refine ⟨fun c r e => ?_, by simp [hn], fun c hc => ?_, fun rest hr he => ?_⟩
  · cases d1 with
    | nil => exact absurd rfl hn
    | cons a t => cases e; exact isD_head (.inl (h1 _ (.head _)))
  · have hc2 : c ∈ ee := by
      rw [show d1 ++ ((if d2 = [] then [] else 46 :: d2) ++ 69 :: (if neg then 45 else 43) :: ee) = (d1 ++ (if d2 = [] then [] else 46 :: d2) ++ [69, if neg then 45 else 43]) ++ ee by simp, List.getLast?_append] at hc
      rw [List.getLast?_eq_some_getLast he0] at hc
      simp at hc
      rw [← hc]; exact List.getLast_mem he0
    have := isD_iff.mp (hd c hc2); lia
  · have ex := exp_read (neg := neg) hd he0 hr hb
    by_cases q : d2 = []
    · subst q
      rw [if_pos rfl]
      have eq : d1 ++ ([] ++ 69 :: (if neg then 45 else 43) :: ee) ++ rest = d1 ++ (69 :: (if neg then 45 else 43) :: ee ++ rest) := by simp
      obtain ⟨q1, q2, q3, q4⟩ := form1 (rest := 69 :: (if neg then 45 else 43) :: ee ++ rest) h1 (halt_E _ _)
      have e := exp_at_end d1 (69 :: (if neg then 45 else 43) :: ee ++ rest)
      rw [eq, q1, q2, q3, q4, e, ex]
      exact ⟨by lia, by simp, by simp, by simp; lia, hbb.1, hbb.2⟩
    · rw [if_neg q]
      have eq : d1 ++ (46 :: d2 ++ 69 :: (if neg then 45 else 43) :: ee) ++ rest = d1 ++ 46 :: d2 ++ (69 :: (if neg then 45 else 43) :: ee ++ rest) := by simp
      obtain ⟨q1, q2, q3, q4⟩ := form2 (rest := 69 :: (if neg then 45 else 43) :: ee ++ rest) h1 h2 (by lia) (halt_E _ _)
      have e := exp_at_end (d1 ++ 46 :: d2) (69 :: (if neg then 45 else 43) :: ee ++ rest)
      have el : (d1 ++ 46 :: d2).length = d1.length + 1 + d2.length := by simp; lia
      rw [eq, q1, q2, q3, q4, ← el, e, ex]
      exact ⟨by lia, rfl, rfl, by simp; lia, hbb.1, hbb.2⟩
/-! P21 -/
theorem tz_spec : ∀ n : Nat, n ≠ 0 → ∃ m, n = m * 10 ^ tz n ∧ m % 10 ≠ 0 := by
  intro n
  induction n using Nat.strongRecOn with
  | _ n ih =>
    intro h
    by_cases h10 : n % 10 = 0
    · obtain ⟨m, hm, hm'⟩ := ih (n / 10) (by lia) (by lia)
      refine ⟨m, ?_, hm'⟩
      rw [tz_ten (by lia) h10, Nat.pow_succ, ← Nat.mul_assoc, ← hm]; lia
    · exact ⟨n, by rw [tz_not h10]; simp, h10⟩
theorem tz_mul {n : Nat} (h : n % 10 ≠ 0) (k : Nat) : tz (n * 10 ^ k) = k := by
  induction k with
  | zero => simpa using tz_not h
  | succ k ih =>
    have hp : 0 < n * 10 ^ k := Nat.mul_pos (by lia) (Nat.pow_pos (by lia))
    rw [Nat.pow_succ, ← Nat.mul_assoc, tz_ten (by lia) (by lia), Nat.mul_div_cancel _ (by lia), ih]
theorem nfig_mul {n : Nat} (h : 0 < n) (k : Nat) : nfig (n * 10 ^ k) = nfig n + k := by
  induction k with
  | zero => simp
  | succ k ih =>
    have hp : 0 < n * 10 ^ k := Nat.mul_pos h (Nat.pow_pos (by lia))
    rw [Nat.pow_succ, ← Nat.mul_assoc, nfig_ge (by lia), Nat.mul_div_cancel _ (by lia), ih]; lia
theorem bare_mul {a : Int} (h : a.natAbs % 10 ≠ 0) (k : Nat) (e : Int) : bare (a * 10 ^ k) e = (a, e + k) := by
  have ha : a ≠ 0 := by lia
  have hp : (10 : Int) ^ k ≠ 0 := Int.ne_of_gt (Int.pow_pos (by lia))
  have e1 : (a * 10 ^ k).natAbs = a.natAbs * 10 ^ k := by rw [Int.natAbs_mul, pow_nat]
  unfold bare
  rw [if_neg (Int.mul_ne_zero ha hp), e1, tz_mul h, Int.mul_ediv_cancel _ hp]
theorem bare_spec {n e a b : Int} (hn : n ≠ 0) (h : (a, b) = bare n e) : ∃ t : Nat, n = a * 10 ^ t ∧ b = e + t ∧ a.natAbs % 10 ≠ 0 := by
  obtain ⟨m, hm, hm'⟩ := tz_spec n.natAbs (by lia)
  generalize tz n.natAbs = t at hm
  have key : ∃ a' : Int, n = a' * 10 ^ t ∧ a'.natAbs = m := by
    have hp : (((10 : Nat) ^ t : Nat) : Int) = (10 : Int) ^ t := by simp
    rcases Int.natAbs_eq n with q | q
    · exact ⟨m, by rw [q, hm, Int.natCast_mul, hp], by simp⟩
    · exact ⟨-(m : Int), by rw [q, hm, Int.natCast_mul, hp, Int.neg_mul], by simp⟩
  obtain ⟨a', ha, hab⟩ := key
  rw [ha, bare_mul (by rw [hab]; exact hm')] at h
  have h1 : a = a' := congrArg Prod.fst h
  have h2 : b = e + t := congrArg Prod.snd h
  exact ⟨t, by rw [ha, h1], h2, by rw [h1, hab]; exact hm'⟩
theorem parses_eq {B B' : List Nat} {f f' : Nat} {e e' : Int} (h : Parses B f e) (h1 : B' = B) (h2 : f' = f) (h3 : e' = e) : Parses B' f' e' := by
  subst h1; subst h2; subst h3; exact h
theorem digs_ne (n : Nat) : digs n ≠ [] := by
  intro h
  have := digs_len n
  rw [h] at this
  have := nfig_pos n
  simp at *; lia
/-- the signs of an exponent -/
theorem expText_is (t : Int) (h0 : -99 ≤ t) (h1 : t ≤ 99) : ∃ ee, expText t = (if decide (t < 0) then 45 else 43) :: ee ∧ (∀ c ∈ ee, isD c = true) ∧ ee ≠ [] ∧ runV 0 ee = t.natAbs ∧ ee.length ≤ 2 := by
  have hl : nfig t.natAbs ≤ 2 := nfig_le (k := 1) (by lia)
  refine ⟨if (digs t.natAbs).length < 2 then 48 :: digs t.natAbs else digs t.natAbs, ?_, ?_, ?_, ?_, ?_⟩
  · unfold expText
    by_cases h : t < 0 <;> simp [h]
  · split
    · intro c hc
      rcases List.mem_cons.mp hc with rfl | hc
      · decide
      · exact digs_isD _ c hc
    · exact digs_isD _
  · split
    · simp
    · exact digs_ne _
  · split
    · rw [runV_cons (by decide)]
      simpa using runV_digs t.natAbs
    · exact runV_digs _
  · split <;> simp only [List.length_cons, digs_len] <;> rw [digs_len] at * <;> lia
theorem size_parse {n : Nat} {b d : Int} (hn : n % 10 ≠ 0) (h1 : (nfig n : Int) ≤ d) (hd : d ≤ 8) (ht0 : -70 ≤ b + nfig n - 1) (ht1 : b + nfig n - 1 ≤ 67) :
    ∃ k : Nat, Parses (sizeText n b d) (n * 10 ^ k) (b - k) ∧ (nfig n : Int) + k ≤ d ∧ (sizeText n b d).length ≤ 16 := by
  have hp := nfig_pos n
  have hdg := digs_isD n
  have hlen := digs_len n
  unfold sizeText
  dsimp only
  rw [hlen]
  by_cases c1 : 0 ≤ b ∧ b + nfig n - 1 < d
  · rw [if_pos c1]
    refine ⟨b.toNat, ?_, by lia, by simp [hlen]; lia⟩
    refine parses_eq (parse1 (ds := digs n ++ List.replicate b.toNat 48) ?_ (by simp [digs_ne])) rfl ?_ (by lia)
    · intro c hc
      rcases List.mem_append.mp hc with h | h
      · exact hdg c h
      · exact rep0_isD _ c h
    · rw [runV_two _ _ hdg, runV_digs, runV_rep0]
  · rw [if_neg c1]
    by_cases c2 : b < 0 ∧ 0 ≤ b + nfig n - 1
    · rw [if_pos c2]
      refine ⟨0, ?_, by lia, by simp [hlen]; lia⟩
      refine parses_eq (parse2 (d1 := (digs n).take (b + nfig n - 1 + 1).toNat) (d2 := (digs n).drop (b + nfig n - 1 + 1).toNat) (fun c hc => hdg c (List.mem_of_mem_take hc)) (fun c hc => hdg c (List.mem_of_mem_drop hc)) ?_) rfl ?_ ?_
      · intro h
        have := congrArg List.length h
        rw [List.length_drop, hlen] at this
        simp at this; lia
      · rw [List.take_append_drop, runV_digs]; simp
      · rw [List.length_drop, hlen]; lia
    · rw [if_neg c2]
      by_cases c3 : b + nfig n - 1 < 0 ∧ 0 - b ≤ d
      · rw [if_pos c3]
        refine ⟨0, ?_, by lia, by simp [hlen]; lia⟩
        refine parses_eq (parse2 (d1 := []) (d2 := List.replicate (0 - b - nfig n).toNat 48 ++ digs n) (fun c hc => nomatch hc) ?_ (by simp [digs_ne])) rfl ?_ ?_
        · intro c hc
          rcases List.mem_append.mp hc with h | h
          · exact rep0_isD _ c h
          · exact hdg c h
        · rw [List.nil_append, runV_two _ _ (rep0_isD _), runV_rep0, Nat.zero_mul, runV_digs]; simp
        · simp [hlen]; lia
      · rw [if_neg c3]
        obtain ⟨ee, x1, x2, x3, x4, x5⟩ := expText_is (b + nfig n - 1) (by lia) (by lia)
        refine ⟨0, ?_, by lia, ?_⟩
        · refine parses_eq (parse4 (d1 := (digs n).take 1) (d2 := (digs n).drop 1) (ee := ee) (neg := decide (b + nfig n - 1 < 0)) (fun c hc => hdg c (List.mem_of_mem_take hc)) (fun c hc => hdg c (List.mem_of_mem_drop hc)) ?_ x2 x3 (by rw [x4]; lia)) ?_ ?_ ?_
          · intro h
            have := congrArg List.length h
            rw [List.length_take, hlen] at this
            simp at this; lia
          · rw [x1]
            congr 2
            by_cases q : 1 < nfig n
            · rw [if_pos q, if_neg]
              intro h
              have := congrArg List.length h
              rw [List.length_drop, hlen] at this
              simp at this; lia
            · rw [if_neg q, if_pos]
              apply List.eq_nil_of_length_eq_zero
              rw [List.length_drop, hlen]; lia
          · rw [List.take_append_drop, runV_digs]; simp
          · rw [x4, List.length_drop, hlen]
            by_cases q : b + nfig n - 1 < 0
            · rw [decide_eq_true q]; simp; lia
            · rw [decide_eq_false q]; simp; lia
        · rw [x1]
          simp only [List.length_append, List.length_take, List.length_cons, hlen]
          split <;> simp only [List.length_cons, List.length_drop, List.length_nil, hlen] <;> lia
/-! P22 -/
theorem pow_d {d : Int} (h0 : 4 ≤ d) (h1 : d ≤ 8) : (10 : Int) ^ d.toNat = ((10 ^ d.toNat : Nat) : Int) ∧ d.toNat = (d.toNat - 1) + 1 := ⟨by simp, by lia⟩
theorem nfig_lt_d {n : Int} {d : Int} (h0 : 4 ≤ d) (h1 : d ≤ 8) (a : -(10 ^ d.toNat) < n) (b : n < 10 ^ d.toNat) : (nfig n.natAbs : Int) ≤ d := by
  obtain ⟨e1, e2⟩ := pow_d h0 h1
  rw [e1] at a b
  have : n.natAbs < 10 ^ ((d.toNat - 1) + 1) := by rw [← e2]; lia
  have := nfig_le this
  lia
theorem tens_bd {e : Int} (h : e ∈ tensL) : -70 ≤ e ∧ e ≤ 60 := by
  simp only [tensL, List.mem_cons, List.not_mem_nil, or_false] at h
  lia
theorem shows (x : Num) {d : Int} (ho : x.ok d) (h0 : 4 ≤ d) (h1 : d ≤ 8) : ∃ (neg : Bool) (B : List Nat) (f : Nat) (e : Int), numText x d = (if neg then 45 else 32) :: B ∧ Parses B f e ∧ bare (if neg then 0 - (f : Int) else f) e = x.due ∧
    (f = 0 ∨ (-99 ≤ e + nfig f - 1 ∧ e + nfig f - 1 ≤ 99 ∧ (nfig f : Int) ≤ d)) ∧ B.length ≤ 16 := by
  cases x with
  | i n =>
    obtain ⟨a, b⟩ := ho
    have hf := nfig_lt_d h0 h1 a b
    have hp := nfig_pos n.natAbs
    refine ⟨decide (n < 0), digs n.natAbs, n.natAbs, 0, ?_, parses_eq (parse1 (digs_isD _) (digs_ne _)) rfl (runV_digs _).symm rfl, ?_, .inr ⟨by lia, by lia, hf⟩, by rw [digs_len]; lia⟩
    · show wholeText n = _
      unfold wholeText
      by_cases h : n < 0 <;> simp [h]
    · show _ = bare n 0
      congr 1
      by_cases h : n < 0
      · simp [h]; lia
      · simp [h]; lia
  | d a b =>
    obtain ⟨n, e, hn1, hn2, he, hab⟩ := ho
    have hf := nfig_lt_d h0 h1 hn1 hn2
    have hte := tens_bd he
    by_cases hz : n = 0
    · subst hz
      have e1 : (a, b) = ((0 : Int), (0 : Int)) := by rw [hab]; rfl
      cases e1
      refine ⟨false, [48], 0, 0, rfl, parses_eq (parse1 (ds := [48]) (fun c hc => by rw [List.mem_singleton.mp hc]; decide) (by simp)) rfl (by decide) rfl, rfl, .inl rfl, by decide⟩
    · obtain ⟨t, q1, q2, q3⟩ := bare_spec hz hab
      have hnn : n.natAbs = a.natAbs * 10 ^ t := by rw [q1, Int.natAbs_mul, pow_nat]
      have ha0 : 0 < a.natAbs := by lia
      have hng : nfig n.natAbs = nfig a.natAbs + t := by rw [hnn, nfig_mul ha0]
      have hpp := nfig_pos a.natAbs
      obtain ⟨k, s1, s2, s3⟩ := size_parse (n := a.natAbs) (b := b) (d := d) q3 (by lia) h1 (by lia) (by lia)
      refine ⟨decide (a < 0), sizeText a.natAbs b d, a.natAbs * 10 ^ k, b - k, ?_, s1, ?_, .inr ⟨?_, ?_, ?_⟩, s3⟩
      · show dText a b d = _
        unfold dText
        rw [if_neg (by lia)]
        by_cases h : a < 0 <;> simp [h]
      · have hc : (if decide (a < 0) = true then 0 - ((a.natAbs * 10 ^ k : Nat) : Int) else ((a.natAbs * 10 ^ k : Nat) : Int)) = a * 10 ^ k := by
          have hp : (((10 : Nat) ^ k : Nat) : Int) = (10 : Int) ^ k := by simp
          rw [Int.natCast_mul, hp]
          by_cases h : a < 0
          · rw [if_pos (decide_eq_true h), show (a.natAbs : Int) = -a by lia, Int.neg_mul]; lia
          · rw [if_neg (by simpa using h), show (a.natAbs : Int) = a by lia]
        rw [hc, bare_mul q3]
        show (a, b - k + k) = (a, b)
        congr 1; lia
      · rw [nfig_mul ha0]; lia
      · rw [nfig_mul ha0]; lia
      · rw [nfig_mul ha0]; lia
theorem reads_back {p : Nat} {neg : Bool} {B rest : List Nat} {f : Nat} {e d : Int} (hP : Parses B f e) (hk : f = 0 ∨ (-99 ≤ e + nfig f - 1 ∧ e + nfig f - 1 ≤ 99 ∧ (nfig f : Int) ≤ d)) (h1 : d ≤ 8) (hr : halt rest) (he : expAt rest 0 = (0, 0)) :
    N1 (List.replicate p 32 ++ (if neg then [45] else []) ++ (B ++ rest)) + N2 (List.replicate p 32 ++ (if neg then [45] else []) ++ (B ++ rest)) ≠ 0 ∧ cR (List.replicate p 32 ++ (if neg then [45] else []) ++ (B ++ rest)) = (if neg then 0 - (f : Int) else f) ∧
    eR (List.replicate p 32 ++ (if neg then [45] else []) ++ (B ++ rest)) = e ∧ aR (List.replicate p 32 ++ (if neg then [45] else []) ++ (B ++ rest)) = (List.replicate p 32 ++ (if neg then [45] else []) ++ B).length ∧ okRaw (List.replicate p 32 ++ (if neg then [45] else []) ++ (B ++ rest)) d := by
  obtain ⟨b1, b2, b3, b4⟩ := hP
  obtain ⟨c1, c2, c3, c4, c5, c6⟩ := b4 rest hr he
  have hB : ∀ c r, B ++ rest = c :: r → c ≠ 32 ∧ c ≠ 9 ∧ c ≠ 43 ∧ c ≠ 45 := by
    intro c r h
    cases B with
    | nil => exact absurd rfl b2
    | cons a t => cases h; exact b1 _ _ rfl
  obtain ⟨a0, a1, a2⟩ := A1_of (p := p) (g := if neg then [45] else []) (b := B ++ rest) (by cases neg <;> simp) hB
  obtain ⟨k1, k2, k3, k4, k5⟩ := core a1
  generalize hl : List.replicate p 32 ++ (if neg then [45] else []) ++ (B ++ rest) = l at *
  have hc : cR l = (if neg then 0 - (f : Int) else f) := by
    unfold cR
    rw [k2, c2]
    cases neg with
    | true => rw [if_pos (a2.mpr rfl)]; rfl
    | false => rw [if_neg (fun h => by have := a2.mp h; simp at this)]; rfl
  have hE : eR l = e := by rw [k3, c3]
  have hN : N1 l + N2 l ≠ 0 := by rw [k1]; exact c1
  refine ⟨hN, hc, hE, ?_, fun _ => ⟨?_, ?_, ?_, ?_, ?_⟩⟩
  · rw [k4, c4]; simp only [List.length_append]
  all_goals (try rw [hc])
  · have hf : f < 100000000 := by
      rcases hk with h | ⟨_, _, h⟩
      · lia
      · exact Nat.lt_of_lt_of_le (lt_pow_nfig f) (Nat.pow_le_pow_right (by lia) (by lia : nfig f ≤ 8))
    cases neg <;> simp <;> lia
  · have hf : f < 100000000 := by
      rcases hk with h | ⟨_, _, h⟩
      · lia
      · exact Nat.lt_of_lt_of_le (lt_pow_nfig f) (Nat.pow_le_pow_right (by lia) (by lia : nfig f ≤ 8))
    cases neg <;> simp <;> lia
  · rw [hE]
    have e1 : (if neg then 0 - (f : Int) else (f : Int)).natAbs = f := by cases neg <;> simp
    unfold okDec
    rw [e1]
    rcases hk with h | h
    · left; rw [h]; cases neg <;> simp
    · exact .inr h
  · rw [k5]; lia
  · rw [k5]; lia
/-! P23 -/
theorem tw_rep (a : Nat) (C : List Nat) (hC : ∀ c r, C = c :: r → c ≠ 32) : ((List.replicate a 32 ++ C).takeWhile (· == 32)) = List.replicate a 32 := by
  induction a with
  | zero =>
    cases C with
    | nil => rfl
    | cons c r =>
      have := hC c r rfl
      simp [this]
  | succ a ih => rw [List.replicate_succ, List.cons_append, List.takeWhile_cons]; simp [ih]
theorem contains_b (c : Nat) : (PySem.Str.ofString " ").cps.contains c = (c == 32) := by
  rw [l_b]
  show (#[32] : Array Nat).contains c = _
  rw [Bool.eq_iff_iff]; simp
theorem rev_head {C : List Nat} (h : ∀ c, C.getLast? = some c → c ≠ 32) : ∀ c r, C.reverse = c :: r → c ≠ 32 := by
  intro c r e
  apply h
  rw [← List.head?_reverse, e]; rfl
theorem strip_core {a b : Nat} {C : List Nat} (h1 : ∀ c r, C = c :: r → c ≠ 32) (hn : C ≠ []) (h2 : ∀ c, C.getLast? = some c → c ≠ 32) :
    Txt.stripChars (S (List.replicate a 32 ++ C ++ List.replicate b 32)) (PySem.Str.ofString " ") = S C := by
  unfold Txt.stripChars
  have eg : (PySem.Str.ofString " ").cps.contains = fun c => c == 32 := funext contains_b
  rw [eg]
  have lo : stripLo (fun c => c == 32) true (S (List.replicate a 32 ++ C ++ List.replicate b 32)) = a := by
    unfold stripLo
    rw [if_pos rfl, S_list, List.append_assoc, tw_rep]
    · simp
    · intro c r e
      cases C with
      | nil => exact absurd rfl hn
      | cons x t => cases e; exact h1 _ _ rfl
  have hi : stripHi (fun c => c == 32) true (S (List.replicate a 32 ++ C ++ List.replicate b 32)) a = a + C.length := by
    unfold stripHi
    rw [if_pos rfl, S_list, S_len]
    have d : (List.replicate a 32 ++ C ++ List.replicate b 32).drop a = C ++ List.replicate b 32 := by
      rw [List.append_assoc, List.drop_append]; simp
    rw [d, List.reverse_append, List.reverse_replicate, tw_rep _ _ (rev_head h2)]
    simp; lia
  unfold Txt.stripBy stripSame PySem.stripped
  rw [lo, hi]
  split
  · rename_i q
    simp [S_len] at q
    have ha : a = 0 := q.1
    have hb : b = 0 := by lia
    subst ha; subst hb; simp
  · rw [← S_of (Builtin.Str.strSub _ _ _), StrLaws.strSub_toList, S_list]
    congr 1
    rw [List.append_assoc, List.drop_append]
    simp
theorem rsN_rep (Y : List Nat) (q : Nat) (h : ∀ c, Y.getLast? = some c → c ≠ 32) : rsN (Y ++ List.replicate q 32) = Y.length := by
  unfold rsN
  rw [List.reverse_append, List.reverse_replicate, tw_rep _ _ (rev_head h)]
  simp
theorem rsN_tail (Y : List Nat) {r : List Nat} {c : Nat} {q : Nat} (hc : c ≠ 32) : rsN (Y ++ (r ++ [c] ++ List.replicate q 32)) = Y.length + r.length + 1 := by
  rw [show Y ++ (r ++ [c] ++ List.replicate q 32) = (Y ++ r ++ [c]) ++ List.replicate q 32 by simp, rsN_rep]
  · simp; lia
  · intro x hx
    simp at hx; lia
theorem last_pre {p : Nat} {g B : List Nat} (hn : B ≠ []) (h : ∀ c, B.getLast? = some c → c ≠ 32) : ∀ c, (List.replicate p 32 ++ g ++ B).getLast? = some c → c ≠ 32 := by
  intro c hc
  rw [List.getLast?_append, List.getLast?_eq_some_getLast hn] at hc
  simp at hc
  exact h c (by rw [List.getLast?_eq_some_getLast hn, hc])
theorem exp_rep (q : Nat) : expAt (List.replicate q 32) 0 = (0, 0) := by
  cases q with
  | zero => rfl
  | succ q => rw [List.replicate_succ]; rfl
theorem halt_rep (q : Nat) : halt (List.replicate q 32) := by
  intro c r h
  cases q with
  | zero => simp at h
  | succ q => rw [List.replicate_succ] at h; cases h; exact ⟨by decide, by decide⟩
theorem range_one (a : Int) : sliceRange a (a + 1) 1 = [a.toNat] := by
  unfold sliceRange
  rw [if_pos (by decide), if_pos (by lia), show (a + 1 - a + 1 - 1) / 1 = 1 by lia]
  show List.map _ [0] = _
  simp
theorem slice_last {l : List Nat} {c : Nat} : Txt.slice (S (l ++ [c])) (some (-1)) none = S [c] := by
  have e : Builtin.Str.strSliceIndices (some (-1)) none 1 (S (l ++ [c])).length = [l.length] := by
    rw [S_len]
    show sliceRange (max 0 (min (if (-1 : Int) < 0 then -1 + ((l ++ [c]).length : Int) else -1) ((l ++ [c]).length : Int))) ((l ++ [c]).length : Int) 1 = _
    rw [if_pos (by decide)]
    have h1 : max 0 (min (-1 + ((l ++ [c]).length : Int)) ((l ++ [c]).length : Int)) = (l.length : Int) := by simp; lia
    have h2 : ((l ++ [c]).length : Int) = (l.length : Int) + 1 := by simp
    rw [h1, h2, range_one]; rfl
  unfold Txt.slice
  rw [e]
  cases l with
  | nil => rfl
  | cons a r =>
    rw [if_neg (by simp [S_len])]
    simp [S]
/-- a number, blanks around it -/
theorem val_of {p q : Nat} {neg : Bool} {B : List Nat} {f : Nat} {e d a b : Int} (hP : Parses B f e) (hk : f = 0 ∨ (-99 ≤ e + nfig f - 1 ∧ e + nfig f - 1 ≤ 99 ∧ (nfig f : Int) ≤ d)) (h1 : d ≤ 8) (hl : B.length ≤ 16) (hb : bare (if neg then 0 - (f : Int) else f) e = (a, b)) (hp : p ≤ 4) (hq : q ≤ 4) :
    IsVal (S (List.replicate p 32 ++ (if neg then [45] else []) ++ (B ++ List.replicate q 32))) d a b := by
  obtain ⟨r1, r2, r3, r4, r5⟩ := reads_back (p := p) (neg := neg) hP hk h1 (halt_rep q) (exp_rep q)
  refine ⟨?_, by rw [S_list]; exact r5, ?_⟩
  · rw [S_list]
    unfold nbt
    rw [if_neg r1, r2, r3, r4, ← List.append_assoc, rsN_rep _ _ (last_pre hP.2.1 hP.2.2.1), if_pos rfl, hb]
  · rw [S_len]
    cases neg <;> simp <;> lia
/-- a number, something else behind it -/
theorem no_of {neg : Bool} {B r : List Nat} {c q f : Nat} {e d : Int} (hP : Parses B f e) (hk : f = 0 ∨ (-99 ≤ e + nfig f - 1 ∧ e + nfig f - 1 ≤ 99 ∧ (nfig f : Int) ≤ d)) (h1 : d ≤ 8) (hl : B.length ≤ 16) (hc : c ≠ 32) (hr : halt (r ++ [c] ++ List.replicate q 32)) (he : expAt (r ++ [c] ++ List.replicate q 32) 0 = (0, 0)) (hq : q ≤ 4) (hrl : r.length ≤ 4) :
    IsNo (S ((if neg then [45] else []) ++ (B ++ (r ++ [c] ++ List.replicate q 32)))) d := by
  obtain ⟨r1, r2, r3, r4, r5⟩ := reads_back (p := 0) (neg := neg) hP hk h1 hr he
  rw [List.replicate_zero, List.nil_append] at r1 r2 r3 r4 r5
  refine ⟨?_, by rw [S_list]; exact r5, ?_⟩
  · rw [S_list]
    unfold nbt
    rw [if_neg r1, if_neg]
    rw [r4, ← List.append_assoc, rsN_tail _ hc]; simp; lia
  · rw [S_len]
    cases neg <;> simp <;> lia
/-- nothing that is read -/
theorem no_none {l : List Nat} {d : Int} (h : N1 l + N2 l = 0) (hl : l.length ≤ 37) : IsNo (S l) d :=
  ⟨by rw [S_list]; unfold nbt; rw [if_pos h], by rw [S_list]; exact fun q => absurd h q, by rw [S_len]; exact hl⟩
section
variable {x : Num} {d : Int} {T : MStr}
theorem num_shape (ho : x.ok d) (h0 : 4 ≤ d) (h1 : d ≤ 8) (hT : T = S (numText x d ++ [32])) :
    ∃ (neg : Bool) (B : List Nat) (f : Nat) (e : Int), numText x d = (if neg then 45 else 32) :: B ∧ Parses B f e ∧ bare (if neg then 0 - (f : Int) else f) e = x.due ∧
    (f = 0 ∨ (-99 ≤ e + nfig f - 1 ∧ e + nfig f - 1 ≤ 99 ∧ (nfig f : Int) ≤ d)) ∧ B.length ≤ 16 ∧ T = S (List.replicate (if neg then 0 else 1) 32 ++ (if neg then [45] else []) ++ (B ++ List.replicate 1 32)) ∧ Txt.stripChars T (PySem.Str.ofString " ") = S ((if neg then [45] else []) ++ B) := by
  obtain ⟨neg, B, f, e, q1, q2, q3, q4, q5⟩ := shows x ho h0 h1
  have e1 : numText x d ++ [32] = List.replicate (if neg then 0 else 1) 32 ++ (if neg then [45] else []) ++ (B ++ List.replicate 1 32) := by rw [q1]; cases neg <;> simp
  refine ⟨neg, B, f, e, q1, q2, q3, q4, q5, by rw [hT, e1], ?_⟩
  rw [hT, e1, show List.replicate (if neg then 0 else 1) 32 ++ (if neg then [45] else []) ++ (B ++ List.replicate 1 32) = List.replicate (if neg then 0 else 1) 32 ++ ((if neg then [45] else []) ++ B) ++ List.replicate 1 32 by simp]
  refine strip_core ?_ (by cases neg <;> simp [q2.2.1]) ?_
  · intro c r h
    cases neg with
    | true => cases h; decide
    | false => exact (q2.1 c r h).1
  · have := last_pre (p := 0) (g := if neg then [45] else []) q2.2.1 q2.2.2.1
    simpa using this
theorem tA (ho : x.ok d) (h0 : 4 ≤ d) (h1 : d ≤ 8) (hT : T = S (numText x d ++ [32])) : IsVal T d x.due.1 x.due.2 := by
  obtain ⟨neg, B, f, e, q1, q2, q3, q4, q5, q6, q7⟩ := num_shape ho h0 h1 hT
  rw [q6]
  exact val_of q2 q4 h1 q5 q3 (by cases neg <;> simp) (by lia)
theorem tB {r : Int} (ho : x.ok d) (h0 : 4 ≤ d) (h1 : d ≤ 8) (hT : T = S (numText x d ++ [32])) (hr0 : 0 ≤ r) (hr : r < 4) :
    IsVal (Txt.mul (PySem.Str.ofString " ") r ++ Txt.stripChars T (PySem.Str.ofString " ") ++ Txt.mul (PySem.Str.ofString " ") r) d x.due.1 x.due.2 := by
  obtain ⟨neg, B, f, e, q1, q2, q3, q4, q5, q6, q7⟩ := num_shape ho h0 h1 hT
  rw [q7, l_b, mul_one_S, S_app, S_app, show List.replicate r.toNat 32 ++ ((if neg then [45] else []) ++ B) ++ List.replicate r.toNat 32 = List.replicate r.toNat 32 ++ (if neg then [45] else []) ++ (B ++ List.replicate r.toNat 32) by simp]
  exact val_of q2 q4 h1 q5 q3 (by lia) (by lia)
noncomputable def tails : List MStr := [PySem.Str.ofString "X", PySem.Str.ofString ",", PySem.Str.ofString " 1", PySem.Str.ofString "$", PySem.Str.ofString "E", PySem.Str.ofString "+", PySem.Str.ofString "- ", PySem.Str.ofString "%"]
theorem tails_are : tails = [S [88], S [44], S [32, 49], S [36], S [69], S [43], S [45, 32], S [37]] := by decide +kernel
theorem halt1 {c : Nat} {r : List Nat} (h : isD c = false ∧ c ≠ 46) : halt (c :: r) := fun c' r' e => by cases e; exact h
theorem tC {tl : MStr} (ho : x.ok d) (h0 : 4 ≤ d) (h1 : d ≤ 8) (hT : T = S (numText x d ++ [32])) (ht : tl ∈ tails) : IsNo (Txt.stripChars T (PySem.Str.ofString " ") ++ tl) d := by
  obtain ⟨neg, B, f, e, q1, q2, q3, q4, q5, q6, q7⟩ := num_shape ho h0 h1 hT
  rw [tails_are] at ht
  have go : ∀ (r : List Nat) (c q : Nat), c ≠ 32 → halt (r ++ [c] ++ List.replicate q 32) → expAt (r ++ [c] ++ List.replicate q 32) 0 = (0, 0) → q ≤ 4 → r.length ≤ 4 → IsNo (Txt.stripChars T (PySem.Str.ofString " ") ++ S (r ++ [c] ++ List.replicate q 32)) d := by
    intro r c q hc hr he hq hl
    rw [q7, S_app, List.append_assoc]
    exact no_of q2 q4 h1 q5 hc hr he hq hl
  simp only [List.mem_cons, List.not_mem_nil, or_false] at ht
  rcases ht with rfl | rfl | rfl | rfl | rfl | rfl | rfl | rfl
  · exact go [] 88 0 (by decide) (halt1 (by decide)) rfl (by decide) (by decide)
  · exact go [] 44 0 (by decide) (halt1 (by decide)) rfl (by decide) (by decide)
  · exact go [32] 49 0 (by decide) (halt1 (by decide)) rfl (by decide) (by decide)
  · exact go [] 36 0 (by decide) (halt1 (by decide)) rfl (by decide) (by decide)
  · exact go [] 69 0 (by decide) (halt1 (by decide)) rfl (by decide) (by decide)
  · exact go [] 43 0 (by decide) (halt1 (by decide)) rfl (by decide) (by decide)
  · exact go [] 45 1 (by decide) (halt1 (by decide)) rfl (by decide) (by decide)
  · exact go [] 37 0 (by decide) (halt1 (by decide)) rfl (by decide) (by decide)
theorem none_of (s : Nat) (r : List Nat) (hs : isD s = false) (c : Nat) (hc : c ∈ [88, 44, 32, 36, 69, 43, 45, 37]) : N1 (c :: 46 :: s :: r) + N2 (c :: 46 :: s :: r) = 0 := by
  simp only [List.mem_cons, List.not_mem_nil, or_false] at hc
  rcases hc with rfl | rfl | rfl | rfl | rfl | rfl | rfl | rfl <;>
    simp [N1, N2, A2, A1, A0, blanksN, runN, hs, show isD 46 = false from rfl, show isD 88 = false from rfl, show isD 44 = false from rfl, show isD 36 = false from rfl, show isD 69 = false from rfl, show isD 37 = false from rfl]
theorem tD {tl : MStr} (ho : x.ok d) (h0 : 4 ≤ d) (h1 : d ≤ 8) (hT : T = S (numText x d ++ [32])) (ht : tl ∈ tails) : IsNo (Txt.slice tl none (some 1) ++ PySem.Str.ofString "." ++ T) d := by
  obtain ⟨neg, B, f, e, q1, q2, q3, q4, q5, q6, q7⟩ := num_shape ho h0 h1 hT
  rw [tails_are] at ht
  rw [hT, q1, l_d]
  have go : ∀ (c : Nat) (r : List Nat), c ∈ [88, 44, 32, 36, 69, 43, 45, 37] → IsNo (Txt.slice (S (c :: r)) none (some 1) ++ S [46] ++ S ((if neg then 45 else 32) :: B ++ [32])) d := by
    intro c r hc
    rw [slice_to (by lia) (by simp; lia), S_app, S_app]
    refine no_none ?_ ?_
    · exact none_of (if neg then 45 else 32) (B ++ [32]) (by cases neg <;> rfl) c hc
    · simp; lia
  simp only [List.mem_cons, List.not_mem_nil, or_false] at ht
  rcases ht with rfl | rfl | rfl | rfl | rfl | rfl | rfl | rfl <;> exact go _ _ (by decide)
theorem last_blank (hT : T = S (numText x d ++ [32])) : Txt.slice T (some (-1)) none = PySem.Str.ofString " " := by
  rw [hT, slice_last, l_b]
end
theorem lit_no {s : String} {l : List Nat} {d : Int} (hs : PySem.Str.ofString s = S l) (h : N1 l + N2 l = 0) (hl : l.length ≤ 37) : IsNo (PySem.Str.ofString s) d := by rw [hs]; exact no_none h hl
theorem lit_12X {d : Int} (h0 : 4 ≤ d) : IsNo (PySem.Str.ofString "12X") d := by
  rw [show PySem.Str.ofString "12X" = S [49, 50, 88] by decide +kernel]
  refine ⟨by decide +kernel, fun _ => ⟨by decide +kernel, by decide +kernel, .inr ⟨by decide +kernel, by decide +kernel, ?_⟩, by decide +kernel, by decide +kernel⟩, by decide⟩
  have : (nfig (cR (S [49, 50, 88]).cps.toList).natAbs : Int) ≤ 4 := by decide +kernel
  lia
theorem lit_12 {d : Int} (h0 : 4 ≤ d) : IsNo (PySem.Str.ofString "1 2") d := by
  rw [show PySem.Str.ofString "1 2" = S [49, 32, 50] by decide +kernel]
  refine ⟨by decide +kernel, fun _ => ⟨by decide +kernel, by decide +kernel, .inr ⟨by decide +kernel, by decide +kernel, ?_⟩, by decide +kernel, by decide +kernel⟩, by decide⟩
  have : (nfig (cR (S [49, 32, 50]).cps.toList).natAbs : Int) ≤ 4 := by decide +kernel
  lia
theorem lit_0 {d : Int} : IsNo (PySem.Str.ofString "") d := lit_no (l := []) (by decide +kernel) (by decide +kernel) (by decide)
theorem lit_1 {d : Int} : IsNo (PySem.Str.ofString " ") d := lit_no (l := [32]) (by decide +kernel) (by decide +kernel) (by decide)
theorem lit_2 {d : Int} : IsNo (PySem.Str.ofString ".") d := lit_no (l := [46]) (by decide +kernel) (by decide +kernel) (by decide)
theorem lit_3 {d : Int} : IsNo (PySem.Str.ofString "-") d := lit_no (l := [45]) (by decide +kernel) (by decide +kernel) (by decide)
theorem lit_4 {d : Int} : IsNo (PySem.Str.ofString "+.") d := lit_no (l := [43, 46]) (by decide +kernel) (by decide +kernel) (by decide)
theorem lit_5 {d : Int} : IsNo (PySem.Str.ofString "E5") d := lit_no (l := [69, 53]) (by decide +kernel) (by decide +kernel) (by decide)
/-! P24 -/
theorem num_bd {x : Num} {d a b : Int} (hx : x = .d a b) (ho : x.ok d) (h0 : 4 ≤ d) (h1 : d ≤ 8) : -10000000000 < a ∧ a < 10000000000 ∧ -200 ≤ b ∧ b ≤ 200 := by
  subst hx
  obtain ⟨n, e, hn1, hn2, he, hab⟩ := ho
  have hf := nfig_lt_d h0 h1 hn1 hn2
  have hte := tens_bd he
  obtain ⟨e1, e2⟩ := pow_d h0 h1
  have hp8 : (10 : Nat) ^ d.toNat ≤ 10 ^ 8 := Nat.pow_le_pow_right (by lia) (by lia)
  rw [e1] at hn1 hn2
  have e8 : (10 : Nat) ^ 8 = 100000000 := by decide
  by_cases hz : n = 0
  · subst hz
    have q : (a, b) = ((0 : Int), (0 : Int)) := by rw [hab]; rfl
    cases q; lia
  · obtain ⟨t, q1, q2, q3⟩ := bare_spec hz hab
    have hnn : n.natAbs = a.natAbs * 10 ^ t := by rw [q1, Int.natAbs_mul, pow_nat]
    have ha0 : 0 < a.natAbs := by lia
    have hng : nfig n.natAbs = nfig a.natAbs + t := by rw [hnn, nfig_mul ha0]
    have hle : a.natAbs ≤ n.natAbs := by rw [hnn]; exact Nat.le_mul_of_pos_right _ (Nat.pow_pos (by lia))
    lia
theorem c_shown_num (w : World) (x : Num) (B : MAddr) (V : MVal) (t1 t2 : MTok) (d : Int) (t3 : MTok) (news : MLed) (ho : x.ok d) (hv : x.val B V) (hm : (B, Tup2 (.int x.due.1 t1) (.int x.due.2 t2)) ∈ news) (h0 : 4 ≤ d) (h1 : d ≤ 8) :
    Con w 129 5 [V, .int d t3] news (OutS news (S (numText x d ++ [32]))) := by
  cases x with
  | i n =>
    obtain ⟨t, rfl⟩ := hv
    obtain ⟨e1, e2⟩ := pow_d h0 h1
    have hp8 : (10 : Nat) ^ d.toNat ≤ 10 ^ 8 := Nat.pow_le_pow_right (by lia) (by lia)
    have e8 : (10 : Nat) ^ 8 = 100000000 := by decide
    obtain ⟨a, b⟩ := ho
    rw [e1] at a b
    exact c_shown_int w n t d t3 news (by lia) (by lia)
  | d a b =>
    cases hv
    obtain ⟨b1, b2, b3, b4⟩ := num_bd rfl ho h0 h1
    exact c_shown_tup w B a t1 b t2 d t3 news hm b1 b2 b3 b4 (by lia) (by lia)
theorem ok_mono {x : Num} {d : Int} (h : x.ok 4) (h0 : 4 ≤ d) : x.ok d := by
  have hp : (10 : Int) ^ (4 : Int).toNat ≤ 10 ^ d.toNat := by
    have : (10 : Nat) ^ (4 : Int).toNat ≤ 10 ^ d.toNat := Nat.pow_le_pow_right (by lia) (by lia)
    exact_mod_cast this
  cases x with
  | i n => exact ⟨by have := h.1; lia, by have := h.2; lia⟩
  | d a b =>
    obtain ⟨n, e, hn1, hn2, he, hab⟩ := h
    exact ⟨n, e, by lia, by lia, he, hab⟩
theorem ne_str_eq {prog : Program} {w : World} {A : Around} {E : MVal → Shared → Prop} {Q : MVal → Shared → Prop} {s : Shared} {x y : MStr} {t u : MTok} (h : x = y) (hq : Q (.bool false) s) : wpAny (model prog w) A (compareOp .NotEq (.str x t) (.str y u)) Q E s := by
  refine ne_str ?_
  have e : (x != y) = false := by rw [h]; simp
  rw [e]; exact hq
def CutNum (w : World) (h₀ : Heap) (L D l c : MAddr) (lo oc : MObj) (d k : Int) (own : MLed) (s : Shared) (f : Flow) (s₂ : Shared) : Prop :=
  f = .next ∧ ∃ (B : MAddr) (V : MVal) (t1 t2 tk : MTok) (o' : MObj) (x : Num) (k' : Int) (h : Heap) (tkk : Nat) (m : MStr → Option MVal) (news' : MLed), s₂ = { s with heap := h, toks := tkk } ∧ Fr h₀ L h m ∧ News h₀ L h news' ∧
    (∀ p ∈ (D, o') :: (l, lo) :: (B, Tup2 (.int x.due.1 t1) (.int x.due.2 t2)) :: (c, oc) :: own, p ∈ news') ∧ m (PySem.Str.ofString "value") = some V ∧ m (PySem.Str.ofString "due") = some (.ref B) ∧ m (PySem.Str.ofString "tray") = some (.ref D) ∧
    TrayOf w o' l k' tk ∧ k ≤ k' ∧ k' ≤ k + 5 ∧ x.ok d ∧ x.val B V ∧ D < B
theorem cutNum_end {w : World} {h₀ : Heap} {L D l c B : MAddr} {lo oc o' : MObj} {d k k' : Int} {own news' : MLed} {s : Shared} {V : MVal} {t1 t2 tk : MTok} {x : Num} {h : Heap} {tkk : Nat} {m : MStr → Option MVal}
    (F : Fr h₀ L h m) (N : News h₀ L h news') (hT : TrayOf w o' l k' tk) (hs : ∀ p ∈ (D, o') :: (l, lo) :: (B, Tup2 (.int x.due.1 t1) (.int x.due.2 t2)) :: (c, oc) :: own, p ∈ news') (h1 : m (PySem.Str.ofString "value") = some V) (h2 : m (PySem.Str.ofString "due") = some (.ref B)) (h3 : m (PySem.Str.ofString "tray") = some (.ref D))
    (hk : k ≤ k' ∧ k' ≤ k + 5) (ho : x.ok d) (hv : x.val B V) (hD : D < B) : CutNum w h₀ L D l c lo oc d k own s .next { s with heap := h, toks := tkk } :=
  ⟨rfl, B, V, t1, t2, tk, o', x, k', h, tkk, m, news', rfl, F, N, hs, h1, h2, h3, hT, hk.1, hk.2, ho, hv, hD⟩
theorem cut_num {M : Model} {A : Around} {T : Sem Flow} {E : MVal → Shared → Prop} {Q : Flow → Shared → Prop} {w : World} {h₀ : Heap} {L D l c : MAddr} {lo oc o : MObj} {d k : Int} {tk td : MTok} {own : MLed} {s : Shared} {m₀ : MStr → Option MVal}
    (_F : Fr h₀ L s.heap m₀) (_N : News h₀ L s.heap ((D, o) :: (l, lo) :: (c, oc) :: own)) (_hT : TrayOf w o l k tk) (_hoc : oc.data = .cell (some (.int d td)))
    (hi : CutMk 7 → wpAny M A T (fun f s₂ => CutNum w h₀ L D l c lo oc d k own s f s₂) E s)
    (ho : ∀ (B : MAddr) (V : MVal) (t1 t2 tk : MTok) (o' : MObj) (x : Num) (k' : Int) (u : MStr → Option MVal) (h : Heap) (tkk : Nat), TrayOf w o' l k' tk → k ≤ k' → k' ≤ k + 5 → x.ok d → x.val B V → B ≠ D →
      Fr h₀ L h (fun y => if y = PySem.Str.ofString "value" then some V else if y = PySem.Str.ofString "due" then some (.ref B) else if y = PySem.Str.ofString "tray" then some (.ref D) else u y) →
      News h₀ L h ((D, o') :: (l, lo) :: (B, Tup2 (.int x.due.1 t1) (.int x.due.2 t2)) :: (c, oc) :: own) → Q .next { s with heap := h, toks := tkk }) : wpAny M A T Q E s := by
  refine wpAny_mono (hi ⟨⟩) (fun f s₂ q => ?_) fun _ _ h => h
  obtain ⟨rfl, B, V, t1, t2, tk, o', x, k', h, tkk, m, news', rfl, F, N, hs, h1, h2, h3, hT, hk1, hk2, hok, hv, hD⟩ := q
  refine ho B V t1 t2 tk o' x k' m h tkk hT hk1 hk2 hok hv (Nat.ne_of_gt hD) ?_ fun p hp => N p (hs p hp)
  have e : (fun y => if y = PySem.Str.ofString "value" then some V else if y = PySem.Str.ofString "due" then some (.ref B) else if y = PySem.Str.ofString "tray" then some (.ref D) else m y) = m := by
    funext y
    by_cases q1 : y = PySem.Str.ofString "value"
    · rw [if_pos q1, q1, h1]
    · rw [if_neg q1]
      by_cases q2 : y = PySem.Str.ofString "due"
      · rw [if_pos q2, q2, h2]
      · rw [if_neg q2]
        by_cases q3 : y = PySem.Str.ofString "tray"
        · rw [if_pos q3, q3, h3]
        · rw [if_neg q3]
  rw [e]
  exact F
theorem str_item {prog : Program} {w : World} {A : Around} {E : MVal → Shared → Prop} {Q : MVal → Shared → Prop} {s : Shared} {h₀ : Heap} {L l : MAddr} {news : MLed} {vs : List MVal} {n : Nat} (xs : List MStr) {value slice : PySem.Expr} {r : Int} {u : MTok}
    (N : News h₀ L s.heap news) (hm : (l, ({ cls := .type "list", data := .seq vs.toArray n } : MObj)) ∈ news) (h0 : 0 ≤ r) (h1 : r < vs.length) (hlen : vs.length ≤ 100) (hv : ∀ v ∈ vs, ∃ x t, v = .str x t ∧ x ∈ xs) (h : ∀ x t, x ∈ xs → Q (.str x t) s)
    (hs : subscripted slice false (.ref l) (.int r u) = operate [.ref l, .int r u] (getItem (.ref l) (.int r u)) := by with_unfolding_all rfl) : wpAny (model prog w) A (subscriptTail value slice (.ref l) (.int r u)) Q E s := by
  have hL : s.heap.IsList l vs.toArray := ⟨_, (N _ hm).1, rfl, n, rfl⟩
  have hr : r.toNat < vs.length := by lia
  obtain ⟨x, t, e, hx⟩ := hv _ (List.getElem_mem hr)
  refine tail_any hL.typeIs slot_list_getitem.lookup (wpAny_getItem_list hL h0 (by lia) (x := .str x t) ?_ (h x t hx)) hs
  simp [List.getElem?_eq_getElem hr, e]
theorem tails_len {x : MStr} (h : x ∈ tails) : x.length ≤ 2 := by
  rw [tails_are] at h
  simp only [List.mem_cons, List.not_mem_nil, or_false] at h
  rcases h with rfl | rfl | rfl | rfl | rfl | rfl | rfl | rfl <;> decide
noncomputable def words : List MStr := [PySem.Str.ofString "", PySem.Str.ofString " ", PySem.Str.ofString "12", PySem.Str.ofString " A ", PySem.Str.ofString "-5"]
/-! P25 -/
section
variable {prog : Program} {w : World} {A : Around} {E : MVal → Shared → Prop} {Q : Flow → Shared → Prop} {s : Shared} {env : Env} {h₀ : Heap} {x : MStr} {body : List Stmt}
abbrev OddEnd (h₀ : Heap) (L D : MAddr) (led : MLed) (s : Shared) (f : Flow) (s₂ : Shared) : Prop := CutTo h₀ L led s (fun _ : Unit => [(PySem.Str.ofString "tray", .ref D)]) (fun _ => True) f s₂
theorem law_odd {D l c ax : MAddr} {o lo oc : MObj} {k d : Int} {tk td : MTok} {m₀ : MStr → Option MVal} {led own : MLed} {its : Array MVal} {n : Nat}
    (hh : A.handled = none) (F : Fr h₀ env.locals s.heap m₀) (N : News h₀ env.locals s.heap ((ax, TupO its n) :: led)) (_hT : TrayOf w o l k tk) (_hoc : oc.data = .cell (some (.int d td)))
    (hlt : AllLt ax led) (hs : ∀ p ∈ (D, o) :: (l, lo) :: (c, oc) :: own, p ∈ led) (ht : m₀ (PySem.Str.ofString "tray") = some (.ref D)) (hits : ∀ v ∈ its.toList, ∃ z t, v = .str z t ∧ IsNo z d)
    (turn : ∀ (z : MStr) (t : MTok) (u : MStr → Option MVal) (h : Heap) (tkk : Nat) (rest : MLed), IsNo z d →
      Fr h₀ env.locals h (fun y => if y = x then some (.str z t) else if y = PySem.Str.ofString "tray" then some (.ref D) else u y) → News h₀ env.locals h ((D, o) :: (l, lo) :: (c, oc) :: rest) →
      wpAny (model prog w) A (execs body env) (fun f s₂ => OddEnd h₀ env.locals D ((D, o) :: (l, lo) :: (c, oc) :: rest) { s with heap := h, toks := tkk } f s₂) E { s with heap := h, toks := tkk })
    (done : ∀ (u : MStr → Option MVal) (h : Heap) (tkk : Nat), Fr h₀ env.locals h (fun y => if y = PySem.Str.ofString "tray" then some (.ref D) else u y) → News h₀ env.locals h ((D, o) :: (l, lo) :: (c, oc) :: own) → Q .next { s with heap := h, toks := tkk }) :
    wpAny (model prog w) A (pyIter (.ref ax)) (fun it s₂ => LoopAtV prog w A h₀ env x body Q E it s₂) E s := by
  have hax := (N _ (.head _)).1
  have hl : s.heap.IsTuple ax its := ⟨_, hax, rfl, n, rfl⟩
  have hltx : ax < s.heap.objs.size := Heap.lt_size hax
  refine wpAny_pyIter_tuple hl ?_
  have N' : News h₀ env.locals s.heap ((D, o) :: (l, lo) :: (c, oc) :: own) := fun p hp => N p (.tail _ (hs p hp))
  have up : ∀ b o, s.heap.get? b = some o → (s.heap.push { cls := .type "tuple_iterator", data := .fields #[.ref ax, .int 0 0] }).get? b = some o := fun b o e => Heap.get?_push_of_some _ e
  refine loop_invN (fun _ m nx => nx = (D, o) :: (l, lo) :: (c, oc) :: own ∧ m (PySem.Str.ofString "tray") = some (.ref D)) (Walks.tuple hh s.heap.objs.size ax (Nat.ne_of_lt hltx) its) ?_ ?_ ?_ ?_ ⟨⟨_, Heap.get?_push_size _ rfl, rfl, rfl⟩, ⟨_, up _ _ hax, rfl, n, rfl⟩⟩ (F.push _) (fun p hp => ⟨Heap.get?_push_of_some _ (N' p hp).1, (N' p hp).2⟩) ⟨rfl, ht⟩ ?_ ?_
  · intro hm
    rcases List.mem_cons.mp hm with e | hm
    · exact absurd F.ns.lt (e ▸ Nat.lt_irrefl _)
    · exact (N _ (.head _)).2.1 (List.mem_singleton.mp hm).symm
  · intro b hb
    rw [List.mem_singleton.mp hb]
    exact next_is_new F
  · intro p hp hI
    exact absurd (Heap.lt_size (N' p hp).1) ((List.mem_singleton.mp hI) ▸ Nat.lt_irrefl _)
  · intro p hp hI
    rcases List.mem_cons.mp hI with e | hI
    · exact absurd (Heap.lt_size (N' p hp).1) (e ▸ Nat.lt_irrefl _)
    · exact absurd (ktn_ltOf hlt p (hs p hp)) ((List.mem_singleton.mp hI) ▸ Nat.lt_irrefl _)
  · rintro i v m₁ nx h tkk own2 hi hv _ hoff ⟨rfl, h1⟩ F₁ N₁
    have hv' : v ∈ its.toList := by
      have : its.toList[i]? = some v := by simpa using hv
      exact List.mem_of_getElem? this
    obtain ⟨z, t, rfl, hz⟩ := hits v hv'
    have e3 : (fun y => if y = x then some (PySem.Value.str z t) else if y = PySem.Str.ofString "tray" then some (.ref D) else m₁ y) = fun y => if y = x then some (PySem.Value.str z t) else m₁ y := by
      funext y
      by_cases q1 : y = x
      · rw [if_pos q1, if_pos q1]
      · rw [if_neg q1, if_neg q1]
        by_cases q3 : y = PySem.Str.ofString "tray"
        · rw [if_pos q3, q3, h1]
        · rw [if_neg q3]
    refine wpAny_mono (turn z t m₁ h tkk (own ++ own2) hz (by rw [e3]; exact F₁) N₁) (fun f s₂ q => ?_) fun _ _ e => e
    obtain ⟨rfl, _, h', tk', m', news', rfl, F', N'', hsub, hps, _⟩ := q
    refine InvEndN.intro F' N'' ⟨rfl, hps _ (.head _)⟩ rfl (fun p hp => hsub p ?_) (fun p hp => hsub p ?_)
    · simp only [List.mem_cons, List.mem_append] at hp ⊢
      rcases hp with h | h | h | h <;> simp [h]
    · simp only [List.mem_cons, List.mem_append]; simp [hp]
  · rintro m₁ nx h tkk ⟨rfl, h1⟩ F₁ N₁
    refine done m₁ h tkk ?_ N₁
    have e2 : (fun y => if y = PySem.Str.ofString "tray" then some (PySem.Value.ref D) else m₁ y) = m₁ := by
      funext y
      by_cases q3 : y = PySem.Str.ofString "tray"
      · rw [if_pos q3, q3, h1]
      · rw [if_neg q3]
    rw [e2]
    exact F₁
end
/-! P18 -/
theorem oi_two {v a b : MVal} (h : v ∈ (#[a, b] : Array MVal).toList) : v = a ∨ v = b := by simpa using h
set_option maxHeartbeats 16000000 in
theorem tst : PySem.Challenge.rw_pq0137_01.Holds := Mine.hd (by
  k_with "con pick" => (((cell_ask (c_pick _ _ _ _ _ _ _ _ _ _ _ _ (by assumption) ?_ ?_ ?_ ?_ (by assumption) ?_)); (next => ((simp only [List.forall_mem_cons]); (repeat' (refine And.intro ?_ ?_)) <;> (first | exact List.forall_mem_nil _ | assumption | k_ne))); (next => lia); (next => lia); (next => first | lia | exact Int.pow_pos (by lia)); (next => first | lia | (simp only [List.length_map, List.length_take]; lia)); (intro v9 n9 h9 tk9 F9 N9 ho9); (obtain ⟨o9, r9, t9, u9, hv9, hn9, htr9, hr9, hr8⟩ := ho9); subst hn9; subst hv9; (try dsimp only); (try k_fold)))
  k_with "con val" => (((intro v9 n9 h9 tk9 F9 N9 ho9); (obtain ⟨D9, hv9, hRd9, N9'⟩ := td_reads (by k_asm) F9 N9 ho9); clear ho9 N9; subst hv9; (try dsimp only); (try k_fold)))
  k_with "con none" => (((intro v9 n9 h9 tk9 F9 N9 ho9); (obtain ⟨hv9, hn9⟩ := ho9); (replace hn9 := hn9.symm); subst hn9; subst hv9; (try dsimp only); (try k_fold)))
  k_with "call ref" => ((k_here; (with_reducible show wpAny _ _ (PySem.call (PySem.Value.ref 143) _ _) _ _ _); k_dflt (rename News _ _ _ _ => nR; replace nR := news_rot nR; walk_at "con pick")))
  k_with "call ref" => ((k_here; (with_reducible show wpAny _ _ (PySem.call (PySem.Value.ref 143) _ _) _ _ _); k_dflt (walk_at "con pick")))
  k_with "call ref" => ((k_here; (with_reducible show wpAny _ _ (PySem.call (PySem.Value.ref 143) _ _) _ _ _); k_dflt (rename News _ _ _ _ => nR; replace nR := news_r3 nR; walk_at "con pick")))
  k_with "call ref" => ((k_here; (with_reducible show wpAny _ _ (PySem.call (PySem.Value.ref 136) _ _) _ _ _); k_dflt ((cell_ask (con_no _ _ _ _ _ _ ?_)); (next => first | assumption); walk_at "con none")))
  k_with "call ref" => ((k_here; (with_reducible show wpAny _ _ (PySem.call (PySem.Value.ref 136) [PySem.Value.str _ _, _] _) _ _ _); (fail_if_success (rename LCg.NsObj _ _ => q)); k_dflt ((cell_ask (con_val _ _ _ _ _ _ (tA (by assumption) (by lia) (by lia) (by assumption)))); walk_at "con val")))
  k_with "call ref" => ((k_here; (with_reducible show wpAny _ _ (PySem.call (PySem.Value.ref 136) [PySem.Value.str (Txt.stripChars _ _ ++ _) _, _] _) _ _ _); k_dflt ((cell_ask (con_no _ _ _ _ _ _ (tC (by assumption) (by lia) (by lia) (by assumption) ?_))); (next => walk_at "con tail"); walk_at "con none")))
  k_with "call ref" => ((k_here; (with_reducible show wpAny _ _ (PySem.call (PySem.Value.ref 136) [PySem.Value.str (Txt.mul _ _ ++ _ ++ Txt.mul _ _) _, _] _) _ _ _); k_dflt ((cell_ask (con_val _ _ _ _ _ _ (tB (by assumption) (by lia) (by lia) (by assumption) (by assumption) (by assumption)))); walk_at "con val")))
  k_with "call ref" => ((k_here; (with_reducible show wpAny _ _ (PySem.call (PySem.Value.ref 136) [PySem.Value.str (Txt.slice _ _ _ ++ _ ++ _) _, _] _) _ _ _); k_dflt ((cell_ask (con_no _ _ _ _ _ _ (tD (by assumption) (by lia) (by lia) (by assumption) ?_))); (next => walk_at "con tail"); walk_at "con none")))
  k_with "call ref" => ((k_here; (with_reducible show wpAny _ _ (PySem.call (PySem.Value.ref 136) [PySem.Value.str (PySem.Str.ofString _) _, _] _) _ _ _); k_dflt ((cell_ask (con_no _ _ _ _ _ _ ?_)); (next => first | exact lit_12X (by lia) | exact lit_0); walk_at "con none")))
  k_with "call ref" => ((k_here; (with_reducible show wpAny _ _ (PySem.call (PySem.Value.ref 129) _ _) _ _ _); k_dflt ((cell_ask (c_shown_str _ _ _ _ _ _)); (intro v9 n9 h9 tk9 F9 N9 ho9); (obtain ⟨T9, t9, hT9, hl9, hn9, hv9⟩ := outS_get ho9); clear ho9; subst hn9; subst hv9; (try dsimp only); (try k_fold))))
  k_with "call ref" => ((k_here; (with_reducible show wpAny _ _ (PySem.call (PySem.Value.ref 129) _ _) _ _ _); k_dflt ((cell_ask (c_shown_num _ _ _ _ _ _ _ _ _ (by assumption) (by assumption) ?_ (by lia) (by lia))); (any_goals k_mem); (intro v9 n9 h9 tk9 F9 N9 ho9); (obtain ⟨T9, t9, hT9, hl9, hn9, hv9⟩ := outS_get ho9); clear ho9; subst hn9; subst hv9; (have hl8 := (tA (by assumption) (by lia) (by lia) hT9).2.2); (try dsimp only); (try k_fold))))
  k_with "call ref" => ((k_here; (with_reducible show wpAny _ _ (PySem.call (PySem.Value.ref 157) _ _) _ _ _); k_dflt ((cell_ask (c_number _ _ _ _ _ _ _ _ _ _ _ _ (by assumption) ?_ ?_ ?_ ?_ ?_ (by assumption) ?_)); (next => ((simp only [List.forall_mem_cons]); (repeat' (refine And.intro ?_ ?_)) <;> (first | exact List.forall_mem_nil _ | assumption | k_ne))); (next => lia); (next => lia); (next => lia); (next => lia); (next => first | lia | (simp only [List.length_map, List.length_take]; lia)); (intro v9 n9 h9 tk9 F9 N9 ho9); (obtain ⟨R9, B9, V9, t91, t92, tk92, o92, x92, j92, hv9, hn9, htr92, hj1, hj2, hok92, hval92, hDB92⟩ := ho9); subst hn9; subst hv9; (try dsimp only); (try k_fold))))
  k_with "con tail" => (assumption)
  k_with "exec For Name Tuple cons nil" => ((k_here; k_dflt ((rename Fr _ _ _ _ => lF'); (with_unfolding_all refine' For_invVF lF' ?_ ?_ ?_); (next => exact rfl); (next => exact rfl); k_whole)))
  k_with "sub all" => (((repeat' (first | exact List.forall_mem_nil _ | refine' List.forall_mem_cons.mpr ⟨?_, ?_⟩)) <;> first | ((repeat (first | exact List.mem_cons_self | refine' List.mem_cons_of_mem _ ?_)); done) | (intro p9 hp9; repeat (first | exact hp9 | refine' List.mem_cons_of_mem _ ?_))))
  k_go0
  all_goals (try k_fold)
  k_with "exec For Name Call cons nil" =>
    k_dflt (
      rename Fr _ _ _ _ => lF'
      with_unfolding_all refine' For_invVF lF' ?fk1 ?fk2 ?_
      (case fk1 => exact rfl)
      (case fk2 => exact rfl)
      k_whole)
  k_with "pyIter ref" =>
    k_dflt (
      rename IsRange _ _ _ _ _ _ _ _ => rgX
      rename Fr _ _ _ _ => lF'
      rename News _ _ _ _ => lN'
      refine' law_for (by rfl) rgX lF' lN' (by assumption) (by assumption) ?fm ?f1 ?f2 ?f3 ?f4 (by rfl) ?ft ?fd
      (case fm => kcj_all)
      (case f1 => k_ne)
      (case f2 => k_ne)
      (case f3 => with_unfolding_all rfl)
      (case f4 => lia)
      (case' ft => (intro i t u o' k' tk' h tkk own hi hown hlD hcD hTr hk0 hk1 F0 N0; (try k_fold)))
      (case' fd => (intro u h tkk F0 N0; (try dsimp only); (try k_fold))))
  k_with "exec Assign" =>
    k_dflt (
      fail_if_success (rename CutMk 7 => q)
      (with_reducible show wpAny _ _ (exec (PySem.Stmt.Assign [PySem.Expr.Tuple _ _ _] _ _) _) _ _ _)
      rename Fr _ _ _ _ => cF
      rename News _ _ _ _ => cN
      refine' cut_num cF cN (by assumption) (by assumption) ?ni ?no
      (case' ni => (intro mk7; (try k_fold)))
      (case' no => (intro B1 V1 t1 t2 tk1 o1 x1 k1 u1 h1 tkk1 hT1 hk1 hk2 hok1 hval1 hDB1 F1 N1; (try dsimp only); (try k_fold))))
  k_with "compareOp NotEq str str" => k_dflt (refine ne_str_eq (by first | exact last_blank (by assumption) | assumption | rfl) ?_)
  k_with "compareOp NotEq ref ref" => k_dflt (refine ne_same (by assumption) (by k_asm) (by k_mem) (by ke_room) ?_)
  k_with "pyIter ref" =>
    k_dflt (
      rename Fr _ _ _ _ => lF'
      rename News _ _ _ _ => lN'
      have q9 := own
      clear q9
      (with_reducible show wpAny _ _ (PySem.pyIter (PySem.Value.ref _)) (fun _ _ => LoopAtV _ _ _ _ _ _ _ _ _ _ _) _ _)
      refine' law_odd (own := own) ?oh ?oF ?oN ?oT ?oc ?oa ?os ?ot ?oi ?ou ?od
      (case oh => rfl)
      (case oF => exact lF')
      (case oN => exact lN')
      (case oT => assumption)
      (case oc => assumption)
      (case oa => (simp only [AllLt, and_true]; with_reducible assumption))
      (case os => (refine' List.forall_mem_cons.mpr ⟨?w1, List.forall_mem_cons.mpr ⟨?w2, List.forall_mem_cons.mpr ⟨?w3, ?w4⟩⟩⟩; (case w1 => with_reducible (repeat (first | exact List.mem_cons_self | refine' List.mem_cons_of_mem _ ?_))); (case w2 => with_reducible (repeat (first | exact List.mem_cons_self | refine' List.mem_cons_of_mem _ ?_))); (case w3 => with_reducible (repeat (first | exact List.mem_cons_self | refine' List.mem_cons_of_mem _ ?_))); (case w4 => (intro p9 hp9; repeat (first | with_reducible exact hp9 | refine List.mem_cons_of_mem _ ?_)))))
      (case ot => with_unfolding_all rfl)
      (case oi => (intro v hv; (replace hv := oi_two hv); (refine' Or.elim hv (fun hw => ?oq1) (fun hw => ?oq2)); (case oq1 => (subst hw; refine ⟨_, _, rfl, ?_⟩; exact tC (by with_reducible assumption) (by lia) (by lia) (by with_reducible assumption) (by with_reducible assumption))); (case oq2 => (subst hw; refine ⟨_, _, rfl, ?_⟩; exact tD (by with_reducible assumption) (by lia) (by lia) (by with_reducible assumption) (by with_reducible assumption)))))
      (case' ou => (intro z5 t5 u5 h5 tkk5 rest5 hz5 F5 N5; (try k_fold)))
      (case' od => (intro u6 h6 tkk6 F6 N6; (try dsimp only); (try k_fold))))
  k_with "subscriptTail" =>
    k_dflt (
      (with_reducible show wpAny _ _ (subscriptTail (PySem.Expr.List _ _) _ (PySem.Value.ref _) (PySem.Value.int _ _)) _ _ _)
      refine' str_item tails ?iN ?im (by assumption) ?i1 ?il ?iv ?ih
      (case iN => k_asm)
      (case im => k_mem)
      (case i1 => ((simp only [List.length_cons, List.length_nil]); lia))
      (case il => exact Nat.le_of_ble_eq_true rfl)
      (case iv => (intro v hv; simp only [List.mem_cons, List.not_mem_nil, or_false] at hv; rcases hv with rfl | rfl | rfl | rfl | rfl | rfl | rfl | rfl <;> exact ⟨_, _, rfl, by unfold tails; k_mem⟩))
      (case' ih => (intro T3 t3 hT3; (have hl3 := tails_len hT3); (try dsimp only); (try k_fold))))
  k_with "subscriptTail" =>
    k_dflt (
      (with_reducible show wpAny _ _ (subscriptTail (PySem.Expr.List _ _) _ (PySem.Value.ref _) (PySem.Value.int _ _)) _ _ _)
      refine' str_item words ?jN ?jm (by assumption) ?j1 ?jl ?jv ?jh
      (case jN => k_asm)
      (case jm => k_mem)
      (case j1 => ((simp only [List.length_cons, List.length_nil]); lia))
      (case jl => exact Nat.le_of_ble_eq_true rfl)
      (case jv => (intro v hv; simp only [List.mem_cons, List.not_mem_nil, or_false] at hv; rcases hv with rfl | rfl | rfl | rfl | rfl <;> exact ⟨_, _, rfl, by unfold words; k_mem⟩))
      (case' jh => (intro T4 t4 hT4; (try dsimp only); (try k_fold))))
  k_with "eval ListComp" =>
    k_dflt (
      fail_if_success (rename Fr _ _ _ _ => q1; rename CutMk 5 => q2)
      (with_reducible show wpAny _ _ (eval (PySem.Expr.ListComp _ [⟨_, PySem.Expr.Tuple _ _ _, _, _⟩] _ _) _) _ _ _)
      rename Fr _ _ _ _ => lF'
      refine lc_tup lF' (by with_unfolding_all rfl) (by decide) (by rfl) (by decide) (by rfl) ?_)
  k_with "SrcT" =>
    k_dflt (
      rename Fr _ _ _ _ => lF'
      rename News _ _ _ _ => lN'
      refine' srcT_none (by rfl) lF' lN' (by k_mem) (by assumption) (by k_mem) ?hits ?hsz ?step ?fin
      (case hits => (intro v hv; simp only [List.mem_cons, List.not_mem_nil, or_false] at hv; rcases hv with rfl | rfl | rfl | rfl | rfl | rfl <;> first | exact ⟨_, _, rfl, lit_1⟩ | exact ⟨_, _, rfl, lit_2⟩ | exact ⟨_, _, rfl, lit_3⟩ | exact ⟨_, _, rfl, lit_4⟩ | exact ⟨_, _, rfl, lit_5⟩ | exact ⟨_, _, rfl, lit_12 (by lia)⟩))
      (case hsz => exact Nat.le_of_ble_eq_true rfl)
      (case' step => (intro z9 t9 I9 C9 D9 oI9 oC9 oD9 m9 h9 tk9 E9 hz9 hC9 hx9 F9 N9; (try k_fold)))
      (case' fin => (intro D9 h9 tk9 F9 N9; (try dsimp only); (try k_fold))))
  k_with "StepNo" => exact stepNo_intro (by k_asm) (by assumption) (by kcj_all)
  k_steps
  all_goals first
    | (refine' law_turn_end ?eF ?eN ?eT ?eS ?e1 ?e3 ?e4; (case eF => k_asm); (case eN => assumption); (case eT => with_reducible assumption); (case eS => walk_at "sub all"); (case e1 => with_unfolding_all rfl); (case e3 => lia); (case e4 => lia))
    | (refine' cut_end () ?cF ?cN ?cS ?c1 True.intro; (case cF => k_asm); (case cN => assumption); (case cS => walk_at "sub all"); (case c1 => kst_all))
    | (refine' cutNum_end ?nF ?nN ?nT ?nS ?n1 ?n2 ?n3 ?nk ?nO ?nv ?nD; (case nF => k_asm); (case nN => assumption); (case nT => with_reducible assumption); (case nS => walk_at "sub all"); (case n1 => with_unfolding_all rfl); (case n2 => with_unfolding_all rfl); (case n3 => with_unfolding_all rfl); (case nk => lia); (case nO => first | with_reducible assumption | exact ok_mono (by with_reducible assumption) (by lia)); (case nv => with_reducible assumption); (case nD => with_reducible assumption))
    | skip
  skip)
end Mine
theorem PySem.Challenge.cw_pq0137_01_holds : PySem.Challenge.rw_pq0137_01.Holds := by
  exact Mine.tst
