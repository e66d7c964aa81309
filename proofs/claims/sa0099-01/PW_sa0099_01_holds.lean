import PyProof.Rows.All
import Wide.All
import OpenK.AllK
import Wide.FinOn
import Lean
import PySem.Challenge.RW_sa0099_01
set_option Elab.async false
section
open PySem PySem.W PyProof.Rows
set_option maxRecDepth 100000
set_option maxHeartbeats 8000000
namespace Mine
set_option synthInstance.maxSize 1 in
open_top hd for PySem.Challenge.rw_sa0099_01
end Mine
end
section
namespace Mine
/-- without its trailing zeros -/
noncomputable def ztrimP (ns : List Int) : List Int := (ns.reverse.dropWhile (· == 0)).reverse
noncomputable def zaddP (a b : List Int) : List Int := ztrimP ((List.range (max a.length b.length)).map fun i => a.getD i 0 + b.getD i 0)
noncomputable def znegP (a : List Int) : List Int := a.map (- ·)
noncomputable def zsubP (a b : List Int) : List Int := zaddP a (znegP b)
noncomputable def zscaleP (a : List Int) (k : Int) : List Int := if k ≠ 0 then a.map (· * k) else []
noncomputable def zraiseP (a : List Int) (n : Nat) : List Int := if 0 < a.length then List.replicate n 0 ++ a else []
noncomputable def zleadP (a : List Int) : Int := a.getLastD 0
noncomputable def gcdAllP (a : List Int) : Int := a.foldl (fun g x => (Int.gcd g x : Int)) 0
noncomputable def dividedP (a : List Int) (k : Int) : List Int := a.map fun x => Int.fdiv x k
theorem ztrimP_len (a : List Int) : (ztrimP a).length ≤ a.length := by
  unfold ztrimP
  rw [List.length_reverse]
  exact Nat.le_trans (List.IsSuffix.length_le (List.dropWhile_suffix _)) (Nat.le_of_eq List.length_reverse)
theorem zaddP_len (a b : List Int) : (zaddP a b).length ≤ max a.length b.length := by
  unfold zaddP
  exact Nat.le_trans (ztrimP_len _) (by simp)
theorem znegP_len (a : List Int) : (znegP a).length ≤ a.length := by unfold znegP; simp
theorem zsubP_len (a b : List Int) : (zsubP a b).length ≤ max a.length b.length := by
  unfold zsubP
  have := zaddP_len a (znegP b)
  have := znegP_len b
  omega
theorem zscaleP_len (a : List Int) (k : Int) : (zscaleP a k).length ≤ a.length := by unfold zscaleP; split <;> simp
theorem zraiseP_len (a : List Int) (n : Nat) : (zraiseP a n).length ≤ n + a.length := by unfold zraiseP; split <;> simp
theorem dividedP_len (a : List Int) (k : Int) : (dividedP a k).length ≤ a.length := by unfold dividedP; simp
/-- one more zero at the end goes -/
theorem ztrimP_snoc_zero (a : List Int) : ztrimP (a ++ [0]) = ztrimP a := by
  unfold ztrimP
  simp [List.dropWhile]
theorem ztrimP_snoc (a : List Int) {x : Int} (h : x ≠ 0) : ztrimP (a ++ [x]) = a ++ [x] := by
  unfold ztrimP
  simp [List.dropWhile, h]
theorem ztrimP_nil : ztrimP [] = [] := rfl
theorem take_succ_getD (ns : List Int) {n : Nat} (h : n < ns.length) : ns.take (n + 1) = ns.take n ++ [ns.getD n 0] := by
  rw [List.take_add_one, List.getElem?_eq_getElem h]
  simp [List.getD, List.getElem?_eq_getElem h]
theorem ztrim_start (ns : List Int) : 0 ≤ (ns.length : Int) ∧ (ns.length : Int) ≤ (ns.length : Int) ∧ ztrimP (ns.take (ns.length : Int).toNat) = ztrimP ns := by
  refine ⟨by omega, Int.le_refl _, ?_⟩
  rw [Int.toNat_natCast, List.take_length]
theorem ztrim_step {ns : List Int} {size : Int} (h1 : 0 ≤ size) (h2 : size ≤ ns.length) (h3 : ztrimP (ns.take size.toNat) = ztrimP ns) (h0 : 0 < size) (hz : ns.getD (size - 1).toNat 0 = 0) :
    0 ≤ size - 1 ∧ size - 1 ≤ ns.length ∧ ztrimP (ns.take (size - 1).toNat) = ztrimP ns := by
  refine ⟨by omega, by omega, ?_⟩
  rw [← h3]
  have e : size.toNat = (size - 1).toNat + 1 := by omega
  rw [e, take_succ_getD _ (by omega), hz, ztrimP_snoc_zero]
theorem ztrim_end {ns : List Int} {size : Int} (h1 : 0 ≤ size) (h2 : size ≤ ns.length) (h3 : ztrimP (ns.take size.toNat) = ztrimP ns) (h0 : 0 < size) (hz : ns.getD (size - 1).toNat 0 ≠ 0) : ns.take size.toNat = ztrimP ns := by
  rw [← h3]
  have e : size.toNat = (size - 1).toNat + 1 := by omega
  rw [e, take_succ_getD _ (by omega), ztrimP_snoc _ hz]
theorem ztrim_end0 {ns : List Int} {size : Int} (h1 : 0 ≤ size) (h2 : size ≤ ns.length) (h3 : ztrimP (ns.take size.toNat) = ztrimP ns) (h0 : ¬ 0 < size) : ns.take size.toNat = ztrimP ns := by
  have e : size.toNat = 0 := by omega
  rw [← h3, e]; rfl
theorem gcd_start (x y : Int) : 0 ≤ (if x < 0 then -x else x) ∧ 0 ≤ (if y < 0 then -y else y) ∧ Int.gcd (if x < 0 then -x else x) (if y < 0 then -y else y) = Int.gcd x y := by
  refine ⟨by split <;> omega, by split <;> omega, ?_⟩
  split <;> split <;> simp
theorem gcd_step {a b : Int} {g : Nat} (ha : 0 ≤ a) (hb : 0 ≤ b) (h : Int.gcd a b = g) (h0 : b ≠ 0) : 0 ≤ b ∧ 0 ≤ Int.fmod a b ∧ Int.gcd b (Int.fmod a b) = g := by
  have e : Int.fmod a b = a % b := Int.fmod_eq_emod_of_nonneg a hb
  rw [e]
  refine ⟨hb, Int.emod_nonneg a h0, ?_⟩
  rw [← h]
  obtain ⟨n, rfl⟩ := Int.eq_ofNat_of_zero_le ha
  obtain ⟨k, rfl⟩ := Int.eq_ofNat_of_zero_le hb
  rw [← Int.natCast_emod, Int.gcd_natCast_natCast, Int.gcd_natCast_natCast, Nat.gcd_comm k, ← Nat.gcd_rec, Nat.gcd_comm]
theorem gcd_less {a b : Int} (hb : 0 ≤ b) (h0 : b ≠ 0) : (Int.fmod a b).toNat < b.toNat := by
  have e : Int.fmod a b = a % b := Int.fmod_eq_emod_of_nonneg a hb
  rw [e]
  have h1 := Int.emod_lt_of_pos a (show 0 < b by omega)
  have h2 := Int.emod_nonneg a h0
  omega
theorem gcd_end {a b : Int} {g : Nat} (ha : 0 ≤ a) (h : Int.gcd a b = g) (h0 : b = 0) : a = g := by
  subst h0
  rw [Int.gcd_zero_right] at h
  omega
theorem zlead_some {ns : List Int} (h : 0 < (ns.length : Int)) : ns.getD (-1 + (ns.length : Int)).toNat 0 = zleadP ns := by
  unfold zleadP
  have e : (-1 + (ns.length : Int)).toNat = ns.length - 1 := by omega
  rw [e, List.getLastD_eq_getLast?, List.getLast?_eq_getElem?]
  simp [List.getD]
theorem zlead_none {ns : List Int} (h : ¬ 0 < (ns.length : Int)) : 0 = zleadP ns := by
  have e : ns = [] := List.length_eq_zero_iff.mp (by omega)
  subst e; rfl
theorem zraise_some {ns : List Int} {k : Int} (h : 0 < (ns.length : Int)) : (List.replicate k.toNat [(0 : Int)]).flatten ++ ns = zraiseP ns k.toNat := by
  unfold zraiseP
  rw [if_pos (by omega)]
  congr 1
  simp
theorem zraise_none {ns : List Int} {k : Int} (h : ¬ 0 < (ns.length : Int)) : [] = zraiseP ns k.toNat := by
  unfold zraiseP
  rw [if_neg (by omega)]
/-- found[i + j] += x * b[j], for each j -/
noncomputable def zmulRow (found : List Int) (i : Nat) (x : Int) (b : List Int) : List Int := b.zipIdx.foldl (fun fd r => fd.set (i + r.2) (fd.getD (i + r.2) 0 + x * r.1)) found
noncomputable def zmulPre (z : List Int) (a b : List Int) : List Int := a.zipIdx.foldl (fun fd l => if l.1 ≠ 0 then zmulRow fd l.2 l.1 b else fd) z
noncomputable def zmulP (a b : List Int) : List Int := if a.length = 0 ∨ b.length = 0 then [] else zmulPre (List.replicate (a.length + b.length - 1) 0) a b
theorem zmulRow_snoc (found : List Int) (i : Nat) (x : Int) (b : List Int) (r : Int) : zmulRow found i x (b ++ [r]) = (zmulRow found i x b).set (i + b.length) ((zmulRow found i x b).getD (i + b.length) 0 + x * r) := by
  unfold zmulRow
  rw [List.zipIdx_append, List.foldl_append]
  simp
theorem zmulRow_len (found : List Int) (i : Nat) (x : Int) (b : List Int) : (zmulRow found i x b).length = found.length := by
  unfold zmulRow
  generalize b.zipIdx = l
  induction l generalizing found with
  | nil => rfl
  | cons r l ih => rw [List.foldl_cons, ih, List.length_set]
theorem zmulPre_snoc (z a b : List Int) (x : Int) : zmulPre z (a ++ [x]) b = if x ≠ 0 then zmulRow (zmulPre z a b) a.length x b else zmulPre z a b := by
  unfold zmulPre
  rw [List.zipIdx_append, List.foldl_append]
  simp
theorem zmulPre_len (z a b : List Int) : (zmulPre z a b).length = z.length := by
  unfold zmulPre
  generalize a.zipIdx = l
  induction l generalizing z with
  | nil => rfl
  | cons r l ih =>
    rw [List.foldl_cons, ih]
    split
    · exact zmulRow_len _ _ _ _
    · rfl
theorem zmulP_len (a b : List Int) : (zmulP a b).length ≤ a.length + b.length - 1 := by
  unfold zmulP
  split
  · simp
  · rw [zmulPre_len]; simp
theorem split_len {ns pre post : List Int} {a : Int} (h : ns = pre ++ a :: post) : pre.length < ns.length := by
  rw [h]; simp
theorem zmul_turn {zs : List Int} {i N : Nat} {x y : Int} {pre : List Int} (hl : (zmulRow zs i x pre).length = N) :
    ((zmulRow zs i x pre).set ((i : Int) + (pre.length : Int)).toNat ((zmulRow zs i x pre).getD ((i : Int) + (pre.length : Int)).toNat 0 + x * y) = zmulRow zs i x (pre ++ [y])) ∧
      ((zmulRow zs i x pre).set ((i : Int) + (pre.length : Int)).toNat ((zmulRow zs i x pre).getD ((i : Int) + (pre.length : Int)).toNat 0 + x * y)).length = N := by
  have e : ((i : Int) + (pre.length : Int)).toNat = i + pre.length := by omega
  rw [e, zmulRow_snoc]
  exact ⟨rfl, by rw [List.length_set, hl]⟩
theorem zmul_skip {z pre b zs : List Int} {x : Int} {N : Nat} (hz : zs = zmulPre z pre b) (hl : zs.length = N) (hx : x = 0) : zs = zmulPre z (pre ++ [x]) b ∧ zs.length = N := by
  rw [zmulPre_snoc, if_neg (fun h => h hx)]
  exact ⟨hz, hl⟩
theorem zmul_keep {z pre b zs ys : List Int} {x : Int} {N : Nat} (hz : zs = zmulPre z pre b) (hy : ys = zmulRow zs pre.length x b) (hl : ys.length = N) (hx : x ≠ 0) : ys = zmulPre z (pre ++ [x]) b ∧ ys.length = N := by
  rw [zmulPre_snoc, if_pos hx, ← hz]
  exact ⟨hy, hl⟩
theorem zmul_end {a b zs : List Int} (h1 : (a.length : Int) ≠ 0) (h2 : (b.length : Int) ≠ 0) (h : zs = zmulPre (List.replicate (a.length + b.length - 1) 0) a b) : zs = zmulP a b := by
  unfold zmulP
  rw [if_neg (by omega), h]
theorem zmul_nil {a b : List Int} (h : (a.length : Int) = 0 ∨ (b.length : Int) = 0) : [] = zmulP a b := by
  unfold zmulP
  rw [if_pos (by omega)]
noncomputable def zcomposePre (b pre : List Int) : List Int := pre.foldl (fun acc n => zaddP (zmulP acc b) (ztrimP [n])) []
noncomputable def zcomposeP (a b : List Int) : List Int := zcomposePre b a.reverse
theorem zcomposePre_snoc (b pre : List Int) (x : Int) : zcomposePre b (pre ++ [x]) = zaddP (zmulP (zcomposePre b pre) b) (ztrimP [x]) := by
  unfold zcomposePre
  rw [List.foldl_append]; rfl
theorem zcompose_bound (b pre zs : List Int) (x : Int) (h : zs.length ≤ 1 + pre.length * b.length) : (zaddP (zmulP zs b) (ztrimP [x])).length ≤ 1 + (pre ++ [x]).length * b.length := by
  have h1 := zaddP_len (zmulP zs b) (ztrimP [x])
  have h2 := zmulP_len zs b
  have h3 := ztrimP_len [x]
  simp only [List.length_append, List.length_cons, List.length_nil, Nat.zero_add] at h3 ⊢
  rw [Nat.add_mul]
  omega
theorem snocInd {α : Type} {P : List α → Prop} (h0 : P []) (hs : ∀ l x, P l → P (l ++ [x])) (l : List α) : P l := by
  rw [← List.reverse_reverse l]
  induction l.reverse with
  | nil => exact h0
  | cons x r ih => rw [List.reverse_cons]; exact hs _ _ ih
theorem zcomposePre_len (b pre : List Int) : (zcomposePre b pre).length ≤ 1 + pre.length * b.length := by
  induction pre using snocInd with
  | h0 => simp [zcomposePre]
  | hs pre x ih => rw [zcomposePre_snoc]; exact zcompose_bound _ _ _ _ ih
theorem zcomposeP_len (a b : List Int) : (zcomposeP a b).length ≤ 1 + a.length * b.length := by
  unfold zcomposeP
  have := zcomposePre_len b a.reverse
  rwa [List.length_reverse] at this
theorem mul_small {m n : Nat} (h1 : m < 2 ^ 9) (h2 : n < 2 ^ 9) : m * n < 2 ^ 18 := by
  have := Nat.mul_le_mul (Nat.le_of_lt h1) (Nat.le_of_lt h2)
  have h3 : m * n ≤ 511 * 511 := Nat.mul_le_mul (by omega) (by omega)
  omega
theorem split_len_rev {ns pre post : List Int} {a : Int} (h : ns.reverse = pre ++ a :: post) : pre.length < ns.length := by
  have e := congrArg List.length h
  simp at e
  omega
end Mine
end
section
open PySem PySem.W PyProof.Rows PySem.Spec PySem.Calls
set_option maxRecDepth 100000
set_option maxHeartbeats 8000000
namespace Mine
/-- a call of the def at f with vs: what holds at the place (P), what comes back (R: the heap before, the value, the heap behind) -/
noncomputable def Tell (prog : Program) (w : World) (K : Frag) (p : Program) (loose : List Str) (mean : ExcName → Option Value) (mg mb : Str → Option Value) (f : Addr) (vs : List Value) (dep : Nat)
    (P : Heap → Prop) (R : Heap → Value → Heap → Prop) : Prop :=
  ∀ (dp un : Nat) (gd : Option (List Code)) (cn : Str) (cs : Scope) (a : Addr) (ccd : Value) (cl : List (Str × Addr)) (outer : List Env) (A₀ : Around) (base h₀ : Heap) (L : Addr) (m : Str → Option Value) (s : Shared)
    (Q E : Value → Shared → Prop),
    Below A₀ base outer h₀ → Fr h₀ L s.heap m → K.In h₀ → Top p loose mean mg mb h₀ → cs.kind = .function → dp + dep < recursionLimit → un + 8 * dep < cLine → P s.heap →
    (∀ r h' tk', (∀ b o, s.heap.get? b = some o → h'.get? b = some o) → R s.heap r h' → Q r { s with heap := h', toks := tk' }) →
    wpAny (model prog w) (ktrTop dp un gd cn cs L a ccd cl outer) (call (.ref f) vs) Q E s
abbrev RetI (x : Int) (_ : Heap) (r : Value) (_ : Heap) : Prop := ∃ t, r = .int x t
abbrev RetL (ns : List Int) (h : Heap) (r : Value) (h' : Heap) : Prop := ∃ l vs, r = .ref l ∧ h.get? l = none ∧ h'.PlainList l (List.toArray vs) ∧ IntsAre vs ns
abbrev RetN (_ : Heap) (r : Value) (_ : Heap) : Prop := r = .none
section
variable {g h h' : Heap} {L : Addr} {m : Str → Option Value} {news : List (Addr × Obj)} {s : Shared} {Q : Value → Shared → Prop} {tk : Nat}
theorem end_keep (F : Fr g L h' m) (G : GSub h g []) : ∀ b o, h.get? b = some o → h'.get? b = some o := fun b o e => F.keep b o (G b o e (fun x => nomatch x))
theorem endI {x : Int} {t : Tok} (F : Fr g L h' m) (G : GSub s.heap g []) (hret : ∀ r h' tk', (∀ b o, s.heap.get? b = some o → h'.get? b = some o) → RetI x s.heap r h' → Q r { s with heap := h', toks := tk' }) {y : Int} (e : y = x) :
    Q (.int y t) { s with heap := h', toks := tk } := hret _ _ _ (end_keep F G) ⟨t, by rw [e]⟩
theorem endL {ns : List Int} {l : Addr} {vs : List Value} {n : Nat} (F : Fr g L h' m) (N : News g L h' news) (G : GSub s.heap g []) (hret : ∀ r h' tk', (∀ b o, s.heap.get? b = some o → h'.get? b = some o) → RetL ns s.heap r h' → Q r { s with heap := h', toks := tk' })
    (hm : (l, listOf vs.toArray n) ∈ news) {ns' : List Int} (hi : IntsAre vs ns') (e : ns' = ns) : Q (.ref l) { s with heap := h', toks := tk } := by
  subst e
  refine hret _ _ _ (end_keep F G) ⟨l, vs, rfl, ?_, ⟨n, (N _ hm).1⟩, hi⟩
  cases q : s.heap.get? l with
  | none => rfl
  | some o => have := G _ _ q (fun x => nomatch x); rw [(N _ hm).2.2] at this; cases this
theorem lift_list {l : Addr} {its : Array Value} (G : GSub h g []) (x : h.IsList l its) : g.IsList l its := stays_list (fun b o e => G b o e (fun x => nomatch x)) x
end
theorem leaveI {h₀ g : Heap} {L L' : Addr} {m m' : Str → Option Value} {news' : List (Addr × Obj)} {h' : Heap} {s : Shared} {Q E : Value → Shared → Prop} {tk : Nat} {x y : Int} {t : Tok}
    (hret : ∀ r h' tk', (∀ b o, s.heap.get? b = some o → h'.get? b = some o) → RetI x s.heap r h' → Q r { s with heap := h', toks := tk' }) (F : Fr g L' h' m') (N : News g L' h' news') (G : GSub s.heap g []) (e : y = x) :
    LeaveK h₀ L m g (fun r s' => match r with | .ok (.ret v) => Q v s' | .ok _ => False | .error e => E e s') (.int y t) { s with heap := h', toks := tk } :=
  leaveK_ F N fun _ _ => endI F G hret e
theorem leaveN {h₀ g : Heap} {L L' : Addr} {m m' : Str → Option Value} {news' : List (Addr × Obj)} {h' : Heap} {s : Shared} {Q E : Value → Shared → Prop} {tk : Nat}
    (hret : ∀ r h' tk', (∀ b o, s.heap.get? b = some o → h'.get? b = some o) → RetN s.heap r h' → Q r { s with heap := h', toks := tk' }) (F : Fr g L' h' m') (N : News g L' h' news') (G : GSub s.heap g []) :
    LeaveK h₀ L m g (fun r s' => match r with | .ok (.ret v) => Q v s' | .ok _ => False | .error e => E e s') .none { s with heap := h', toks := tk } :=
  leaveK_ F N fun _ _ => hret _ _ _ (end_keep F G) rfl
theorem leaveL {h₀ g : Heap} {L L' : Addr} {m m' : Str → Option Value} {news' : List (Addr × Obj)} {h' : Heap} {s : Shared} {Q E : Value → Shared → Prop} {tk : Nat} {ns ns' : List Int} {l : Addr} {vs : List Value} {n : Nat}
    (hret : ∀ r h' tk', (∀ b o, s.heap.get? b = some o → h'.get? b = some o) → RetL ns s.heap r h' → Q r { s with heap := h', toks := tk' }) (F : Fr g L' h' m') (N : News g L' h' news') (G : GSub s.heap g []) (hm : (l, listOf vs.toArray n) ∈ news') (hi : IntsAre vs ns') (e : ns' = ns) :
    LeaveK h₀ L m g (fun r s' => match r with | .ok (.ret v) => Q v s' | .ok _ => False | .error e => E e s') (.ref l) { s with heap := h', toks := tk } :=
  leaveK_ F N fun _ _ => endL F N G hret hm hi e
theorem room0 {dp a : Nat} (h : dp + a < recursionLimit) : dp < recursionLimit := Nat.lt_of_le_of_lt (Nat.le_add_right _ _) h
theorem roomK {dp a b : Nat} (h : dp + a < recursionLimit) (hb : 1 + b ≤ a) : dp + 1 + b < recursionLimit := by omega
theorem roomG {a b : Nat} (h : a = 302) (hb : 302 + b < recursionLimit) : a + b < recursionLimit := h ▸ hb
theorem unitsK {un a b : Nat} (h : un + 8 * a < cLine) (hb : 3 + 8 * b ≤ 8 * a) : un + 3 + 8 * b < cLine := by omega
theorem unitsK64 {un a : Nat} (h : un + 8 * a < cLine) (hb : 67 ≤ 8 * a) : un + 3 + 64 < cLine := by omega
theorem unitsG {a b : Nat} (h : a = 7) (hb : 7 + 8 * b < cLine) : a + 8 * b < cLine := h ▸ hb
theorem unitsG64 {a : Nat} (h : a = 7) : a + 64 < cLine := by subst h; decide
/-- where the walk is to halt -/
noncomputable def Stop (p : Prop) : Prop := p
theorem Stop.mk {p : Prop} (h : Stop p) : p := h
/-- an int below 2 ^ 62 -/
structure Sm (x : Int) : Prop where
  lt : x.natAbs < 2 ^ 62
theorem Sm.bits {x : Int} (h : Sm x) : Builtin.Int.intBits x ≤ 64 := intBits_le (Nat.lt_trans h.lt (by decide))
theorem Sm.mulL {x y : Int} (h : Sm x) : IntMulOk x y := IntMulOk.of_left h.bits
theorem Sm.mulR {x y : Int} (h : Sm y) : IntMulOk x y := IntMulOk.of_right h.bits
theorem Sm.py {x y : Int} (h : Sm y) : Builtin.divisionGoesByPylong x y = false := by
  refine PyProof.noPylong_of_log2 ?_
  by_cases h0 : y.natAbs = 0
  · rw [h0]; decide
  · exact Nat.lt_trans ((Nat.log2_lt h0).mpr h.lt) (by decide)
noncomputable def SmL (ns : List Int) : Prop := ∀ x ∈ ns, Sm x
theorem SmL.at {ns : List Int} (h : SmL ns) {x : Int} (hx : x ∈ ns) : Sm x := h x hx
theorem Sm.of {x : Int} (h1 : -4611686018427387904 < x) (h2 : x < 4611686018427387904) : Sm x := ⟨by omega⟩
structure PowSm (x : Int) (N : Nat) : Prop where
  ok : ∀ k : Nat, k ≤ N → Sm (x ^ k)
structure Nz (x : Int) : Prop where
  ne : x ≠ 0
structure PowNz (x : Int) : Prop where
  ok : ∀ k : Nat, x ^ k ≠ 0
/-- every item's product with k is of a size that the model reckons -/
structure MulAll (ns : List Int) (k : Int) : Prop where
  ok : ∀ x ∈ ns, IntMulOk x k
theorem MulAll.ofR {ns : List Int} {k : Int} (h : Sm k) : MulAll ns k := ⟨fun _ _ => h.mulR⟩
theorem MulAll.ofL {ns : List Int} {k : Int} (h : SmL ns) : MulAll ns k := ⟨fun _ hx => (h _ hx).mulL⟩
/-- entering a def whose locals a block inside it catches: nothing of the caller's is hidden, so that the lists handed in lie in the ground g -/
theorem enterC {prog : Program} {w : World} {A₀ A : Around} {s : Shared} {base h₀ : Heap} {outer : List Env} {L : Addr} {m : Str → Option Value} {env : Env} {K : Frag} {p : Program} {loose : List Str} {mean : ExcName → Option Value} {mg mb : Str → Option Value}
    {R : Result → Shared → Prop} {name qual : Str} {params : Arguments} {body : List Stmt} {scope : Scope} {dV kV doc pm cdv ct oc : Value} {an od : Option Addr} {osl : Array (Option Value)} {f : Addr} {args : Args} {binds : List (Str × Value)}
    (B : Below A₀ base outer h₀) (F : Fr h₀ L s.heap m) (X₀ : K.In h₀) (T : Top p loose mean mg mb h₀) (hA : A.frames = some (env :: outer)) (hf : env.frame = some L) (hke : env.scope.kind = .function)
    (ho : K.lookup f = some ⟨oc, od, .func (fnOf name qual params body scope dV kV doc pm an cdv ct), osl⟩) (hcd : codeIn K cdv qual = true) (hroom : A.depth < recursionLimit)
    (hbind : BindsTo s (fnOf name qual params body scope dV kV doc pm an cdv ct) args binds) (hkind : (binds.all fun y => scope.names.lookup y.1 == some .local || scope.names.lookup y.1 == some .cell) = true)
    (hnd : ((cellsFrom 0 scope.names []).map (·.1)).Nodup)
    (h : ∀ g L' h₁ tk cells, Fr h₀ L g m → Fr g L' h₁ (bindL (envOfC qual scope L' f cdv).kindOf binds fun _ => none) → News g L' h₁ cells →
      CellsAre (bindC (envOfC qual scope L' f cdv).kindOf binds fun _ => none) (cellsFrom (L' + 1) scope.names []) cells → Below A base (env :: outer) g → K.In g → Top p loose mean mg mb g → GSub s.heap g [] →
      wpAny (model prog w) (A.deeper (envOfC qual scope L' f cdv)) (execs body (envOfC qual scope L' f cdv))
        (fun fl s' => LeaveK h₀ L m g R (match fl with | .ret v => v | _ => .none) s')
        (fun e s' => wpAny (model prog w) (A.deeper (envOfC qual scope L' f cdv)) (leaving (envOfC qual scope L' f cdv) e) (fun _ s'' => R (.error e) s'') (fun e' s'' => R (.error e') s'') s')
        { s with heap := h₁, toks := tk })
    (hco : scope.isCoroutine = false) (hgen : scope.isGenerator = false) (hk : scope.kind = .function) : codeAny (model prog w) A (.call (.ref f) args) R s := by
  have N0 : News h₀ L s.heap [] := fun _ x => nomatch x
  have grd := groundX (R := R) B F N0 hA hf hke
  have XS := X₀.keeps F.keep
  refine codeAny_call_function hroom (XS _ _ ho) rfl hco hgen rfl (codeRec_of XS hcd) (hbind _ _ _ _ (wpAny_newFunctionEnv_cells hk (kindsX hkind _) fun env' he s' x => ?_))
  subst he
  have kp := x.toInCall.keep
  refine ⟨(T.nolimit.keeps F.keep).keeps kp, codeAny_func ?_⟩
  obtain ⟨h₁, tk, rfl, _⟩ := x.done
  have nd : ((cellsFrom (s.heap.objs.size + 1) scope.names []).map (·.1)).Nodup := cellsFrom_names scope.names 0 (s.heap.objs.size + 1) [] [] rfl ▸ hnd
  obtain ⟨cells, NC, Y⟩ := Cl.news (h₀ := s.heap) (Nat.le_refl _) fun n c hm => ⟨x.cell n c (lookup_of_mem_nodup nd hm), x.above n c hm⟩
  exact wpAny_mono (h s.heap _ h₁ tk cells grd.1 ⟨x.toInCall.ns, kp, Nat.le_refl _⟩ NC Y grd.2.1 (X₀.keeps grd.2.2.1) (T.keeps grd.2.2.1) fun _ _ e _ => e) (fun fl s' hl => grd.2.2.2 _ _ hl) fun _ _ y => y
/-- a list that a comprehension made -/
theorem leaveC {h₀ g : Heap} {L L' : Addr} {m m' : Str → Option Value} {news' : List (Addr × Obj)} {h' : Heap} {s : Shared} {Q E : Value → Shared → Prop} {tk : Nat} {ns : List Int} {l : Addr} {ys : List Value} {ds : List PyData}
    (hret : ∀ r h' tk', (∀ b o, s.heap.get? b = some o → h'.get? b = some o) → RetL ns s.heap r h' → Q r { s with heap := h', toks := tk' }) (F : Fr g L' h' m') (N : News g L' h' news') (G : GSub s.heap g []) (hn : g.get? l = none) (hp : NewPlain h' news' l ys.toArray)
    (hc : CarriedAll ys ds) (e : ds = ns.map PyData.int) :
    LeaveK h₀ L m g (fun r s' => match r with | .ok (.ret v) => Q v s' | .ok _ => False | .error e => E e s') (.ref l) { s with heap := h', toks := tk } := by
  subst e
  refine leaveK_ F N fun _ _ => hret _ _ _ (end_keep F G) ⟨l, ys, rfl, ?_, hp.1, IntsAre.ofCarried hc⟩
  cases q : s.heap.get? l with
  | none => rfl
  | some o => have := G _ _ q (fun x => nomatch x); rw [hn] at this; cases this
section
variable {prog : Program} {w : World} {K : Frag} {p : Program} {loose : List Str} {mean : ExcName → Option Value} {mg mb : Str → Option Value} {f : Addr} {vs : List Value} {dep : Nat} {P : Heap → Prop}
  {dp un : Nat} {gd : Option (List Code)} {cn : Str} {cs : Scope} {a : Addr} {ccd : Value} {cl : List (Str × Addr)} {outer : List Env} {A₀ : Around} {base h₀ : Heap} {L : Addr} {m : Str → Option Value} {s : Shared} {news : List (Addr × Obj)} {Q E : Value → Shared → Prop}
theorem use_I {x : Int} (C : Tell prog w K p loose mean mg mb f vs dep P (RetI x)) (B : Below A₀ base outer h₀) (F : Fr h₀ L s.heap m) (X : K.In h₀) (N : News h₀ L s.heap news) (T : Top p loose mean mg mb h₀) (hk : cs.kind = .function)
    (hd : dp + dep < recursionLimit) (hu : un + 8 * dep < cLine) (hP : P s.heap) (ret : ∀ t h' tk', Fr h₀ L h' m → News h₀ L h' news → Q (.int x t) { s with heap := h', toks := tk' }) :
    wpAny (model prog w) (ktrTop dp un gd cn cs L a ccd cl outer) (call (.ref f) vs) Q E s := by
  refine C _ _ _ _ _ _ _ _ _ _ _ _ _ _ _ _ _ B F X T hk hd hu hP fun r h' tk' kp hr => ?_
  obtain ⟨t, rfl⟩ := hr
  exact ret t h' tk' (F.keeps kp) (N.grown kp)
theorem use_N (C : Tell prog w K p loose mean mg mb f vs dep P RetN) (B : Below A₀ base outer h₀) (F : Fr h₀ L s.heap m) (X : K.In h₀) (N : News h₀ L s.heap news) (T : Top p loose mean mg mb h₀) (hk : cs.kind = .function)
    (hd : dp + dep < recursionLimit) (hu : un + 8 * dep < cLine) (hP : P s.heap) (ret : ∀ h' tk', Fr h₀ L h' m → News h₀ L h' news → Q .none { s with heap := h', toks := tk' }) :
    wpAny (model prog w) (ktrTop dp un gd cn cs L a ccd cl outer) (call (.ref f) vs) Q E s := by
  refine C _ _ _ _ _ _ _ _ _ _ _ _ _ _ _ _ _ B F X T hk hd hu hP fun r h' tk' kp hr => ?_
  subst hr
  exact ret h' tk' (F.keeps kp) (N.grown kp)
theorem use_L {ns : List Int} {bd : Nat} (C : Tell prog w K p loose mean mg mb f vs dep P (RetL ns)) (B : Below A₀ base outer h₀) (F : Fr h₀ L s.heap m) (X : K.In h₀) (N : News h₀ L s.heap news) (T : Top p loose mean mg mb h₀) (hk : cs.kind = .function)
    (hd : dp + dep < recursionLimit) (hu : un + 8 * dep < cLine) (hP : P s.heap) (hb : ns.length ≤ bd)
    (ret : ∀ l ys n h' tk', Fr h₀ L h' m → News h₀ L h' ((l, listOf (List.toArray ys) n) :: news) → (∀ p ∈ news, p.1 ≠ l) → IntsAre ys ns → ns.length ≤ bd → Q (.ref l) { s with heap := h', toks := tk' }) :
    wpAny (model prog w) (ktrTop dp un gd cn cs L a ccd cl outer) (call (.ref f) vs) Q E s := by
  refine C _ _ _ _ _ _ _ _ _ _ _ _ _ _ _ _ _ B F X T hk hd hu hP fun r h' tk' kp hr => ?_
  obtain ⟨l, ys, rfl, hn, ⟨n, hl⟩, hi⟩ := hr
  refine ret l ys n h' tk' (F.keeps kp) (fun q hq => ?_) (fun q hq e => ?_) hi hb
  · rcases List.mem_cons.mp hq with rfl | hq
    · refine ⟨hl, ?_, ?_⟩
      · rintro rfl
        obtain ⟨o, _, _, ho, _⟩ := F.ns
        rw [hn] at ho; cases ho
      · cases e : h₀.get? l with
        | none => rfl
        | some o => rw [F.keep _ _ e] at hn; cases hn
    · exact (N.grown kp) q hq
  · rw [← e, (N q hq).1] at hn; cases hn
end
theorem isl {h₀ h : Heap} {L l : Addr} {news : List (Addr × Obj)} {vs : List Value} {n : Nat} (N : News h₀ L h news) (hm : (l, listOf vs.toArray n) ∈ news) : h.IsList l vs.toArray := N.isList hm
theorem filter_tt' {α : Type} (l : List α) : List.filter (fun _ => true) l = l := List.filter_eq_self.mpr (fun _ _ => rfl)
end Mine
end
open PySem PySem.W PyProof.Rows PySem.Spec PySem.Calls
set_option maxRecDepth 100000
set_option maxHeartbeats 8000000
namespace Mine
local macro_rules | `(tactic| walk_at $s:str) => `(tactic| k_extra $s)
local macro_rules | `(tactic| walk1) => `(tactic| k_extra "my w1")
local macro_rules | `(tactic| mul_fits) => `(tactic| k_extra "my fits")
section
theorem gcd_c (w : World) (mean : ExcName → Option Value) (mg mb : Str → Option Value) (x y : Int) (t u : Tok) :
    Tell PySem.Challenge.rw_sa0099_01.row.prog w (Mine.hd.heap_39 w.params) Mine.hd.view_39 (looseW Mine.hd.view_39 []) mean mg mb 41 [.int x t, .int y u] 1 (fun _ => True) (RetI (Int.gcd x y)) := by
  k_with_none
  k_with "my w1" => ((k_here; (with_reducible show wpAny _ _ (exec (Stmt.While _ _ _ _) _) _ _ _); k_extra "my while"))
  k_with "my w1" => ((k_here; (with_reducible show wpAny _ _ (exec (Stmt.For _ _ _ _ _) _) _ _ _); k_extra "my for"))
  k_with "pyIter ref" => ((k_here; k_extra "my iter"))
  k_with "call type:enumerate" => ((k_here; k_extra "my enum"))
  k_with "my fits" => (first | exact MulAll.ok (by assumption) _ (by assumption) | exact Sm.mulR (by assumption) | exact Sm.mulL (by assumption) | exact Sm.mulR (SmL.at (by assumption) (by assumption)) | exact Sm.mulL (SmL.at (by assumption) (by assumption)))
  k_with "binaryOp FloorDiv int int" => ((k_here; k_dflt ((refine floordiv_int ?kb ?_ (Or.inl (Sm.py ?kp))); (case kb => first | assumption | exact Nz.ne (by assumption) | omega | exact PowNz.ok (by assumption) _); (case kp => first | assumption | exact PowSm.ok (by assumption) _ (by omega)))))
  k_with "exec Raise some none" => ((exfalso; omega))
  k_with "call ref" => ((k_here; k_extra "my call"))
  k_fill
  unfold Tell
  intro dp un gd cn cs a ccd cl outer A₀ base h₀ L m s Q E B F X T hk hd hu hP hret
  refine wpAny_call ?_
  refine' code_defG (news := []) ?k1 ?k2 ?k3 (fun _ h => nomatch h) ?k5 ?kA ?kF ?kK ?k6 ?k7 ?k8 ?k9 ?kB ?_ ?c2 ?c3 ?c4 ?c5
  case kA => exact rfl
  case kF => exact rfl
  case kK => assumption
  case k1 => k_asm
  case k2 => k_asm
  case k3 => k_asm
  case k5 => k_asm
  case k6 => k_dflt k_is
  case k7 => k_dflt k_is
  case k8 => first | exact room0 (by assumption) | ((try simp only [depth_under_make, depth_under_kw, depth_in1, depth_deeper, depth_caller]); (try dsimp only [ktrTop]); exact room0 (by assumption)) | ktr_room
  case k9 => exact BindsTo.of_eq rfl
  case c5 => decide
  case kB => exact locs rfl
  case c2 => exact rfl
  case c3 => exact rfl
  case c4 => exact rfl
  intro g' L' h' FG' F' N' B' X' T' G'
  clear B F X T
  try dsimp only
  try k_fold
  k_with "my while" => k_while (fun (_ : List Int) a b => 0 ≤ a ∧ 0 ≤ b ∧ Int.gcd a b = Int.gcd x y) (fun (_ : List Int) a b => b.toNat) "a" "b"
  k_with "state" => first | exact gcd_start x y | exact gcd_step (by assumption) (by assumption) (by assumption) (by assumption)
  k_with "measure" => exact gcd_less (by assumption) (by assumption)
  k_steps
  dsimp only
  k_unfold
  dsimp only
  exact leaveI hret (by assumption) (by assumption) (by assumption) (gcd_end (by assumption) (by assumption) (by assumption))
theorem ztrim_c (w : World) (mean : ExcName → Option Value) (mg mb : Str → Option Value) (l : Addr) (vs : List Value) (ns : List Int) (hi : IntsAre vs ns) (hl : ns.length < 2 ^ 20) :
    Tell PySem.Challenge.rw_sa0099_01.row.prog w (Mine.hd.heap_39 w.params) Mine.hd.view_39 (looseW Mine.hd.view_39 []) mean mg mb 55 [.ref l] 1 (fun h => h.IsList l vs.toArray) (RetL (ztrimP ns)) := by
  k_with_none
  k_with "my w1" => ((k_here; (with_reducible show wpAny _ _ (exec (Stmt.While _ _ _ _) _) _ _ _); k_extra "my while"))
  k_with "my w1" => ((k_here; (with_reducible show wpAny _ _ (exec (Stmt.For _ _ _ _ _) _) _ _ _); k_extra "my for"))
  k_with "pyIter ref" => ((k_here; k_extra "my iter"))
  k_with "call type:enumerate" => ((k_here; k_extra "my enum"))
  k_with "my fits" => (first | exact MulAll.ok (by assumption) _ (by assumption) | exact Sm.mulR (by assumption) | exact Sm.mulL (by assumption) | exact Sm.mulR (SmL.at (by assumption) (by assumption)) | exact Sm.mulL (SmL.at (by assumption) (by assumption)))
  k_with "binaryOp FloorDiv int int" => ((k_here; k_dflt ((refine floordiv_int ?kb ?_ (Or.inl (Sm.py ?kp))); (case kb => first | assumption | exact Nz.ne (by assumption) | omega | exact PowNz.ok (by assumption) _); (case kp => first | assumption | exact PowSm.ok (by assumption) _ (by omega)))))
  k_with "exec Raise some none" => ((exfalso; omega))
  k_with "call ref" => ((k_here; k_extra "my call"))
  k_fill
  unfold Tell
  intro dp un gd cn cs a ccd cl outer A₀ base h₀ L m s Q E B F X T hk hd hu hP hret
  refine wpAny_call ?_
  refine' code_defG (news := []) ?k1 ?k2 ?k3 (fun _ h => nomatch h) ?k5 ?kA ?kF ?kK ?k6 ?k7 ?k8 ?k9 ?kB ?_ ?c2 ?c3 ?c4 ?c5
  case kA => exact rfl
  case kF => exact rfl
  case kK => assumption
  case k1 => k_asm
  case k2 => k_asm
  case k3 => k_asm
  case k5 => k_asm
  case k6 => k_dflt k_is
  case k7 => k_dflt k_is
  case k8 => first | exact room0 (by assumption) | ((try simp only [depth_under_make, depth_under_kw, depth_in1, depth_deeper, depth_caller]); (try dsimp only [ktrTop]); exact room0 (by assumption)) | ktr_room
  case k9 => exact BindsTo.of_eq rfl
  case c5 => decide
  case kB => exact locs rfl
  case c2 => exact rfl
  case c3 => exact rfl
  case c4 => exact rfl
  intro g' L' h' FG' F' N' B' X' T' G'
  clear B F X T
  try dsimp only
  try k_fold
  have hP' := lift_list G' hP
  k_with "my while" => k_while (fun (_ : List Int) size => 0 ≤ size ∧ size ≤ (ns.length : Int) ∧ ztrimP (ns.take size.toNat) = ztrimP ns) (fun (_ : List Int) size => size.toNat) "size"
  k_with "state" => first | exact ztrim_start ns | exact ztrim_step (by assumption) (by assumption) (by assumption) (by assumption) (by assumption)
  k_steps
  all_goals (try k_unfold)
  all_goals (try dsimp only)
  · exact leaveL hret (by assumption) (by assumption) (by assumption) (.head _) (by assumption) (ztrim_end (by assumption) (by assumption) (by assumption) (by assumption) (by assumption))
  · exact leaveL hret (by assumption) (by assumption) (by assumption) (.head _) (by assumption) (ztrim_end0 (by assumption) (by assumption) (by assumption) (by assumption))
end
section
theorem gcd_all_c (w : World) (mean : ExcName → Option Value) (mg mb : Str → Option Value) (l : Addr) (vs : List Value) (ns : List Int) (hi : IntsAre vs ns) (hl : ns.length < 2 ^ 20) :
    Tell PySem.Challenge.rw_sa0099_01.row.prog w (Mine.hd.heap_39 w.params) Mine.hd.view_39 (looseW Mine.hd.view_39 []) mean mg mb 48 [.ref l] 2 (fun h => h.IsList l vs.toArray) (RetI (gcdAllP ns)) := by
  k_with_none
  k_with "my w1" => ((k_here; (with_reducible show wpAny _ _ (exec (Stmt.While _ _ _ _) _) _ _ _); k_extra "my while"))
  k_with "my w1" => ((k_here; (with_reducible show wpAny _ _ (exec (Stmt.For _ _ _ _ _) _) _ _ _); k_extra "my for"))
  k_with "pyIter ref" => ((k_here; k_extra "my iter"))
  k_with "call type:enumerate" => ((k_here; k_extra "my enum"))
  k_with "my fits" => (first | exact MulAll.ok (by assumption) _ (by assumption) | exact Sm.mulR (by assumption) | exact Sm.mulL (by assumption) | exact Sm.mulR (SmL.at (by assumption) (by assumption)) | exact Sm.mulL (SmL.at (by assumption) (by assumption)))
  k_with "binaryOp FloorDiv int int" => ((k_here; k_dflt ((refine floordiv_int ?kb ?_ (Or.inl (Sm.py ?kp))); (case kb => first | assumption | exact Nz.ne (by assumption) | omega | exact PowNz.ok (by assumption) _); (case kp => first | assumption | exact PowSm.ok (by assumption) _ (by omega)))))
  k_with "exec Raise some none" => ((exfalso; omega))
  k_with "call ref" => ((k_here; k_extra "my call"))
  k_with "my call" => (first | (k_dflt (refine' use_I (gcd_c _ _ _ _ _ _ _ _ ) ?kB ?kF ?kX ?kN ?kT ?kK ?kd ?ku ?kP ?_; (case kP => (first | exact trivial | (first | exact isl (by assumption) (by k_mem) | is_list) | (refine And.intro ?_ ?_ <;> (first | exact isl (by assumption) (by k_mem) | is_list))));  (case kB => k_asm); (case kF => k_asm); (case kX => k_asm); (case kN => k_asm); (case kT => k_asm); (case kK => first | exact rfl | assumption); (case kd => first | exact roomK (by assumption) (by decide) | ((try simp only [depth_under_make, depth_under_kw, depth_in1, depth_deeper, depth_caller]); (try dsimp only [ktrTop]); first | exact roomK (by assumption) (by decide) | exact roomG rfl (by decide)) | ktr_room); (case ku => first | ((try simp only [units_in1, units_deeper, Around.mark_units, units_caller]); (try dsimp only [ktrTop]); first | exact unitsK (by assumption) (by decide) | exact unitsK64 (by assumption) (by decide) | exact unitsG rfl (by decide) | exact unitsG64 rfl) | ktr_units); intro t9 h9 tk9 F9 N9; (try dsimp only); (try k_sweep); (try k_fold))))
  k_fill
  unfold Tell
  intro dp un gd cn cs a ccd cl outer A₀ base h₀ L m s Q E B F X T hk hd hu hP hret
  refine wpAny_call ?_
  refine' code_defG (news := []) ?k1 ?k2 ?k3 (fun _ h => nomatch h) ?k5 ?kA ?kF ?kK ?k6 ?k7 ?k8 ?k9 ?kB ?_ ?c2 ?c3 ?c4 ?c5
  case kA => exact rfl
  case kF => exact rfl
  case kK => assumption
  case k1 => k_asm
  case k2 => k_asm
  case k3 => k_asm
  case k5 => k_asm
  case k6 => k_dflt k_is
  case k7 => k_dflt k_is
  case k8 => first | exact room0 (by assumption) | ((try simp only [depth_under_make, depth_under_kw, depth_in1, depth_deeper, depth_caller]); (try dsimp only [ktrTop]); exact room0 (by assumption)) | ktr_room
  case k9 => exact BindsTo.of_eq rfl
  case c5 => decide
  case kB => exact locs rfl
  case c2 => exact rfl
  case c3 => exact rfl
  case c4 => exact rfl
  intro g' L' h' FG' F' N' B' X' T' G'
  clear B F X T
  try dsimp only
  try k_fold
  have hP' := lift_list G' hP
  k_steps
  all_goals ((try dsimp only); (try (k_unfold; try dsimp only)); (try (k_unfold; try dsimp only)))
  exact leaveI hret (by assumption) (by assumption) (by assumption) rfl
theorem zdegree_c (w : World) (mean : ExcName → Option Value) (mg mb : Str → Option Value) (l : Addr) (vs : List Value) (ns : List Int) (hi : IntsAre vs ns) (hl : ns.length < 2 ^ 20) :
    Tell PySem.Challenge.rw_sa0099_01.row.prog w (Mine.hd.heap_39 w.params) Mine.hd.view_39 (looseW Mine.hd.view_39 []) mean mg mb 62 [.ref l] 1 (fun h => h.IsList l vs.toArray) (RetI ((ns.length : Int) - 1)) := by
  k_with_none
  k_with "my w1" => ((k_here; (with_reducible show wpAny _ _ (exec (Stmt.While _ _ _ _) _) _ _ _); k_extra "my while"))
  k_with "my w1" => ((k_here; (with_reducible show wpAny _ _ (exec (Stmt.For _ _ _ _ _) _) _ _ _); k_extra "my for"))
  k_with "pyIter ref" => ((k_here; k_extra "my iter"))
  k_with "call type:enumerate" => ((k_here; k_extra "my enum"))
  k_with "my fits" => (first | exact MulAll.ok (by assumption) _ (by assumption) | exact Sm.mulR (by assumption) | exact Sm.mulL (by assumption) | exact Sm.mulR (SmL.at (by assumption) (by assumption)) | exact Sm.mulL (SmL.at (by assumption) (by assumption)))
  k_with "binaryOp FloorDiv int int" => ((k_here; k_dflt ((refine floordiv_int ?kb ?_ (Or.inl (Sm.py ?kp))); (case kb => first | assumption | exact Nz.ne (by assumption) | omega | exact PowNz.ok (by assumption) _); (case kp => first | assumption | exact PowSm.ok (by assumption) _ (by omega)))))
  k_with "exec Raise some none" => ((exfalso; omega))
  k_with "call ref" => ((k_here; k_extra "my call"))
  k_with "my call" => (first | (k_dflt (refine' use_I (gcd_c _ _ _ _ _ _ _ _ ) ?kB ?kF ?kX ?kN ?kT ?kK ?kd ?ku ?kP ?_; (case kP => (first | exact trivial | (first | exact isl (by assumption) (by k_mem) | is_list) | (refine And.intro ?_ ?_ <;> (first | exact isl (by assumption) (by k_mem) | is_list))));  (case kB => k_asm); (case kF => k_asm); (case kX => k_asm); (case kN => k_asm); (case kT => k_asm); (case kK => first | exact rfl | assumption); (case kd => first | exact roomK (by assumption) (by decide) | ((try simp only [depth_under_make, depth_under_kw, depth_in1, depth_deeper, depth_caller]); (try dsimp only [ktrTop]); first | exact roomK (by assumption) (by decide) | exact roomG rfl (by decide)) | ktr_room); (case ku => first | ((try simp only [units_in1, units_deeper, Around.mark_units, units_caller]); (try dsimp only [ktrTop]); first | exact unitsK (by assumption) (by decide) | exact unitsK64 (by assumption) (by decide) | exact unitsG rfl (by decide) | exact unitsG64 rfl) | ktr_units); intro t9 h9 tk9 F9 N9; (try dsimp only); (try k_sweep); (try k_fold))))
  k_fill
  unfold Tell
  intro dp un gd cn cs a ccd cl outer A₀ base h₀ L m s Q E B F X T hk hd hu hP hret
  refine wpAny_call ?_
  refine' code_defG (news := []) ?k1 ?k2 ?k3 (fun _ h => nomatch h) ?k5 ?kA ?kF ?kK ?k6 ?k7 ?k8 ?k9 ?kB ?_ ?c2 ?c3 ?c4 ?c5
  case kA => exact rfl
  case kF => exact rfl
  case kK => assumption
  case k1 => k_asm
  case k2 => k_asm
  case k3 => k_asm
  case k5 => k_asm
  case k6 => k_dflt k_is
  case k7 => k_dflt k_is
  case k8 => first | exact room0 (by assumption) | ((try simp only [depth_under_make, depth_under_kw, depth_in1, depth_deeper, depth_caller]); (try dsimp only [ktrTop]); exact room0 (by assumption)) | ktr_room
  case k9 => exact BindsTo.of_eq rfl
  case c5 => decide
  case kB => exact locs rfl
  case c2 => exact rfl
  case c3 => exact rfl
  case c4 => exact rfl
  intro g' L' h' FG' F' N' B' X' T' G'
  clear B F X T
  try dsimp only
  try k_fold
  have hP' := lift_list G' hP
  k_steps
  all_goals exact leaveI hret (by assumption) (by assumption) (by assumption) rfl
theorem zlead_c (w : World) (mean : ExcName → Option Value) (mg mb : Str → Option Value) (l : Addr) (vs : List Value) (ns : List Int) (hi : IntsAre vs ns) (hl : ns.length < 2 ^ 20) :
    Tell PySem.Challenge.rw_sa0099_01.row.prog w (Mine.hd.heap_39 w.params) Mine.hd.view_39 (looseW Mine.hd.view_39 []) mean mg mb 69 [.ref l] 1 (fun h => h.IsList l vs.toArray) (RetI (zleadP ns)) := by
  k_with_none
  k_with "my w1" => ((k_here; (with_reducible show wpAny _ _ (exec (Stmt.While _ _ _ _) _) _ _ _); k_extra "my while"))
  k_with "my w1" => ((k_here; (with_reducible show wpAny _ _ (exec (Stmt.For _ _ _ _ _) _) _ _ _); k_extra "my for"))
  k_with "pyIter ref" => ((k_here; k_extra "my iter"))
  k_with "call type:enumerate" => ((k_here; k_extra "my enum"))
  k_with "my fits" => (first | exact MulAll.ok (by assumption) _ (by assumption) | exact Sm.mulR (by assumption) | exact Sm.mulL (by assumption) | exact Sm.mulR (SmL.at (by assumption) (by assumption)) | exact Sm.mulL (SmL.at (by assumption) (by assumption)))
  k_with "binaryOp FloorDiv int int" => ((k_here; k_dflt ((refine floordiv_int ?kb ?_ (Or.inl (Sm.py ?kp))); (case kb => first | assumption | exact Nz.ne (by assumption) | omega | exact PowNz.ok (by assumption) _); (case kp => first | assumption | exact PowSm.ok (by assumption) _ (by omega)))))
  k_with "exec Raise some none" => ((exfalso; omega))
  k_with "call ref" => ((k_here; k_extra "my call"))
  k_with "my call" => (first | (k_dflt (refine' use_I (gcd_c _ _ _ _ _ _ _ _ ) ?kB ?kF ?kX ?kN ?kT ?kK ?kd ?ku ?kP ?_; (case kP => (first | exact trivial | (first | exact isl (by assumption) (by k_mem) | is_list) | (refine And.intro ?_ ?_ <;> (first | exact isl (by assumption) (by k_mem) | is_list))));  (case kB => k_asm); (case kF => k_asm); (case kX => k_asm); (case kN => k_asm); (case kT => k_asm); (case kK => first | exact rfl | assumption); (case kd => first | exact roomK (by assumption) (by decide) | ((try simp only [depth_under_make, depth_under_kw, depth_in1, depth_deeper, depth_caller]); (try dsimp only [ktrTop]); first | exact roomK (by assumption) (by decide) | exact roomG rfl (by decide)) | ktr_room); (case ku => first | ((try simp only [units_in1, units_deeper, Around.mark_units, units_caller]); (try dsimp only [ktrTop]); first | exact unitsK (by assumption) (by decide) | exact unitsK64 (by assumption) (by decide) | exact unitsG rfl (by decide) | exact unitsG64 rfl) | ktr_units); intro t9 h9 tk9 F9 N9; (try dsimp only); (try k_sweep); (try k_fold))))
  k_fill
  unfold Tell
  intro dp un gd cn cs a ccd cl outer A₀ base h₀ L m s Q E B F X T hk hd hu hP hret
  refine wpAny_call ?_
  refine' code_defG (news := []) ?k1 ?k2 ?k3 (fun _ h => nomatch h) ?k5 ?kA ?kF ?kK ?k6 ?k7 ?k8 ?k9 ?kB ?_ ?c2 ?c3 ?c4 ?c5
  case kA => exact rfl
  case kF => exact rfl
  case kK => assumption
  case k1 => k_asm
  case k2 => k_asm
  case k3 => k_asm
  case k5 => k_asm
  case k6 => k_dflt k_is
  case k7 => k_dflt k_is
  case k8 => first | exact room0 (by assumption) | ((try simp only [depth_under_make, depth_under_kw, depth_in1, depth_deeper, depth_caller]); (try dsimp only [ktrTop]); exact room0 (by assumption)) | ktr_room
  case k9 => exact BindsTo.of_eq rfl
  case c5 => decide
  case kB => exact locs rfl
  case c2 => exact rfl
  case c3 => exact rfl
  case c4 => exact rfl
  intro g' L' h' FG' F' N' B' X' T' G'
  clear B F X T
  try dsimp only
  try k_fold
  have hP' := lift_list G' hP
  k_steps
  · exact leaveI hret (by assumption) (by assumption) (by assumption) (zlead_some (by assumption))
  · exact leaveI hret (by assumption) (by assumption) (by assumption) (zlead_none (by assumption))
theorem zneg_c (w : World) (mean : ExcName → Option Value) (mg mb : Str → Option Value) (l : Addr) (vs : List Value) (ns : List Int) (hi : IntsAre vs ns) (hl : ns.length < 2 ^ 20) :
    Tell PySem.Challenge.rw_sa0099_01.row.prog w (Mine.hd.heap_39 w.params) Mine.hd.view_39 (looseW Mine.hd.view_39 []) mean mg mb 79 [.ref l] 1 (fun h => h.IsList l vs.toArray) (RetL (znegP ns)) := by
  k_with_none
  k_with "my w1" => ((k_here; (with_reducible show wpAny _ _ (exec (Stmt.While _ _ _ _) _) _ _ _); k_extra "my while"))
  k_with "my w1" => ((k_here; (with_reducible show wpAny _ _ (exec (Stmt.For _ _ _ _ _) _) _ _ _); k_extra "my for"))
  k_with "pyIter ref" => ((k_here; k_extra "my iter"))
  k_with "call type:enumerate" => ((k_here; k_extra "my enum"))
  k_with "my fits" => (first | exact MulAll.ok (by assumption) _ (by assumption) | exact Sm.mulR (by assumption) | exact Sm.mulL (by assumption) | exact Sm.mulR (SmL.at (by assumption) (by assumption)) | exact Sm.mulL (SmL.at (by assumption) (by assumption)))
  k_with "binaryOp FloorDiv int int" => ((k_here; k_dflt ((refine floordiv_int ?kb ?_ (Or.inl (Sm.py ?kp))); (case kb => first | assumption | exact Nz.ne (by assumption) | omega | exact PowNz.ok (by assumption) _); (case kp => first | assumption | exact PowSm.ok (by assumption) _ (by omega)))))
  k_with "exec Raise some none" => ((exfalso; omega))
  k_with "call ref" => ((k_here; k_extra "my call"))
  k_with "my call" => (first | (k_dflt (refine' use_I (gcd_c _ _ _ _ _ _ _ _ ) ?kB ?kF ?kX ?kN ?kT ?kK ?kd ?ku ?kP ?_; (case kP => (first | exact trivial | (first | exact isl (by assumption) (by k_mem) | is_list) | (refine And.intro ?_ ?_ <;> (first | exact isl (by assumption) (by k_mem) | is_list))));  (case kB => k_asm); (case kF => k_asm); (case kX => k_asm); (case kN => k_asm); (case kT => k_asm); (case kK => first | exact rfl | assumption); (case kd => first | exact roomK (by assumption) (by decide) | ((try simp only [depth_under_make, depth_under_kw, depth_in1, depth_deeper, depth_caller]); (try dsimp only [ktrTop]); first | exact roomK (by assumption) (by decide) | exact roomG rfl (by decide)) | ktr_room); (case ku => first | ((try simp only [units_in1, units_deeper, Around.mark_units, units_caller]); (try dsimp only [ktrTop]); first | exact unitsK (by assumption) (by decide) | exact unitsK64 (by assumption) (by decide) | exact unitsG rfl (by decide) | exact unitsG64 rfl) | ktr_units); intro t9 h9 tk9 F9 N9; (try dsimp only); (try k_sweep); (try k_fold))))
  k_fill
  unfold Tell
  intro dp un gd cn cs a ccd cl outer A₀ base h₀ L m s Q E B F X T hk hd hu hP hret
  refine wpAny_call ?_
  refine' code_defG (news := []) ?k1 ?k2 ?k3 (fun _ h => nomatch h) ?k5 ?kA ?kF ?kK ?k6 ?k7 ?k8 ?k9 ?kB ?_ ?c2 ?c3 ?c4 ?c5
  case kA => exact rfl
  case kF => exact rfl
  case kK => assumption
  case k1 => k_asm
  case k2 => k_asm
  case k3 => k_asm
  case k5 => k_asm
  case k6 => k_dflt k_is
  case k7 => k_dflt k_is
  case k8 => first | exact room0 (by assumption) | ((try simp only [depth_under_make, depth_under_kw, depth_in1, depth_deeper, depth_caller]); (try dsimp only [ktrTop]); exact room0 (by assumption)) | ktr_room
  case k9 => exact BindsTo.of_eq rfl
  case c5 => decide
  case kB => exact locs rfl
  case c2 => exact rfl
  case c3 => exact rfl
  case c4 => exact rfl
  intro g' L' h' FG' F' N' B' X' T' G'
  clear B F X T
  try dsimp only
  try k_fold
  have hP' := lift_list G' hP
  k_steps
  dsimp only
  k_unfold
  dsimp only
  refine leaveC hret (by assumption) (by assumption) (by assumption) (by assumption) (by assumption) (by assumption) ?_
  rw [filter_tt', znegP, List.map_map]; rfl
theorem zraise_c (w : World) (mean : ExcName → Option Value) (mg mb : Str → Option Value) (l : Addr) (vs : List Value) (ns : List Int) (k : Int) (t : Tok) (hi : IntsAre vs ns) (hl : ns.length < 2 ^ 20) (h0 : 0 ≤ k) (hb : k < 2 ^ 20) :
    Tell PySem.Challenge.rw_sa0099_01.row.prog w (Mine.hd.heap_39 w.params) Mine.hd.view_39 (looseW Mine.hd.view_39 []) mean mg mb 98 [.ref l, .int k t] 1 (fun h => h.IsList l vs.toArray) (RetL (zraiseP ns k.toNat)) := by
  k_with_none
  k_with "my w1" => ((k_here; (with_reducible show wpAny _ _ (exec (Stmt.While _ _ _ _) _) _ _ _); k_extra "my while"))
  k_with "my w1" => ((k_here; (with_reducible show wpAny _ _ (exec (Stmt.For _ _ _ _ _) _) _ _ _); k_extra "my for"))
  k_with "pyIter ref" => ((k_here; k_extra "my iter"))
  k_with "call type:enumerate" => ((k_here; k_extra "my enum"))
  k_with "my fits" => (first | exact MulAll.ok (by assumption) _ (by assumption) | exact Sm.mulR (by assumption) | exact Sm.mulL (by assumption) | exact Sm.mulR (SmL.at (by assumption) (by assumption)) | exact Sm.mulL (SmL.at (by assumption) (by assumption)))
  k_with "binaryOp FloorDiv int int" => ((k_here; k_dflt ((refine floordiv_int ?kb ?_ (Or.inl (Sm.py ?kp))); (case kb => first | assumption | exact Nz.ne (by assumption) | omega | exact PowNz.ok (by assumption) _); (case kp => first | assumption | exact PowSm.ok (by assumption) _ (by omega)))))
  k_with "exec Raise some none" => ((exfalso; omega))
  k_with "call ref" => ((k_here; k_extra "my call"))
  k_with "my call" => (first | (k_dflt (refine' use_I (gcd_c _ _ _ _ _ _ _ _ ) ?kB ?kF ?kX ?kN ?kT ?kK ?kd ?ku ?kP ?_; (case kP => (first | exact trivial | (first | exact isl (by assumption) (by k_mem) | is_list) | (refine And.intro ?_ ?_ <;> (first | exact isl (by assumption) (by k_mem) | is_list))));  (case kB => k_asm); (case kF => k_asm); (case kX => k_asm); (case kN => k_asm); (case kT => k_asm); (case kK => first | exact rfl | assumption); (case kd => first | exact roomK (by assumption) (by decide) | ((try simp only [depth_under_make, depth_under_kw, depth_in1, depth_deeper, depth_caller]); (try dsimp only [ktrTop]); first | exact roomK (by assumption) (by decide) | exact roomG rfl (by decide)) | ktr_room); (case ku => first | ((try simp only [units_in1, units_deeper, Around.mark_units, units_caller]); (try dsimp only [ktrTop]); first | exact unitsK (by assumption) (by decide) | exact unitsK64 (by assumption) (by decide) | exact unitsG rfl (by decide) | exact unitsG64 rfl) | ktr_units); intro t9 h9 tk9 F9 N9; (try dsimp only); (try k_sweep); (try k_fold))))
  k_fill
  unfold Tell
  intro dp un gd cn cs a ccd cl outer A₀ base h₀ L m s Q E B F X T hk hd hu hP hret
  refine wpAny_call ?_
  refine' code_defG (news := []) ?k1 ?k2 ?k3 (fun _ h => nomatch h) ?k5 ?kA ?kF ?kK ?k6 ?k7 ?k8 ?k9 ?kB ?_ ?c2 ?c3 ?c4 ?c5
  case kA => exact rfl
  case kF => exact rfl
  case kK => assumption
  case k1 => k_asm
  case k2 => k_asm
  case k3 => k_asm
  case k5 => k_asm
  case k6 => k_dflt k_is
  case k7 => k_dflt k_is
  case k8 => first | exact room0 (by assumption) | ((try simp only [depth_under_make, depth_under_kw, depth_in1, depth_deeper, depth_caller]); (try dsimp only [ktrTop]); exact room0 (by assumption)) | ktr_room
  case k9 => exact BindsTo.of_eq rfl
  case c5 => decide
  case kB => exact locs rfl
  case c2 => exact rfl
  case c3 => exact rfl
  case c4 => exact rfl
  intro g' L' h' FG' F' N' B' X' T' G'
  clear B F X T
  try dsimp only
  try k_fold
  have hP' := lift_list G' hP
  k_steps
  all_goals ((try dsimp only); (try (k_unfold; try dsimp only)); (try (k_unfold; try dsimp only)))
  · exact leaveL hret (by assumption) (by assumption) (by assumption) (.head _) (by assumption) (zraise_some (by assumption))
  · exact leaveL (vs := []) hret (by assumption) (by assumption) (by assumption) (.head _) .nil (zraise_none (by assumption))
end
section
theorem rangeKs0 (n : Nat) : rangeKs 0 n = (List.range n).map (fun (i : Nat) => (i : Int)) := by
  unfold rangeKs
  refine List.map_congr_left fun i _ => ?_
  omega
theorem zadd_eq (a b : List Int) : ztrimP (List.map (fun (k' : Int) => if k' < (a.length : Int) ∧ k' < (b.length : Int) then a.getD k'.toNat 0 + b.getD k'.toNat 0
      else if k' < (a.length : Int) ∧ ¬ k' < (b.length : Int) then a.getD k'.toNat 0 + 0 else 0 + b.getD k'.toNat 0)
      (rangeKs 0 ((if (b.length : Int) > (a.length : Int) then (b.length : Int) else (a.length : Int)) - 0).toNat)) = zaddP a b := by
  unfold zaddP
  have e : ((if (b.length : Int) > (a.length : Int) then (b.length : Int) else (a.length : Int)) - 0).toNat = max a.length b.length := by split <;> omega
  rw [e, rangeKs0, List.map_map]
  congr 1
  refine List.map_congr_left fun i _ => ?_
  simp only [Function.comp, Int.toNat_natCast, Int.ofNat_lt]
  by_cases h1 : i < a.length
  · by_cases h2 : i < b.length
    · rw [if_pos ⟨h1, h2⟩]
    · rw [if_neg (fun h => h2 h.2), if_pos ⟨h1, h2⟩]
      have : b.getD i 0 = 0 := by simp [List.getD, List.getElem?_eq_none (Nat.le_of_not_lt h2)]
      rw [this]
  · rw [if_neg (fun h => h1 h.1), if_neg (fun h => h1 h.1)]
    have : a.getD i 0 = 0 := by simp [List.getD, List.getElem?_eq_none (Nat.le_of_not_lt h1)]
    rw [this]
/-- an index in bounds, said so that the comprehension's paths do not read it -/
structure Hk (k : Int) (b : Nat) : Prop where
  lt : k < (b : Int)
theorem Hk.fit {k : Int} {b N : Nat} (h : Hk k b) (hb : b < N) (hN : N ≤ 2 ^ 62) : k < 2 ^ 63 := by have := h.lt; omega
theorem mx_ite {k : Int} {a b : Nat} {p q : Prop} (h : k < 0 + (((if (b : Int) > (a : Int) then (b : Int) else (a : Int)) - 0).toNat : Int)) (h1 : ¬ k < (a : Int)) (hp : Hk k b → p) : if decide (k < (b : Int)) = true then p else q := by
  have hb : k < (b : Int) := by split at h <;> omega
  rw [if_pos (decide_eq_true hb)]
  exact hp ⟨hb⟩
theorem zscale_c (w : World) (mean : ExcName → Option Value) (mg mb : Str → Option Value) (l : Addr) (vs : List Value) (ns : List Int) (k : Int) (t : Tok) (hi : IntsAre vs ns) (hl : ns.length < 2 ^ 20) (hb : MulAll ns k):
    Tell PySem.Challenge.rw_sa0099_01.row.prog w (Mine.hd.heap_39 w.params) Mine.hd.view_39 (looseW Mine.hd.view_39 []) mean mg mb 91 [.ref l, .int k t] 1 (fun h => h.IsList l vs.toArray) (RetL (zscaleP ns k)) := by
  k_with_none
  k_with "my w1" => ((k_here; (with_reducible show wpAny _ _ (exec (Stmt.While _ _ _ _) _) _ _ _); k_extra "my while"))
  k_with "my w1" => ((k_here; (with_reducible show wpAny _ _ (exec (Stmt.For _ _ _ _ _) _) _ _ _); k_extra "my for"))
  k_with "pyIter ref" => ((k_here; k_extra "my iter"))
  k_with "call type:enumerate" => ((k_here; k_extra "my enum"))
  k_with "my fits" => (first | exact MulAll.ok (by assumption) _ (by assumption) | exact Sm.mulR (by assumption) | exact Sm.mulL (by assumption) | exact Sm.mulR (SmL.at (by assumption) (by assumption)) | exact Sm.mulL (SmL.at (by assumption) (by assumption)))
  k_with "binaryOp FloorDiv int int" => ((k_here; k_dflt ((refine floordiv_int ?kb ?_ (Or.inl (Sm.py ?kp))); (case kb => first | assumption | exact Nz.ne (by assumption) | omega | exact PowNz.ok (by assumption) _); (case kp => first | assumption | exact PowSm.ok (by assumption) _ (by omega)))))
  k_with "exec Raise some none" => ((exfalso; omega))
  k_with "call ref" => ((k_here; k_extra "my call"))
  k_with "ite" => ((k_here; refine mx_ite (by assumption) (by assumption) ?_; intro hk9))
  k_with "subscriptTail Name Name ref int" => ((k_here; k_dflt ((with_reducible show wpAny _ _ (subscriptTail _ _ (Value.ref _) (Value.int _ _)) _ _ _); (have hk9 := Hk.lt (by assumption)); (refine' item_list_ints ?k1 ?k2 ?k3 ?k4 ?k5 ?_); (case k1 => is_list); (case k2 => assumption); (case k3 => assumption); (case k4 => exact hk9); (case k5 => exact Hk.fit (by assumption) (by assumption) (by decide)); (clear hk9)); intro _))
  k_with "my call" => (first | (k_dflt (refine' use_L (ztrim_c _ _ _ _ _ _ _ ?p0 ?p1) ?kB ?kF ?kX ?kN ?kT ?kK ?kd ?ku ?kP ?kb ?_; (case kP => (first | exact trivial | (first | exact isl (by assumption) (by k_mem) | is_list) | (refine And.intro ?_ ?_ <;> (first | exact isl (by assumption) (by k_mem) | is_list)))); (case p0 => first | assumption | exact .nil | exact .cons _ _ .nil | exact .cons _ _ (.cons _ _ .nil) | exact .cons _ _ (.cons _ _ (.cons _ _ .nil)) | l_ints); (case p1 => first | assumption | exact Nat.lt_of_lt_of_le (by assumption) (by decide) | l_fit | omega | (simp only [List.length_cons, List.length_nil, List.length_append, List.length_map, List.length_replicate, List.length_reverse, rangeKs_length] at *; omega)); (case kb => exact ztrimP_len _); (case kB => k_asm); (case kF => k_asm); (case kX => k_asm); (case kN => k_asm); (case kT => k_asm); (case kK => first | exact rfl | assumption); (case kd => first | exact roomK (by assumption) (by decide) | ((try simp only [depth_under_make, depth_under_kw, depth_in1, depth_deeper, depth_caller]); (try dsimp only [ktrTop]); first | exact roomK (by assumption) (by decide) | exact roomG rfl (by decide)) | ktr_room); (case ku => first | ((try simp only [units_in1, units_deeper, Around.mark_units, units_caller]); (try dsimp only [ktrTop]); first | exact unitsK (by assumption) (by decide) | exact unitsK64 (by assumption) (by decide) | exact unitsG rfl (by decide) | exact unitsG64 rfl) | ktr_units); intro l9 ys9 n9 h9 tk9 F9 N9 ne9 hi9 hb9; (have no9 := ne9); (clear ne9); (try dsimp only); (try k_sweep); (try k_fold))))
  k_fill
  unfold Tell
  intro dp un gd cn cs a ccd cl outer A₀ base h₀ L m s Q E B F X T hk hd hu hP hret
  refine wpAny_call ?_
  refine' enterC ?k1 ?k2 ?k3 ?k5 ?kA ?kF ?kK ?k6 ?k7 ?k8 ?k9 ?kB ?kD ?_ ?c2 ?c3 ?c4
  case kA => exact rfl
  case kF => exact rfl
  case kK => assumption
  case k1 => k_asm
  case k2 => k_asm
  case k3 => k_asm
  case k5 => k_asm
  case k6 => k_dflt k_is
  case k7 => k_dflt k_is
  case k8 => first | exact room0 (by assumption) | ((try simp only [depth_under_make, depth_under_kw, depth_in1, depth_deeper, depth_caller]); (try dsimp only [ktrTop]); exact room0 (by assumption)) | ktr_room
  case k9 => exact BindsTo.of_eq rfl
  case kB => exact rfl
  case kD => decide +kernel
  case c2 => exact rfl
  case c3 => exact rfl
  case c4 => exact rfl
  intro g' L' h' tk' cells' FG' F' N' Y' B' X' T' G'
  k_cells Y'
  clear B F X T
  try dsimp only
  try k_fold
  have hP' := lift_list G' hP
  k_steps
  all_goals ((try dsimp only); (try (k_unfold; try dsimp only)); (try (k_unfold; try dsimp only)))
  · exact leaveL hret (by assumption) (by assumption) (by assumption) (.head _) (by assumption) (by rename_i h _ _ _ _ _ _ _ _ _ _ _ _; unfold zscaleP; rw [if_pos (by assumption)])
  · exact leaveL (vs := []) hret (by assumption) (by assumption) (by assumption) (.head _) .nil (by unfold zscaleP; rw [if_neg (fun x => x (by assumption))])
theorem zadd_c (w : World) (mean : ExcName → Option Value) (mg mb : Str → Option Value) (l1 l2 : Addr) (vs1 vs2 : List Value) (ns1 ns2 : List Int) (hi1 : IntsAre vs1 ns1) (hl1 : ns1.length < 2 ^ 20) (hi2 : IntsAre vs2 ns2) (hl2 : ns2.length < 2 ^ 20):
    Tell PySem.Challenge.rw_sa0099_01.row.prog w (Mine.hd.heap_39 w.params) Mine.hd.view_39 (looseW Mine.hd.view_39 []) mean mg mb 74 [.ref l1, .ref l2] 2 (fun h => h.IsList l1 vs1.toArray ∧ h.IsList l2 vs2.toArray) (RetL (zaddP ns1 ns2)) := by
  k_with_none
  k_with "my w1" => ((k_here; (with_reducible show wpAny _ _ (exec (Stmt.While _ _ _ _) _) _ _ _); k_extra "my while"))
  k_with "my w1" => ((k_here; (with_reducible show wpAny _ _ (exec (Stmt.For _ _ _ _ _) _) _ _ _); k_extra "my for"))
  k_with "pyIter ref" => ((k_here; k_extra "my iter"))
  k_with "call type:enumerate" => ((k_here; k_extra "my enum"))
  k_with "my fits" => (first | exact MulAll.ok (by assumption) _ (by assumption) | exact Sm.mulR (by assumption) | exact Sm.mulL (by assumption) | exact Sm.mulR (SmL.at (by assumption) (by assumption)) | exact Sm.mulL (SmL.at (by assumption) (by assumption)))
  k_with "binaryOp FloorDiv int int" => ((k_here; k_dflt ((refine floordiv_int ?kb ?_ (Or.inl (Sm.py ?kp))); (case kb => first | assumption | exact Nz.ne (by assumption) | omega | exact PowNz.ok (by assumption) _); (case kp => first | assumption | exact PowSm.ok (by assumption) _ (by omega)))))
  k_with "exec Raise some none" => ((exfalso; omega))
  k_with "call ref" => ((k_here; k_extra "my call"))
  k_with "ite" => ((k_here; refine mx_ite (by assumption) (by assumption) ?_; intro hk9))
  k_with "subscriptTail Name Name ref int" => ((k_here; k_dflt ((with_reducible show wpAny _ _ (subscriptTail _ _ (Value.ref _) (Value.int _ _)) _ _ _); (have hk9 := Hk.lt (by assumption)); (refine' item_list_ints ?k1 ?k2 ?k3 ?k4 ?k5 ?_); (case k1 => is_list); (case k2 => assumption); (case k3 => assumption); (case k4 => exact hk9); (case k5 => exact Hk.fit (by assumption) (by assumption) (by decide)); (clear hk9)); intro _))
  k_with "my call" => (first | (k_dflt (refine' use_L (ztrim_c _ _ _ _ _ _ _ ?p0 ?p1) ?kB ?kF ?kX ?kN ?kT ?kK ?kd ?ku ?kP ?kb ?_; (case kP => (first | exact trivial | (first | exact isl (by assumption) (by k_mem) | is_list) | (refine And.intro ?_ ?_ <;> (first | exact isl (by assumption) (by k_mem) | is_list)))); (case p0 => first | assumption | exact .nil | exact .cons _ _ .nil | exact .cons _ _ (.cons _ _ .nil) | exact .cons _ _ (.cons _ _ (.cons _ _ .nil)) | l_ints); (case p1 => first | assumption | exact Nat.lt_of_lt_of_le (by assumption) (by decide) | l_fit | omega | (simp only [List.length_cons, List.length_nil, List.length_append, List.length_map, List.length_replicate, List.length_reverse, rangeKs_length] at *; omega)); (case kb => exact ztrimP_len _); (case kB => k_asm); (case kF => k_asm); (case kX => k_asm); (case kN => k_asm); (case kT => k_asm); (case kK => first | exact rfl | assumption); (case kd => first | exact roomK (by assumption) (by decide) | ((try simp only [depth_under_make, depth_under_kw, depth_in1, depth_deeper, depth_caller]); (try dsimp only [ktrTop]); first | exact roomK (by assumption) (by decide) | exact roomG rfl (by decide)) | ktr_room); (case ku => first | ((try simp only [units_in1, units_deeper, Around.mark_units, units_caller]); (try dsimp only [ktrTop]); first | exact unitsK (by assumption) (by decide) | exact unitsK64 (by assumption) (by decide) | exact unitsG rfl (by decide) | exact unitsG64 rfl) | ktr_units); intro l9 ys9 n9 h9 tk9 F9 N9 ne9 hi9 hb9; (have no9 := ne9); (clear ne9); (try dsimp only); (try k_sweep); (try k_fold))))
  k_fill
  unfold Tell
  intro dp un gd cn cs a ccd cl outer A₀ base h₀ L m s Q E B F X T hk hd hu hP hret
  refine wpAny_call ?_
  refine' enterC ?k1 ?k2 ?k3 ?k5 ?kA ?kF ?kK ?k6 ?k7 ?k8 ?k9 ?kB ?kD ?_ ?c2 ?c3 ?c4
  case kA => exact rfl
  case kF => exact rfl
  case kK => assumption
  case k1 => k_asm
  case k2 => k_asm
  case k3 => k_asm
  case k5 => k_asm
  case k6 => k_dflt k_is
  case k7 => k_dflt k_is
  case k8 => first | exact room0 (by assumption) | ((try simp only [depth_under_make, depth_under_kw, depth_in1, depth_deeper, depth_caller]); (try dsimp only [ktrTop]); exact room0 (by assumption)) | ktr_room
  case k9 => exact BindsTo.of_eq rfl
  case kB => exact rfl
  case kD => decide +kernel
  case c2 => exact rfl
  case c3 => exact rfl
  case c4 => exact rfl
  intro g' L' h' tk' cells' FG' F' N' Y' B' X' T' G'
  k_cells Y'
  clear B F X T
  try dsimp only
  try k_fold
  obtain ⟨hP1, hP2⟩ := hP
  have hP1' := lift_list G' hP1
  have hP2' := lift_list G' hP2
  k_steps
  all_goals ((try dsimp only); (try (k_unfold; try dsimp only)); (try (k_unfold; try dsimp only)))
  exact leaveL hret (by assumption) (by assumption) (by assumption) (.head _) (by assumption) (zadd_eq _ _)
end
section
theorem zcontent_c (w : World) (mean : ExcName → Option Value) (mg mb : Str → Option Value) (l : Addr) (vs : List Value) (ns : List Int) (hi : IntsAre vs ns) (hl : ns.length < 2 ^ 20) :
    Tell PySem.Challenge.rw_sa0099_01.row.prog w (Mine.hd.heap_39 w.params) Mine.hd.view_39 (looseW Mine.hd.view_39 []) mean mg mb 112 [.ref l] 3 (fun h => h.IsList l vs.toArray) (RetI (gcdAllP ns)) := by
  k_with_none
  k_with "my w1" => ((k_here; (with_reducible show wpAny _ _ (exec (Stmt.While _ _ _ _) _) _ _ _); k_extra "my while"))
  k_with "my w1" => ((k_here; (with_reducible show wpAny _ _ (exec (Stmt.For _ _ _ _ _) _) _ _ _); k_extra "my for"))
  k_with "pyIter ref" => ((k_here; k_extra "my iter"))
  k_with "call type:enumerate" => ((k_here; k_extra "my enum"))
  k_with "my fits" => (first | exact MulAll.ok (by assumption) _ (by assumption) | exact Sm.mulR (by assumption) | exact Sm.mulL (by assumption) | exact Sm.mulR (SmL.at (by assumption) (by assumption)) | exact Sm.mulL (SmL.at (by assumption) (by assumption)))
  k_with "binaryOp FloorDiv int int" => ((k_here; k_dflt ((refine floordiv_int ?kb ?_ (Or.inl (Sm.py ?kp))); (case kb => first | assumption | exact Nz.ne (by assumption) | omega | exact PowNz.ok (by assumption) _); (case kp => first | assumption | exact PowSm.ok (by assumption) _ (by omega)))))
  k_with "exec Raise some none" => ((exfalso; omega))
  k_with "call ref" => ((k_here; k_extra "my call"))
  k_with "my call" => (first | (k_dflt (refine' use_L (zadd_c _ _ _ _ _ _ _ _ _ _ ?p0 ?p1 ?p2 ?p3) ?kB ?kF ?kX ?kN ?kT ?kK ?kd ?ku ?kP ?kb ?_; (case kP => (first | exact trivial | (first | exact isl (by assumption) (by k_mem) | is_list) | (refine And.intro ?_ ?_ <;> (first | exact isl (by assumption) (by k_mem) | is_list)))); (case p0 => first | assumption | exact .nil | exact .cons _ _ .nil | exact .cons _ _ (.cons _ _ .nil) | exact .cons _ _ (.cons _ _ (.cons _ _ .nil)) | l_ints); (case p1 => first | assumption | exact Nat.lt_of_lt_of_le (by assumption) (by decide) | l_fit | omega | (simp only [List.length_cons, List.length_nil, List.length_append, List.length_map, List.length_replicate, List.length_reverse, rangeKs_length] at *; omega)); (case p2 => first | assumption | exact .nil | exact .cons _ _ .nil | exact .cons _ _ (.cons _ _ .nil) | exact .cons _ _ (.cons _ _ (.cons _ _ .nil)) | l_ints); (case p3 => first | assumption | exact Nat.lt_of_lt_of_le (by assumption) (by decide) | l_fit | omega | (simp only [List.length_cons, List.length_nil, List.length_append, List.length_map, List.length_replicate, List.length_reverse, rangeKs_length] at *; omega)); (case kb => exact zaddP_len _ _); (case kB => k_asm); (case kF => k_asm); (case kX => k_asm); (case kN => k_asm); (case kT => k_asm); (case kK => first | exact rfl | assumption); (case kd => first | exact roomK (by assumption) (by decide) | ((try simp only [depth_under_make, depth_under_kw, depth_in1, depth_deeper, depth_caller]); (try dsimp only [ktrTop]); first | exact roomK (by assumption) (by decide) | exact roomG rfl (by decide)) | ktr_room); (case ku => first | ((try simp only [units_in1, units_deeper, Around.mark_units, units_caller]); (try dsimp only [ktrTop]); first | exact unitsK (by assumption) (by decide) | exact unitsK64 (by assumption) (by decide) | exact unitsG rfl (by decide) | exact unitsG64 rfl) | ktr_units); intro l9 ys9 n9 h9 tk9 F9 N9 ne9 hi9 hb9; (have no9 := ne9); (clear ne9); (try dsimp only); (try k_sweep); (try k_fold))) | (k_dflt (refine' use_L (zneg_c _ _ _ _ _ _ _ ?p0 ?p1) ?kB ?kF ?kX ?kN ?kT ?kK ?kd ?ku ?kP ?kb ?_; (case kP => (first | exact trivial | (first | exact isl (by assumption) (by k_mem) | is_list) | (refine And.intro ?_ ?_ <;> (first | exact isl (by assumption) (by k_mem) | is_list)))); (case p0 => first | assumption | exact .nil | exact .cons _ _ .nil | exact .cons _ _ (.cons _ _ .nil) | exact .cons _ _ (.cons _ _ (.cons _ _ .nil)) | l_ints); (case p1 => first | assumption | exact Nat.lt_of_lt_of_le (by assumption) (by decide) | l_fit | omega | (simp only [List.length_cons, List.length_nil, List.length_append, List.length_map, List.length_replicate, List.length_reverse, rangeKs_length] at *; omega)); (case kb => exact znegP_len _); (case kB => k_asm); (case kF => k_asm); (case kX => k_asm); (case kN => k_asm); (case kT => k_asm); (case kK => first | exact rfl | assumption); (case kd => first | exact roomK (by assumption) (by decide) | ((try simp only [depth_under_make, depth_under_kw, depth_in1, depth_deeper, depth_caller]); (try dsimp only [ktrTop]); first | exact roomK (by assumption) (by decide) | exact roomG rfl (by decide)) | ktr_room); (case ku => first | ((try simp only [units_in1, units_deeper, Around.mark_units, units_caller]); (try dsimp only [ktrTop]); first | exact unitsK (by assumption) (by decide) | exact unitsK64 (by assumption) (by decide) | exact unitsG rfl (by decide) | exact unitsG64 rfl) | ktr_units); intro l9 ys9 n9 h9 tk9 F9 N9 ne9 hi9 hb9; (have no9 := ne9); (clear ne9); (try dsimp only); (try k_sweep); (try k_fold))) | (k_dflt (refine' use_I (gcd_all_c _ _ _ _ _ _ _ ?p0 ?p1) ?kB ?kF ?kX ?kN ?kT ?kK ?kd ?ku ?kP ?_; (case kP => (first | exact trivial | (first | exact isl (by assumption) (by k_mem) | is_list) | (refine And.intro ?_ ?_ <;> (first | exact isl (by assumption) (by k_mem) | is_list)))); (case p0 => first | assumption | exact .nil | exact .cons _ _ .nil | exact .cons _ _ (.cons _ _ .nil) | exact .cons _ _ (.cons _ _ (.cons _ _ .nil)) | l_ints); (case p1 => first | assumption | exact Nat.lt_of_lt_of_le (by assumption) (by decide) | l_fit | omega | (simp only [List.length_cons, List.length_nil, List.length_append, List.length_map, List.length_replicate, List.length_reverse, rangeKs_length] at *; omega)); (case kB => k_asm); (case kF => k_asm); (case kX => k_asm); (case kN => k_asm); (case kT => k_asm); (case kK => first | exact rfl | assumption); (case kd => first | exact roomK (by assumption) (by decide) | ((try simp only [depth_under_make, depth_under_kw, depth_in1, depth_deeper, depth_caller]); (try dsimp only [ktrTop]); first | exact roomK (by assumption) (by decide) | exact roomG rfl (by decide)) | ktr_room); (case ku => first | ((try simp only [units_in1, units_deeper, Around.mark_units, units_caller]); (try dsimp only [ktrTop]); first | exact unitsK (by assumption) (by decide) | exact unitsK64 (by assumption) (by decide) | exact unitsG rfl (by decide) | exact unitsG64 rfl) | ktr_units); intro t9 h9 tk9 F9 N9; (try dsimp only); (try k_sweep); (try k_fold))))
  k_fill
  unfold Tell
  intro dp un gd cn cs a ccd cl outer A₀ base h₀ L m s Q E B F X T hk hd hu hP hret
  refine wpAny_call ?_
  refine' code_defG (news := []) ?k1 ?k2 ?k3 (fun _ h => nomatch h) ?k5 ?kA ?kF ?kK ?k6 ?k7 ?k8 ?k9 ?kB ?_ ?c2 ?c3 ?c4 ?c5
  case kA => exact rfl
  case kF => exact rfl
  case kK => assumption
  case k1 => k_asm
  case k2 => k_asm
  case k3 => k_asm
  case k5 => k_asm
  case k6 => k_dflt k_is
  case k7 => k_dflt k_is
  case k8 => first | exact room0 (by assumption) | ((try simp only [depth_under_make, depth_under_kw, depth_in1, depth_deeper, depth_caller]); (try dsimp only [ktrTop]); exact room0 (by assumption)) | ktr_room
  case k9 => exact BindsTo.of_eq rfl
  case c5 => decide
  case kB => exact locs rfl
  case c2 => exact rfl
  case c3 => exact rfl
  case c4 => exact rfl
  intro g' L' h' FG' F' N' B' X' T' G'
  clear B F X T
  try dsimp only
  try k_fold
  have hP' := lift_list G' hP
  k_steps
  all_goals ((try dsimp only); (try (k_unfold; try dsimp only)); (try (k_unfold; try dsimp only)))
  exact leaveI hret (by assumption) (by assumption) (by assumption) rfl
theorem zsub_c (w : World) (mean : ExcName → Option Value) (mg mb : Str → Option Value) (l1 l2 : Addr) (vs1 vs2 : List Value) (ns1 ns2 : List Int) (hi1 : IntsAre vs1 ns1) (hl1 : ns1.length < 2 ^ 20) (hi2 : IntsAre vs2 ns2) (hl2 : ns2.length < 2 ^ 20):
    Tell PySem.Challenge.rw_sa0099_01.row.prog w (Mine.hd.heap_39 w.params) Mine.hd.view_39 (looseW Mine.hd.view_39 []) mean mg mb 86 [.ref l1, .ref l2] 3 (fun h => h.IsList l1 vs1.toArray ∧ h.IsList l2 vs2.toArray) (RetL (zsubP ns1 ns2)) := by
  k_with_none
  k_with "my w1" => ((k_here; (with_reducible show wpAny _ _ (exec (Stmt.While _ _ _ _) _) _ _ _); k_extra "my while"))
  k_with "my w1" => ((k_here; (with_reducible show wpAny _ _ (exec (Stmt.For _ _ _ _ _) _) _ _ _); k_extra "my for"))
  k_with "pyIter ref" => ((k_here; k_extra "my iter"))
  k_with "call type:enumerate" => ((k_here; k_extra "my enum"))
  k_with "my fits" => (first | exact MulAll.ok (by assumption) _ (by assumption) | exact Sm.mulR (by assumption) | exact Sm.mulL (by assumption) | exact Sm.mulR (SmL.at (by assumption) (by assumption)) | exact Sm.mulL (SmL.at (by assumption) (by assumption)))
  k_with "binaryOp FloorDiv int int" => ((k_here; k_dflt ((refine floordiv_int ?kb ?_ (Or.inl (Sm.py ?kp))); (case kb => first | assumption | exact Nz.ne (by assumption) | omega | exact PowNz.ok (by assumption) _); (case kp => first | assumption | exact PowSm.ok (by assumption) _ (by omega)))))
  k_with "exec Raise some none" => ((exfalso; omega))
  k_with "call ref" => ((k_here; k_extra "my call"))
  k_with "my call" => (first | (k_dflt (refine' use_L (zadd_c _ _ _ _ _ _ _ _ _ _ ?p0 ?p1 ?p2 ?p3) ?kB ?kF ?kX ?kN ?kT ?kK ?kd ?ku ?kP ?kb ?_; (case kP => (first | exact trivial | (first | exact isl (by assumption) (by k_mem) | is_list) | (refine And.intro ?_ ?_ <;> (first | exact isl (by assumption) (by k_mem) | is_list)))); (case p0 => first | assumption | exact .nil | exact .cons _ _ .nil | exact .cons _ _ (.cons _ _ .nil) | exact .cons _ _ (.cons _ _ (.cons _ _ .nil)) | l_ints); (case p1 => first | assumption | exact Nat.lt_of_lt_of_le (by assumption) (by decide) | l_fit | omega | (simp only [List.length_cons, List.length_nil, List.length_append, List.length_map, List.length_replicate, List.length_reverse, rangeKs_length] at *; omega)); (case p2 => first | assumption | exact .nil | exact .cons _ _ .nil | exact .cons _ _ (.cons _ _ .nil) | exact .cons _ _ (.cons _ _ (.cons _ _ .nil)) | l_ints); (case p3 => first | assumption | exact Nat.lt_of_lt_of_le (by assumption) (by decide) | l_fit | omega | (simp only [List.length_cons, List.length_nil, List.length_append, List.length_map, List.length_replicate, List.length_reverse, rangeKs_length] at *; omega)); (case kb => exact zaddP_len _ _); (case kB => k_asm); (case kF => k_asm); (case kX => k_asm); (case kN => k_asm); (case kT => k_asm); (case kK => first | exact rfl | assumption); (case kd => first | exact roomK (by assumption) (by decide) | ((try simp only [depth_under_make, depth_under_kw, depth_in1, depth_deeper, depth_caller]); (try dsimp only [ktrTop]); first | exact roomK (by assumption) (by decide) | exact roomG rfl (by decide)) | ktr_room); (case ku => first | ((try simp only [units_in1, units_deeper, Around.mark_units, units_caller]); (try dsimp only [ktrTop]); first | exact unitsK (by assumption) (by decide) | exact unitsK64 (by assumption) (by decide) | exact unitsG rfl (by decide) | exact unitsG64 rfl) | ktr_units); intro l9 ys9 n9 h9 tk9 F9 N9 ne9 hi9 hb9; (have no9 := ne9); (clear ne9); (try dsimp only); (try k_sweep); (try k_fold))) | (k_dflt (refine' use_L (zneg_c _ _ _ _ _ _ _ ?p0 ?p1) ?kB ?kF ?kX ?kN ?kT ?kK ?kd ?ku ?kP ?kb ?_; (case kP => (first | exact trivial | (first | exact isl (by assumption) (by k_mem) | is_list) | (refine And.intro ?_ ?_ <;> (first | exact isl (by assumption) (by k_mem) | is_list)))); (case p0 => first | assumption | exact .nil | exact .cons _ _ .nil | exact .cons _ _ (.cons _ _ .nil) | exact .cons _ _ (.cons _ _ (.cons _ _ .nil)) | l_ints); (case p1 => first | assumption | exact Nat.lt_of_lt_of_le (by assumption) (by decide) | l_fit | omega | (simp only [List.length_cons, List.length_nil, List.length_append, List.length_map, List.length_replicate, List.length_reverse, rangeKs_length] at *; omega)); (case kb => exact znegP_len _); (case kB => k_asm); (case kF => k_asm); (case kX => k_asm); (case kN => k_asm); (case kT => k_asm); (case kK => first | exact rfl | assumption); (case kd => first | exact roomK (by assumption) (by decide) | ((try simp only [depth_under_make, depth_under_kw, depth_in1, depth_deeper, depth_caller]); (try dsimp only [ktrTop]); first | exact roomK (by assumption) (by decide) | exact roomG rfl (by decide)) | ktr_room); (case ku => first | ((try simp only [units_in1, units_deeper, Around.mark_units, units_caller]); (try dsimp only [ktrTop]); first | exact unitsK (by assumption) (by decide) | exact unitsK64 (by assumption) (by decide) | exact unitsG rfl (by decide) | exact unitsG64 rfl) | ktr_units); intro l9 ys9 n9 h9 tk9 F9 N9 ne9 hi9 hb9; (have no9 := ne9); (clear ne9); (try dsimp only); (try k_sweep); (try k_fold))) | (k_dflt (refine' use_I (gcd_all_c _ _ _ _ _ _ _ ?p0 ?p1) ?kB ?kF ?kX ?kN ?kT ?kK ?kd ?ku ?kP ?_; (case kP => (first | exact trivial | (first | exact isl (by assumption) (by k_mem) | is_list) | (refine And.intro ?_ ?_ <;> (first | exact isl (by assumption) (by k_mem) | is_list)))); (case p0 => first | assumption | exact .nil | exact .cons _ _ .nil | exact .cons _ _ (.cons _ _ .nil) | exact .cons _ _ (.cons _ _ (.cons _ _ .nil)) | l_ints); (case p1 => first | assumption | exact Nat.lt_of_lt_of_le (by assumption) (by decide) | l_fit | omega | (simp only [List.length_cons, List.length_nil, List.length_append, List.length_map, List.length_replicate, List.length_reverse, rangeKs_length] at *; omega)); (case kB => k_asm); (case kF => k_asm); (case kX => k_asm); (case kN => k_asm); (case kT => k_asm); (case kK => first | exact rfl | assumption); (case kd => first | exact roomK (by assumption) (by decide) | ((try simp only [depth_under_make, depth_under_kw, depth_in1, depth_deeper, depth_caller]); (try dsimp only [ktrTop]); first | exact roomK (by assumption) (by decide) | exact roomG rfl (by decide)) | ktr_room); (case ku => first | ((try simp only [units_in1, units_deeper, Around.mark_units, units_caller]); (try dsimp only [ktrTop]); first | exact unitsK (by assumption) (by decide) | exact unitsK64 (by assumption) (by decide) | exact unitsG rfl (by decide) | exact unitsG64 rfl) | ktr_units); intro t9 h9 tk9 F9 N9; (try dsimp only); (try k_sweep); (try k_fold))))
  k_fill
  unfold Tell
  intro dp un gd cn cs a ccd cl outer A₀ base h₀ L m s Q E B F X T hk hd hu hP hret
  refine wpAny_call ?_
  refine' code_defG (news := []) ?k1 ?k2 ?k3 (fun _ h => nomatch h) ?k5 ?kA ?kF ?kK ?k6 ?k7 ?k8 ?k9 ?kB ?_ ?c2 ?c3 ?c4 ?c5
  case kA => exact rfl
  case kF => exact rfl
  case kK => assumption
  case k1 => k_asm
  case k2 => k_asm
  case k3 => k_asm
  case k5 => k_asm
  case k6 => k_dflt k_is
  case k7 => k_dflt k_is
  case k8 => first | exact room0 (by assumption) | ((try simp only [depth_under_make, depth_under_kw, depth_in1, depth_deeper, depth_caller]); (try dsimp only [ktrTop]); exact room0 (by assumption)) | ktr_room
  case k9 => exact BindsTo.of_eq rfl
  case c5 => decide
  case kB => exact locs rfl
  case c2 => exact rfl
  case c3 => exact rfl
  case c4 => exact rfl
  intro g' L' h' FG' F' N' B' X' T' G'
  clear B F X T
  try dsimp only
  try k_fold
  obtain ⟨hP1, hP2⟩ := hP
  have hP1' := lift_list G' hP1
  have hP2' := lift_list G' hP2
  k_steps
  all_goals ((try dsimp only); (try (k_unfold; try dsimp only)); (try (k_unfold; try dsimp only)))
  exact leaveL hret (by assumption) (by assumption) (by assumption) (.head _) (by assumption) rfl
theorem divided_c (w : World) (mean : ExcName → Option Value) (mg mb : Str → Option Value) (l : Addr) (vs : List Value) (ns : List Int) (k : Int) (t : Tok) (hi : IntsAre vs ns) (hl : ns.length < 2 ^ 20) (h0 : k ≠ 0) (hs : Sm k) :
    Tell PySem.Challenge.rw_sa0099_01.row.prog w (Mine.hd.heap_39 w.params) Mine.hd.view_39 (looseW Mine.hd.view_39 []) mean mg mb 138 [.ref l, .int k t] 1 (fun h => h.IsList l vs.toArray) (RetL (dividedP ns k)) := by
  k_with_none
  k_with "my w1" => ((k_here; (with_reducible show wpAny _ _ (exec (Stmt.While _ _ _ _) _) _ _ _); k_extra "my while"))
  k_with "my w1" => ((k_here; (with_reducible show wpAny _ _ (exec (Stmt.For _ _ _ _ _) _) _ _ _); k_extra "my for"))
  k_with "pyIter ref" => ((k_here; k_extra "my iter"))
  k_with "call type:enumerate" => ((k_here; k_extra "my enum"))
  k_with "my fits" => (first | exact MulAll.ok (by assumption) _ (by assumption) | exact Sm.mulR (by assumption) | exact Sm.mulL (by assumption) | exact Sm.mulR (SmL.at (by assumption) (by assumption)) | exact Sm.mulL (SmL.at (by assumption) (by assumption)))
  k_with "binaryOp FloorDiv int int" => ((k_here; k_dflt ((refine floordiv_int ?kb ?_ (Or.inl (Sm.py ?kp))); (case kb => first | assumption | exact Nz.ne (by assumption) | omega | exact PowNz.ok (by assumption) _); (case kp => first | assumption | exact PowSm.ok (by assumption) _ (by omega)))))
  k_with "exec Raise some none" => ((exfalso; omega))
  k_with "call ref" => ((k_here; k_extra "my call"))
  k_with "my call" => (first | (k_dflt (refine' use_L (zadd_c _ _ _ _ _ _ _ _ _ _ ?p0 ?p1 ?p2 ?p3) ?kB ?kF ?kX ?kN ?kT ?kK ?kd ?ku ?kP ?kb ?_; (case kP => (first | exact trivial | (first | exact isl (by assumption) (by k_mem) | is_list) | (refine And.intro ?_ ?_ <;> (first | exact isl (by assumption) (by k_mem) | is_list)))); (case p0 => first | assumption | exact .nil | exact .cons _ _ .nil | exact .cons _ _ (.cons _ _ .nil) | exact .cons _ _ (.cons _ _ (.cons _ _ .nil)) | l_ints); (case p1 => first | assumption | exact Nat.lt_of_lt_of_le (by assumption) (by decide) | l_fit | omega | (simp only [List.length_cons, List.length_nil, List.length_append, List.length_map, List.length_replicate, List.length_reverse, rangeKs_length] at *; omega)); (case p2 => first | assumption | exact .nil | exact .cons _ _ .nil | exact .cons _ _ (.cons _ _ .nil) | exact .cons _ _ (.cons _ _ (.cons _ _ .nil)) | l_ints); (case p3 => first | assumption | exact Nat.lt_of_lt_of_le (by assumption) (by decide) | l_fit | omega | (simp only [List.length_cons, List.length_nil, List.length_append, List.length_map, List.length_replicate, List.length_reverse, rangeKs_length] at *; omega)); (case kb => exact zaddP_len _ _); (case kB => k_asm); (case kF => k_asm); (case kX => k_asm); (case kN => k_asm); (case kT => k_asm); (case kK => first | exact rfl | assumption); (case kd => first | exact roomK (by assumption) (by decide) | ((try simp only [depth_under_make, depth_under_kw, depth_in1, depth_deeper, depth_caller]); (try dsimp only [ktrTop]); first | exact roomK (by assumption) (by decide) | exact roomG rfl (by decide)) | ktr_room); (case ku => first | ((try simp only [units_in1, units_deeper, Around.mark_units, units_caller]); (try dsimp only [ktrTop]); first | exact unitsK (by assumption) (by decide) | exact unitsK64 (by assumption) (by decide) | exact unitsG rfl (by decide) | exact unitsG64 rfl) | ktr_units); intro l9 ys9 n9 h9 tk9 F9 N9 ne9 hi9 hb9; (have no9 := ne9); (clear ne9); (try dsimp only); (try k_sweep); (try k_fold))) | (k_dflt (refine' use_L (zneg_c _ _ _ _ _ _ _ ?p0 ?p1) ?kB ?kF ?kX ?kN ?kT ?kK ?kd ?ku ?kP ?kb ?_; (case kP => (first | exact trivial | (first | exact isl (by assumption) (by k_mem) | is_list) | (refine And.intro ?_ ?_ <;> (first | exact isl (by assumption) (by k_mem) | is_list)))); (case p0 => first | assumption | exact .nil | exact .cons _ _ .nil | exact .cons _ _ (.cons _ _ .nil) | exact .cons _ _ (.cons _ _ (.cons _ _ .nil)) | l_ints); (case p1 => first | assumption | exact Nat.lt_of_lt_of_le (by assumption) (by decide) | l_fit | omega | (simp only [List.length_cons, List.length_nil, List.length_append, List.length_map, List.length_replicate, List.length_reverse, rangeKs_length] at *; omega)); (case kb => exact znegP_len _); (case kB => k_asm); (case kF => k_asm); (case kX => k_asm); (case kN => k_asm); (case kT => k_asm); (case kK => first | exact rfl | assumption); (case kd => first | exact roomK (by assumption) (by decide) | ((try simp only [depth_under_make, depth_under_kw, depth_in1, depth_deeper, depth_caller]); (try dsimp only [ktrTop]); first | exact roomK (by assumption) (by decide) | exact roomG rfl (by decide)) | ktr_room); (case ku => first | ((try simp only [units_in1, units_deeper, Around.mark_units, units_caller]); (try dsimp only [ktrTop]); first | exact unitsK (by assumption) (by decide) | exact unitsK64 (by assumption) (by decide) | exact unitsG rfl (by decide) | exact unitsG64 rfl) | ktr_units); intro l9 ys9 n9 h9 tk9 F9 N9 ne9 hi9 hb9; (have no9 := ne9); (clear ne9); (try dsimp only); (try k_sweep); (try k_fold))) | (k_dflt (refine' use_I (gcd_all_c _ _ _ _ _ _ _ ?p0 ?p1) ?kB ?kF ?kX ?kN ?kT ?kK ?kd ?ku ?kP ?_; (case kP => (first | exact trivial | (first | exact isl (by assumption) (by k_mem) | is_list) | (refine And.intro ?_ ?_ <;> (first | exact isl (by assumption) (by k_mem) | is_list)))); (case p0 => first | assumption | exact .nil | exact .cons _ _ .nil | exact .cons _ _ (.cons _ _ .nil) | exact .cons _ _ (.cons _ _ (.cons _ _ .nil)) | l_ints); (case p1 => first | assumption | exact Nat.lt_of_lt_of_le (by assumption) (by decide) | l_fit | omega | (simp only [List.length_cons, List.length_nil, List.length_append, List.length_map, List.length_replicate, List.length_reverse, rangeKs_length] at *; omega)); (case kB => k_asm); (case kF => k_asm); (case kX => k_asm); (case kN => k_asm); (case kT => k_asm); (case kK => first | exact rfl | assumption); (case kd => first | exact roomK (by assumption) (by decide) | ((try simp only [depth_under_make, depth_under_kw, depth_in1, depth_deeper, depth_caller]); (try dsimp only [ktrTop]); first | exact roomK (by assumption) (by decide) | exact roomG rfl (by decide)) | ktr_room); (case ku => first | ((try simp only [units_in1, units_deeper, Around.mark_units, units_caller]); (try dsimp only [ktrTop]); first | exact unitsK (by assumption) (by decide) | exact unitsK64 (by assumption) (by decide) | exact unitsG rfl (by decide) | exact unitsG64 rfl) | ktr_units); intro t9 h9 tk9 F9 N9; (try dsimp only); (try k_sweep); (try k_fold))))
  k_fill
  unfold Tell
  intro dp un gd cn cs a ccd cl outer A₀ base h₀ L m s Q E B F X T hk hd hu hP hret
  refine wpAny_call ?_
  refine' enterC ?k1 ?k2 ?k3 ?k5 ?kA ?kF ?kK ?k6 ?k7 ?k8 ?k9 ?kB ?kD ?_ ?c2 ?c3 ?c4
  case kA => exact rfl
  case kF => exact rfl
  case kK => assumption
  case k1 => k_asm
  case k2 => k_asm
  case k3 => k_asm
  case k5 => k_asm
  case k6 => k_dflt k_is
  case k7 => k_dflt k_is
  case k8 => first | exact room0 (by assumption) | ((try simp only [depth_under_make, depth_under_kw, depth_in1, depth_deeper, depth_caller]); (try dsimp only [ktrTop]); exact room0 (by assumption)) | ktr_room
  case k9 => exact BindsTo.of_eq rfl
  case kB => exact rfl
  case kD => decide +kernel
  case c2 => exact rfl
  case c3 => exact rfl
  case c4 => exact rfl
  intro g' L' h' tk' cells' FG' F' N' Y' B' X' T' G'
  k_cells Y'
  clear B F X T
  try dsimp only
  try k_fold
  have hP' := lift_list G' hP
  k_steps
  all_goals ((try dsimp only); (try (k_unfold; try dsimp only)); (try (k_unfold; try dsimp only)))
  exact leaveL hret (by assumption) (by assumption) (by assumption) (.head _) (by assumption) rfl
theorem check_bottom_c (w : World) (mean : ExcName → Option Value) (mg mb : Str → Option Value) (l : Addr) (vs : List Value) (ns : List Int) (hi : IntsAre vs ns) (hl : ns.length < 2 ^ 20) (h0 : 0 < ns.length) :
    Tell PySem.Challenge.rw_sa0099_01.row.prog w (Mine.hd.heap_39 w.params) Mine.hd.view_39 (looseW Mine.hd.view_39 []) mean mg mb 126 [.ref l] 1 (fun h => h.IsList l vs.toArray) RetN := by
  k_with_none
  k_with "my w1" => ((k_here; (with_reducible show wpAny _ _ (exec (Stmt.While _ _ _ _) _) _ _ _); k_extra "my while"))
  k_with "my w1" => ((k_here; (with_reducible show wpAny _ _ (exec (Stmt.For _ _ _ _ _) _) _ _ _); k_extra "my for"))
  k_with "pyIter ref" => ((k_here; k_extra "my iter"))
  k_with "call type:enumerate" => ((k_here; k_extra "my enum"))
  k_with "my fits" => (first | exact MulAll.ok (by assumption) _ (by assumption) | exact Sm.mulR (by assumption) | exact Sm.mulL (by assumption) | exact Sm.mulR (SmL.at (by assumption) (by assumption)) | exact Sm.mulL (SmL.at (by assumption) (by assumption)))
  k_with "binaryOp FloorDiv int int" => ((k_here; k_dflt ((refine floordiv_int ?kb ?_ (Or.inl (Sm.py ?kp))); (case kb => first | assumption | exact Nz.ne (by assumption) | omega | exact PowNz.ok (by assumption) _); (case kp => first | assumption | exact PowSm.ok (by assumption) _ (by omega)))))
  k_with "exec Raise some none" => ((exfalso; omega))
  k_with "call ref" => ((k_here; k_extra "my call"))
  k_with "my call" => (first | (k_dflt (refine' use_L (zadd_c _ _ _ _ _ _ _ _ _ _ ?p0 ?p1 ?p2 ?p3) ?kB ?kF ?kX ?kN ?kT ?kK ?kd ?ku ?kP ?kb ?_; (case kP => (first | exact trivial | (first | exact isl (by assumption) (by k_mem) | is_list) | (refine And.intro ?_ ?_ <;> (first | exact isl (by assumption) (by k_mem) | is_list)))); (case p0 => first | assumption | exact .nil | exact .cons _ _ .nil | exact .cons _ _ (.cons _ _ .nil) | exact .cons _ _ (.cons _ _ (.cons _ _ .nil)) | l_ints); (case p1 => first | assumption | exact Nat.lt_of_lt_of_le (by assumption) (by decide) | l_fit | omega | (simp only [List.length_cons, List.length_nil, List.length_append, List.length_map, List.length_replicate, List.length_reverse, rangeKs_length] at *; omega)); (case p2 => first | assumption | exact .nil | exact .cons _ _ .nil | exact .cons _ _ (.cons _ _ .nil) | exact .cons _ _ (.cons _ _ (.cons _ _ .nil)) | l_ints); (case p3 => first | assumption | exact Nat.lt_of_lt_of_le (by assumption) (by decide) | l_fit | omega | (simp only [List.length_cons, List.length_nil, List.length_append, List.length_map, List.length_replicate, List.length_reverse, rangeKs_length] at *; omega)); (case kb => exact zaddP_len _ _); (case kB => k_asm); (case kF => k_asm); (case kX => k_asm); (case kN => k_asm); (case kT => k_asm); (case kK => first | exact rfl | assumption); (case kd => first | exact roomK (by assumption) (by decide) | ((try simp only [depth_under_make, depth_under_kw, depth_in1, depth_deeper, depth_caller]); (try dsimp only [ktrTop]); first | exact roomK (by assumption) (by decide) | exact roomG rfl (by decide)) | ktr_room); (case ku => first | ((try simp only [units_in1, units_deeper, Around.mark_units, units_caller]); (try dsimp only [ktrTop]); first | exact unitsK (by assumption) (by decide) | exact unitsK64 (by assumption) (by decide) | exact unitsG rfl (by decide) | exact unitsG64 rfl) | ktr_units); intro l9 ys9 n9 h9 tk9 F9 N9 ne9 hi9 hb9; (have no9 := ne9); (clear ne9); (try dsimp only); (try k_sweep); (try k_fold))) | (k_dflt (refine' use_L (zneg_c _ _ _ _ _ _ _ ?p0 ?p1) ?kB ?kF ?kX ?kN ?kT ?kK ?kd ?ku ?kP ?kb ?_; (case kP => (first | exact trivial | (first | exact isl (by assumption) (by k_mem) | is_list) | (refine And.intro ?_ ?_ <;> (first | exact isl (by assumption) (by k_mem) | is_list)))); (case p0 => first | assumption | exact .nil | exact .cons _ _ .nil | exact .cons _ _ (.cons _ _ .nil) | exact .cons _ _ (.cons _ _ (.cons _ _ .nil)) | l_ints); (case p1 => first | assumption | exact Nat.lt_of_lt_of_le (by assumption) (by decide) | l_fit | omega | (simp only [List.length_cons, List.length_nil, List.length_append, List.length_map, List.length_replicate, List.length_reverse, rangeKs_length] at *; omega)); (case kb => exact znegP_len _); (case kB => k_asm); (case kF => k_asm); (case kX => k_asm); (case kN => k_asm); (case kT => k_asm); (case kK => first | exact rfl | assumption); (case kd => first | exact roomK (by assumption) (by decide) | ((try simp only [depth_under_make, depth_under_kw, depth_in1, depth_deeper, depth_caller]); (try dsimp only [ktrTop]); first | exact roomK (by assumption) (by decide) | exact roomG rfl (by decide)) | ktr_room); (case ku => first | ((try simp only [units_in1, units_deeper, Around.mark_units, units_caller]); (try dsimp only [ktrTop]); first | exact unitsK (by assumption) (by decide) | exact unitsK64 (by assumption) (by decide) | exact unitsG rfl (by decide) | exact unitsG64 rfl) | ktr_units); intro l9 ys9 n9 h9 tk9 F9 N9 ne9 hi9 hb9; (have no9 := ne9); (clear ne9); (try dsimp only); (try k_sweep); (try k_fold))) | (k_dflt (refine' use_I (gcd_all_c _ _ _ _ _ _ _ ?p0 ?p1) ?kB ?kF ?kX ?kN ?kT ?kK ?kd ?ku ?kP ?_; (case kP => (first | exact trivial | (first | exact isl (by assumption) (by k_mem) | is_list) | (refine And.intro ?_ ?_ <;> (first | exact isl (by assumption) (by k_mem) | is_list)))); (case p0 => first | assumption | exact .nil | exact .cons _ _ .nil | exact .cons _ _ (.cons _ _ .nil) | exact .cons _ _ (.cons _ _ (.cons _ _ .nil)) | l_ints); (case p1 => first | assumption | exact Nat.lt_of_lt_of_le (by assumption) (by decide) | l_fit | omega | (simp only [List.length_cons, List.length_nil, List.length_append, List.length_map, List.length_replicate, List.length_reverse, rangeKs_length] at *; omega)); (case kB => k_asm); (case kF => k_asm); (case kX => k_asm); (case kN => k_asm); (case kT => k_asm); (case kK => first | exact rfl | assumption); (case kd => first | exact roomK (by assumption) (by decide) | ((try simp only [depth_under_make, depth_under_kw, depth_in1, depth_deeper, depth_caller]); (try dsimp only [ktrTop]); first | exact roomK (by assumption) (by decide) | exact roomG rfl (by decide)) | ktr_room); (case ku => first | ((try simp only [units_in1, units_deeper, Around.mark_units, units_caller]); (try dsimp only [ktrTop]); first | exact unitsK (by assumption) (by decide) | exact unitsK64 (by assumption) (by decide) | exact unitsG rfl (by decide) | exact unitsG64 rfl) | ktr_units); intro t9 h9 tk9 F9 N9; (try dsimp only); (try k_sweep); (try k_fold))))
  k_fill
  unfold Tell
  intro dp un gd cn cs a ccd cl outer A₀ base h₀ L m s Q E B F X T hk hd hu hP hret
  refine wpAny_call ?_
  refine' code_defG (news := []) ?k1 ?k2 ?k3 (fun _ h => nomatch h) ?k5 ?kA ?kF ?kK ?k6 ?k7 ?k8 ?k9 ?kB ?_ ?c2 ?c3 ?c4 ?c5
  case kA => exact rfl
  case kF => exact rfl
  case kK => assumption
  case k1 => k_asm
  case k2 => k_asm
  case k3 => k_asm
  case k5 => k_asm
  case k6 => k_dflt k_is
  case k7 => k_dflt k_is
  case k8 => first | exact room0 (by assumption) | ((try simp only [depth_under_make, depth_under_kw, depth_in1, depth_deeper, depth_caller]); (try dsimp only [ktrTop]); exact room0 (by assumption)) | ktr_room
  case k9 => exact BindsTo.of_eq rfl
  case c5 => decide
  case kB => exact locs rfl
  case c2 => exact rfl
  case c3 => exact rfl
  case c4 => exact rfl
  intro g' L' h' FG' F' N' B' X' T' G'
  clear B F X T
  try dsimp only
  try k_fold
  have hP' := lift_list G' hP
  k_steps
  all_goals ((try dsimp only); (try (k_unfold; try dsimp only)); (try (k_unfold; try dsimp only)))
  exact leaveN hret (by assumption) (by assumption) (by assumption)
end
section
open PySem PySem.W PyProof.Rows PySem.Spec PySem.Calls
set_option maxRecDepth 100000
set_option maxHeartbeats 8000000
/-- what a for loop draws from, and how its target takes an item -/
structure Itr (prog : Program) (w : World) (A : Around) (env : Env) (target : PySem.Expr) (I : Addr) (fp wr : List Addr) (n : Nat) (PV : Nat → Sem Unit → Prop) (St : Nat → Heap → Prop) : Prop where
  sub : ∀ b ∈ wr, b ∈ fp
  frame : ∀ i h h', St i h → (∀ b ∈ fp, ∀ o, h.get? b = some o → h'.get? b = some o) → St i h'
  live : ∀ i h, St i h → ∀ b ∈ fp, ∃ o, h.get? b = some o
  item : ∀ i (s : Shared) (Q : Unit → Shared → Prop) (E : Value → Shared → Prop), i < n → St i s.heap →
    (∀ asg h' tk, PV i asg → St (i + 1) h' → (∀ b o, b ∉ wr → s.heap.get? b = some o → h'.get? b = some o) → wpAny (model prog w) A asg Q E { s with heap := h', toks := tk }) →
    wpAny (model prog w) A (pyNext (.ref I)) (fun r s₁ => match r with
      | none => False
      | some v => wpAny (model prog w) A (letOwnedTupleGo target (.ref I) v) (fun _ s₁' => wpAny (model prog w) A (assign target env v) Q E s₁') E s₁) E s
  done : ∀ (s : Shared) (Q : Option Value → Shared → Prop) (E : Value → Shared → Prop), St n s.heap →
    (∀ h' tk, (∀ b o, b ∉ wr → s.heap.get? b = some o → h'.get? b = some o) → Q none { s with heap := h', toks := tk }) → wpAny (model prog w) A (pyNext (.ref I)) Q E s
theorem Itr.ofWalks {prog : Program} {w : World} {A : Around} {env : Env} {x : Str} {px : Pos} {I : Addr} {fp wr : List Addr} {n : Nat} {P : Nat → Value → Prop} {St : Nat → Heap → Prop}
    (W : Walks prog w A I fp wr n P St) (live : ∀ i h, St i h → ∀ b ∈ fp, ∃ o, h.get? b = some o) :
    Itr prog w A env (.Name x px) I fp wr n (fun i asg => ∃ v, P i v ∧ asg = assign (.Name x px) env v) St where
  sub := W.sub
  frame := W.frame
  live := live
  item := fun i s Q E hi st h => W.item i s _ E hi st fun v h' tk hP hst hk => wpAny_of_eq (a := ()) rfl (h _ h' tk ⟨v, hP, rfl⟩ hst hk)
  done := W.done
theorem Itr.ofWalksT {prog : Program} {w : World} {A : Around} {env : Env} {elts : List PySem.Expr} {k : Nat} {pos : Pos} {I : Addr} {fp wr : List Addr} {n : Nat} {Pt : Nat → Array Value → Prop} {St : Nat → Heap → Prop} {Mid : Nat → Addr → Heap → Prop}
    (hh : A.handled = none) (W : WalksT prog w A I fp wr n Pt St Mid) (live : ∀ i h, St i h → ∀ b ∈ fp, ∃ o, h.get? b = some o)
    (hn : ∀ i vals, Pt i vals → (assignEach elts env).length = vals.size) (hstar : (assignEach elts env).findIdx? (·.1) = none) :
    Itr prog w A env (.Tuple elts k pos) I fp wr n (fun i asg => ∃ vals, Pt i vals ∧ asg = assignInOrder ((assignEach elts env).map (·.2)) vals.toList) St where
  sub := W.sub
  frame := W.frame
  live := live
  item := fun i s Q E hi st h => W.item i s _ E hi st fun T vals h₁ tk₁ hP _ hT hMid hk₁ => by
    refine W.go elts k pos i T _ _ _ hMid fun h₂ hst₂ hk₂ => ?_
    have ht₂ : h₂.IsTuple T vals := hT.at fun o e => hk₂ T o (W.apart i T h₁ hMid) e
    refine wpAny_assign_Tuple hh ht₂ (hn i vals hP) hstar fun h₃ hx₃ => ?_
    have up : ∀ b o, h₂.get? b = some o → h₃.get? b = some o := fun b o x => hx₃ b o (Nat.ne_of_lt (Heap.lt_size x)) x
    exact h _ h₃ tk₁ ⟨vals, hP, rfl⟩ (W.frame _ _ _ hst₂ fun b _ o e => up b o e) fun b o hb e => up b o (hk₂ b o hb (hk₁ b o hb e))
  done := W.done
/-- a turn's end: the state c' stands on the ledger, the iterator's own objects are kept -/
noncomputable def LpEnd {σ : Type} (h₀ : Heap) (L : Addr) (s : Shared) (Led : σ → List (Addr × Obj)) (ps : σ → List (Str × Value)) (Facts : σ → Prop) (stored : List Str) (m₀ : Str → Option Value) (own : List (Addr × Obj)) (P : σ → Prop) (s₂ : Shared) : Prop :=
  ∃ (c' : σ) (h' : Heap) (tk : Nat) (m' : Str → Option Value) (news' : List (Addr × Obj)), s₂ = { s with heap := h', toks := tk } ∧ Fr h₀ L h' m' ∧ News h₀ L h' news' ∧ (∀ p ∈ Led c', p ∈ news') ∧ (∀ p ∈ own, p ∈ news') ∧ (∀ p ∈ own, ∀ q ∈ Led c', p.1 ≠ q.1) ∧ Facts c' ∧
    (∀ p ∈ ps c', m' p.1 = some p.2) ∧ (∀ z, (∀ p ∈ ps c', z ≠ p.1) → stored.contains z = false → m' z = m₀ z) ∧ P c'
noncomputable def LpPost {σ : Type} (h₀ : Heap) (L : Addr) (s : Shared) (Led : σ → List (Addr × Obj)) (ps : σ → List (Str × Value)) (Facts : σ → Prop) (stored : List Str) (m₀ : Str → Option Value) (own : List (Addr × Obj)) (P : σ → Prop) (Q : Flow → Shared → Prop) (f : Flow) (s₂ : Shared) : Prop :=
  match f with
  | .ret v => Q (.ret v) s₂
  | .brk => Q .next s₂
  | _ => LpEnd h₀ L s Led ps Facts stored m₀ own P s₂
section
variable {prog : Program} {w : World} {A : Around} {E : Value → Shared → Prop} {s : Shared} {env : Env} {h₀ : Heap} {L : Addr} {target : PySem.Expr} {body : List Stmt} {Q : Flow → Shared → Prop}
theorem lp_end {σ : Type} {Led : σ → List (Addr × Obj)} {ps : σ → List (Str × Value)} {Facts : σ → Prop} {stored : List Str} {m₀ m' : Str → Option Value} {own news' : List (Addr × Obj)} {P : σ → Prop} {h' : Heap} {tk : Nat} (c' : σ)
    (F : Fr h₀ L h' m') (N : News h₀ L h' news') (hn : ∀ p ∈ Led c', p ∈ news') (ho : ∀ p ∈ own, p ∈ news') (hd : ∀ p ∈ own, ∀ q ∈ Led c', p.1 ≠ q.1) (hf : Facts c') (hk : ∀ p ∈ ps c', m' p.1 = some p.2)
    (hr : ∀ z, (∀ p ∈ ps c', z ≠ p.1) → stored.contains z = false → m' z = m₀ z) (hp : P c') : LpEnd h₀ L s Led ps Facts stored m₀ own P { s with heap := h', toks := tk } := ⟨c', h', tk, m', news', rfl, F, N, hn, ho, hd, hf, hk, hr, hp⟩
theorem lp_code {σ : Type} {I : Addr} {fp wr : List Addr} {n : Nat} {PV : Nat → Sem Unit → Prop} {St : Nat → Heap → Prop} {m₀ : Str → Option Value} (T : Itr prog w A env target I fp wr n PV St)
    (Led : σ → List (Addr × Obj)) (ps : σ → List (Str × Value)) (Facts : σ → Prop) (stored : List Str) (P : Nat → σ → Prop) (c₀ : σ)
    (hLf : L ∉ fp) (hwr : ∀ b ∈ wr, h₀.get? b = none) (hnw : ∀ p ∈ Led c₀, p.1 ∉ fp) (hst : St 0 s.heap) (F : Fr h₀ L s.heap m₀) (N : News h₀ L s.heap (Led c₀)) (hf : Facts c₀) (hk : ∀ p ∈ ps c₀, m₀ p.1 = some p.2) (hp : P 0 c₀)
    (turn : ∀ i asg (c : σ) (u : Str → Option Value) h tk own, i < n → PV i asg → Facts c → P i c → (∀ p ∈ own, ∀ q ∈ Led c, p.1 ≠ q.1) →
      Fr h₀ L h (kstB (fun z => if stored.contains z then u z else m₀ z) (ps c)) → News h₀ L h (Led c ++ own) →
      wpAny (model prog w) A asg (fun _ s₂ => wpAny (model prog w) A (execs body env) (LpPost h₀ L s Led ps Facts stored m₀ own (P (i + 1)) Q) E s₂) E { s with heap := h, toks := tk })
    (done : ∀ (c : σ) (u : Str → Option Value) h tk, Facts c → P n c → Fr h₀ L h (kstB (fun z => if stored.contains z then u z else m₀ z) (ps c)) → News h₀ L h (Led c) → Q .next { s with heap := h, toks := tk })
    (hE : PassesOwn (model prog w) A env E) :
    codeAny (model prog w) A (.forLoop target (.ref I) body [] env) (fun r s' => match r with | .ok f => Q f s' | .error e => cameBackBy (model prog w) A env E e s') s := by
  have hLw : L ∉ wr := fun x => hLf (T.sub _ x)
  have old : ∀ b o, h₀.get? b = some o → b ∉ wr := fun b o e hb => by rw [hwr b hb] at e; cases e
  refine codeAny_forLoop_any (fun k s' => ∃ (c : σ) (u : Str → Option Value) (h : Heap) (tk i : Nat), s' = { s with heap := h, toks := tk } ∧ St i h ∧ Fr h₀ L h (kstB (fun z => if stored.contains z then u z else m₀ z) (ps c)) ∧ News h₀ L h (Led c) ∧
      (∀ p ∈ Led c, p.1 ∉ fp) ∧ Facts c ∧ P i c ∧ i ≤ n ∧ k = n + 1 - i) ?_ (n + 1) ⟨c₀, m₀, s.heap, s.toks, 0, rfl, hst, ksw_fr hk (fun _ _ _ => rfl) F, N, hnw, hf, hp, Nat.zero_le _, rfl⟩
  rintro k s' ⟨c, u, h, tk, i, rfl, hst', F', N', hnw', hf', hp', hi, rfl⟩
  have keepF : ∀ h₁ : Heap, (∀ b o, b ∉ wr → h.get? b = some o → h₁.get? b = some o) → Fr h₀ L h₁ (kstB (fun z => if stored.contains z then u z else m₀ z) (ps c)) ∧ News h₀ L h₁ (Led c) := fun h₁ hk₁ =>
    ⟨⟨F'.ns.at' fun o e => hk₁ _ o hLw e, fun b o e => hk₁ b o (old b o e) (F'.keep b o e), F'.above⟩, fun p hp => ⟨hk₁ _ _ (fun x => hnw' p hp (T.sub _ x)) (N' p hp).1, (N' p hp).2⟩⟩
  by_cases hlt : i < n
  · refine wpAny_mono (T.item i _ (fun _ s₂ => wpAny (model prog w) A (execs body env) (fun f s₃ => match f with
            | .next | .cont => ∃ m, m < n + 1 - i ∧ ∃ (c : σ) (u : Str → Option Value) (h : Heap) (tk i : Nat), s₃ = { s with heap := h, toks := tk } ∧ St i h ∧ Fr h₀ L h (kstB (fun z => if stored.contains z then u z else m₀ z) (ps c)) ∧ News h₀ L h (Led c) ∧
      (∀ p ∈ Led c, p.1 ∉ fp) ∧ Facts c ∧ P i c ∧ i ≤ n ∧ m = n + 1 - i
            | .brk => Q .next s₃
            | .ret v => Q (.ret v) s₃) (notedBy (model prog w) A env (cameBackBy (model prog w) A env E)) s₂) (notedBy (model prog w) A env (cameBackBy (model prog w) A env E)) hlt hst' fun asg h₁ tk₁ hPV hst₁ hk₁ => ?_) (fun r s₁ hr => ?_) fun _ _ x => x
    · obtain ⟨F₁, N₁⟩ := keepF h₁ hk₁
      have Nown : News h₀ L h₁ (ownOf h₀ fp h₁) := news_ownOf hLf
      have hd : ∀ p ∈ ownOf h₀ fp h₁, ∀ q ∈ Led c, p.1 ≠ q.1 := fun p hp q hq e => hnw' q hq (e ▸ ownOf_sub p hp)
      have t := turn i asg c u h₁ tk₁ (ownOf h₀ fp h₁) hlt hPV hf' hp' hd F₁ (N₁.append Nown)
      refine wpAny_mono (wpAny_passesOwn hE (wpAny_mono t (fun _ s₂ h₂ => wpAny_passesOwn hE h₂) fun _ _ x => x)) (fun _ s₂ h₂ => wpAny_mono h₂ (fun f s₃ h₃ => ?_) fun _ _ x => x) fun _ _ x => x
      have up : LpEnd h₀ L s Led ps Facts stored m₀ (ownOf h₀ fp h₁) (P (i + 1)) s₃ → ∃ m, m < n + 1 - i ∧ ∃ (c : σ) (u : Str → Option Value) (h : Heap) (tk i : Nat), s₃ = { s with heap := h, toks := tk } ∧ St i h ∧ Fr h₀ L h (kstB (fun z => if stored.contains z then u z else m₀ z) (ps c)) ∧ News h₀ L h (Led c) ∧
          (∀ p ∈ Led c, p.1 ∉ fp) ∧ Facts c ∧ P i c ∧ i ≤ n ∧ m = n + 1 - i := by
        rintro ⟨c', h', tk', m', news', rfl, F₃, N₃, hn₃, ho₃, hd₃, hf₃, hk₃, hr₃, hp₃⟩
        refine ⟨n + 1 - (i + 1), by omega, c', m', h', tk', i + 1, rfl, T.frame _ _ _ hst₁ fun b hb o e => ?_, ksw_fr hk₃ hr₃ F₃, fun p hp => N₃ p (hn₃ p hp), fun p hp hb => ?_, hf₃, hp₃, hlt, rfl⟩
        · cases hn : h₀.get? b with
          | some o₀ =>
            have e2 := F₁.keep b o₀ hn
            rw [e] at e2
            cases e2
            exact F₃.keep b o hn
          | none => exact (N₃ _ (ho₃ _ (mem_ownOf hb hn e))).1
        · obtain ⟨o, ho⟩ := T.live _ _ hst₁ _ hb
          exact hd₃ _ (mem_ownOf hb ((N₃ p (hn₃ p hp)).2.2) ho) p hp rfl
      cases f with
      | ret v => exact h₃
      | brk => exact h₃
      | next => exact up h₃
      | cont => exact up h₃
    · cases r with
      | none => exact hr.elim
      | some v => exact hr
  · have hin : i = n := by omega
    subst hin
    refine T.done _ _ _ hst' fun h₁ tk₁ hk₁ => wpAny_execs_nil ?_
    obtain ⟨F₁, N₁⟩ := keepF h₁ hk₁
    exact done c u h₁ tk₁ hf' hp' F₁ N₁
theorem ne_frame {h : Heap} {m : Str → Option Value} {l : Addr} {its : Array Value} (F : Fr h₀ L h m) (hl : h.IsList l its) : L ≠ l := by
  rintro rfl
  obtain ⟨o, es, ep, ho, hd, _⟩ := F.ns
  obtain ⟨o', ho', _, n, hd'⟩ := hl
  rw [ho] at ho'; cases ho'
  rw [hd] at hd'; cases hd'
section
variable {σ : Type} {x : Str} {px : Pos} {l : Addr} {vs : List Value} {ns : List Int} {m₀ : Str → Option Value}
theorem live_list {I : Addr} {its : Array Value} : ∀ i h, (Heap.IsListIter h I l i ∧ h.IsList l its) → ∀ b ∈ [I, l], ∃ o, h.get? b = some o := by
  rintro i h ⟨⟨o, ho, _⟩, ⟨o', ho', _⟩⟩ b hb
  rcases List.mem_cons.mp hb with rfl | hb
  · exact ⟨o, ho⟩
  · rw [List.mem_singleton.mp hb]; exact ⟨o', ho'⟩
theorem take_next {ns : List Int} {i : Nat} {a : Int} (h : ns[i]? = some a) : ns.take (i + 1) = ns.take i ++ [a] ∧ ns = ns.take i ++ a :: ns.drop (i + 1) := by
  have e1 : ns.take (i + 1) = ns.take i ++ [a] := by rw [List.take_add_one, h]; rfl
  refine ⟨e1, ?_⟩
  have e2 := List.take_append_drop (i + 1) ns
  rw [e1, List.append_assoc] at e2
  exact e2.symm
/-- for x in l: l a list of ints, the frame's own name x -/
theorem lp_list (Led : σ → List (Addr × Obj)) (ps : σ → List (Str × Value)) (Facts : σ → Prop) (stored : List Str) (P : List Int → σ → Prop) (c₀ : σ)
    (hh : A.handled = none) (hL : env.locals = L) (hx : env.kindOf x = some .local) (hpl : (env.scope.kind == .class || (env.scope.kind == .module && env.locals != env.globals)) = false)
    (hl : s.heap.IsList l vs.toArray) (hi : IntsAre vs ns) (hnl : ∀ p ∈ Led c₀, p.1 ≠ l) (F : Fr h₀ L s.heap m₀) (N : News h₀ L s.heap (Led c₀)) (hf : Facts c₀) (hk : ∀ p ∈ ps c₀, m₀ p.1 = some p.2) (hp : P [] c₀)
    (turn : ∀ pre post a t (c : σ) (u : Str → Option Value) h tk own, ns = pre ++ a :: post → Facts c → P pre c → (∀ p ∈ own, ∀ q ∈ Led c, p.1 ≠ q.1) →
      Fr h₀ L h (fun y => if y = x then some (.int a t) else kstB (fun z => if stored.contains z then u z else m₀ z) (ps c) y) → News h₀ L h (Led c ++ own) →
      wpAny (model prog w) A (execs body env) (LpPost h₀ L s Led ps Facts stored m₀ own (P (pre ++ [a])) Q) E { s with heap := h, toks := tk })
    (done : ∀ (c : σ) (u : Str → Option Value) h tk, Facts c → P ns c → Fr h₀ L h (kstB (fun z => if stored.contains z then u z else m₀ z) (ps c)) → News h₀ L h (Led c) → Q .next { s with heap := h, toks := tk })
    (hE : PassesOwn (model prog w) A env E) :
    wpAny (model prog w) A (pyIter (.ref l)) (fun it s₂ => codeAny (model prog w) A (.forLoop (.Name x px) it body [] env) (fun r s' => match r with | .ok f => Q f s' | .error e => cameBackBy (model prog w) A env E e s') s₂) E s := by
  subst hL
  refine wpAny_pyIter_list hl ?_
  have hlen : vs.toArray.size = ns.length := by simp [hi.length]
  have hlt : l < s.heap.objs.size := by obtain ⟨_, e, _⟩ := hl; exact Heap.lt_size e
  refine lp_code (Itr.ofWalks (Walks.list hh s.heap.objs.size l (Nat.ne_of_lt hlt) vs.toArray) live_list) Led ps Facts stored (fun i c => P (ns.take i) c) c₀ ?_ ?_ ?_ ⟨⟨_, Heap.get?_push_size _ rfl, rfl, rfl⟩, hl.at fun o e => Heap.get?_push_of_some _ e⟩
    (F.push _) (fun p hp => ⟨Heap.get?_push_of_some _ (N p hp).1, (N p hp).2⟩) hf hk (by simpa using hp) ?_ ?_ hE
  · intro hm
    rcases List.mem_cons.mp hm with e | hm
    · exact absurd F.ns.lt (e ▸ Nat.lt_irrefl _)
    · exact ne_frame F hl (List.mem_singleton.mp hm)
  · intro b hb
    rw [List.mem_singleton.mp hb]
    exact next_is_new F
  · intro p hp hb
    rcases List.mem_cons.mp hb with e | hb
    · exact absurd (Heap.lt_size (N p hp).1) (e ▸ Nat.lt_irrefl _)
    · exact hnl p hp (List.mem_singleton.mp hb)
  · rintro i asg c u h tk own hin ⟨v, hv, rfl⟩ hf' hp' hd F₁ N₁
    rw [hlen] at hin
    obtain ⟨a, t, rfl, ha⟩ := hi.at i v (by simpa using hv)
    obtain ⟨e1, e2⟩ := take_next ha
    rw [e1]
    refine wpAny_assign_Name (wpAny_storeName_local hx F₁.ns (fun h' hn hs => ?_) hpl)
    exact turn _ _ a t c u h' _ own e2 hf' hp' hd (F₁.set hn hs) (N₁.set hs)
  · intro c u h tk hf' hp' F₁ N₁
    rw [hlen, List.take_length] at hp'
    exact done c u h tk hf' hp' F₁ N₁
/-- for x in reversed(l) -/
theorem lp_rev {D : Addr} (Led : σ → List (Addr × Obj)) (ps : σ → List (Str × Value)) (Facts : σ → Prop) (stored : List Str) (P : List Int → σ → Prop) (c₀ : σ)
    (hh : A.handled = none) (hL : env.locals = L) (hx : env.kindOf x = some .local) (hpl : (env.scope.kind == .class || (env.scope.kind == .module && env.locals != env.globals)) = false)
    {news : List (Addr × Obj)} (N₀ : News h₀ L s.heap news) (hD : (D, revObj l ((vs.length : Int) - 1)) ∈ news) (hl : s.heap.IsList l vs.toArray) (hi : IntsAre vs ns) (hnl : ∀ p ∈ Led c₀, p.1 ≠ l ∧ p.1 ≠ D) (F : Fr h₀ L s.heap m₀) (N : News h₀ L s.heap (Led c₀)) (hf : Facts c₀) (hk : ∀ p ∈ ps c₀, m₀ p.1 = some p.2) (hp : P [] c₀)
    (turn : ∀ pre post a t (c : σ) (u : Str → Option Value) h tk own, ns.reverse = pre ++ a :: post → Facts c → P pre c → (∀ p ∈ own, ∀ q ∈ Led c, p.1 ≠ q.1) →
      Fr h₀ L h (fun y => if y = x then some (.int a t) else kstB (fun z => if stored.contains z then u z else m₀ z) (ps c) y) → News h₀ L h (Led c ++ own) →
      wpAny (model prog w) A (execs body env) (LpPost h₀ L s Led ps Facts stored m₀ own (P (pre ++ [a])) Q) E { s with heap := h, toks := tk })
    (done : ∀ (c : σ) (u : Str → Option Value) h tk, Facts c → P ns.reverse c → Fr h₀ L h (kstB (fun z => if stored.contains z then u z else m₀ z) (ps c)) → News h₀ L h (Led c) → Q .next { s with heap := h, toks := tk })
    (hE : PassesOwn (model prog w) A env E) :
    wpAny (model prog w) A (pyIter (.ref D)) (fun it s₂ => codeAny (model prog w) A (.forLoop (.Name x px) it body [] env) (fun r s' => match r with | .ok f => Q f s' | .error e => cameBackBy (model prog w) A env E e s') s₂) E s := by
  subst hL
  have hR : s.heap.IsRevIter D l ((vs.toArray.size : Int) - 1) := ⟨_, (N₀ _ hD).1, rfl, by simp [revObj]⟩
  have hne : l ≠ D := by
    rintro rfl
    obtain ⟨o, ho, hc, _⟩ := hl
    rw [(N₀ _ hD).1] at ho
    cases ho
    exact absurd hc (by simp [revObj])
  refine wpAny_pyIter_revIter hR ?_
  have hlen : vs.toArray.size = ns.length := by simp [hi.length]
  have live : ∀ i h, (i ≤ vs.toArray.size ∧ Heap.IsRevIter h D l ((vs.toArray.size : Int) - 1 - (i : Int)) ∧ h.IsList l vs.toArray) → ∀ b ∈ [D, l], ∃ o, h.get? b = some o := by
    rintro i h ⟨_, ⟨o, ho, _⟩, ⟨o', ho', _⟩⟩ b hb
    rcases List.mem_cons.mp hb with rfl | hb
    · exact ⟨o, ho⟩
    · rw [List.mem_singleton.mp hb]; exact ⟨o', ho'⟩
  refine lp_code (Itr.ofWalks (Walks.listRev hh D l hne vs.toArray) live) Led ps Facts stored (fun i c => P (ns.reverse.take i) c) c₀ ?_ ?_ ?_ ⟨Nat.zero_le _, by simpa using hR, hl⟩ F N hf hk (by simpa using hp) ?_ ?_ hE
  · intro hm
    rcases List.mem_cons.mp hm with e | hm
    · exact (N₀ _ hD).2.1 e.symm
    · exact ne_frame F hl (List.mem_singleton.mp hm)
  · intro b hb
    rw [List.mem_singleton.mp hb]
    exact (N₀ _ hD).2.2
  · intro p hp hb
    rcases List.mem_cons.mp hb with e | hb
    · exact (hnl p hp).2 e
    · exact (hnl p hp).1 (List.mem_singleton.mp hb)
  · rintro i asg c u h tk own hin ⟨v, hv, rfl⟩ hf' hp' hd F₁ N₁
    rw [hlen] at hin
    have hv' : vs[ns.length - 1 - i]? = some v := by rw [← hlen]; simpa using hv
    obtain ⟨a, t, rfl, ha⟩ := hi.at _ v hv'
    have ha' : ns.reverse[i]? = some a := by rw [List.getElem?_reverse hin, ← ha]
    obtain ⟨e1, e2⟩ := take_next ha'
    rw [e1]
    refine wpAny_assign_Name (wpAny_storeName_local hx F₁.ns (fun h' hn hs => ?_) hpl)
    exact turn _ _ a t c u h' _ own e2 hf' hp' hd (F₁.set hn hs) (N₁.set hs)
  · intro c u h tk hf' hp' F₁ N₁
    rw [hlen, List.take_of_length_le (by simp)] at hp'
    exact done c u h tk hf' hp' F₁ N₁
/-- for T in range(n), the target taken by hand -/
theorem lp_range {r : Addr} {b₀ : Int} {t₀ u₀ v₀ : Tok} {n : Nat} (Led : σ → List (Addr × Obj)) (ps : σ → List (Str × Value)) (Facts : σ → Prop) (stored : List Str) (P : Nat → σ → Prop) (c₀ : σ)
    (hh : A.handled = none) (hr : IsRange s.heap r 0 b₀ 1 t₀ u₀ v₀) (hsmall : Builtin.Range.small 0 b₀ 1 = true) (hn : Builtin.Range.rangeSize 0 b₀ 1 = (n : Int)) (F : Fr h₀ L s.heap m₀) (N : News h₀ L s.heap (Led c₀)) (hf : Facts c₀) (hk : ∀ p ∈ ps c₀, m₀ p.1 = some p.2) (hp : P 0 c₀)
    (turn : ∀ (i : Nat) t (c : σ) (u : Str → Option Value) h tk own, i < n → Facts c → P i c → (∀ p ∈ own, ∀ q ∈ Led c, p.1 ≠ q.1) →
      Fr h₀ L h (kstB (fun z => if stored.contains z then u z else m₀ z) (ps c)) → News h₀ L h (Led c ++ own) →
      wpAny (model prog w) A (assign (.Name x px) env (.int (i : Int) t)) (fun _ s₂ => wpAny (model prog w) A (execs body env) (LpPost h₀ L s Led ps Facts stored m₀ own (P (i + 1)) Q) E s₂) E { s with heap := h, toks := tk })
    (done : ∀ (c : σ) (u : Str → Option Value) h tk, Facts c → P n c → Fr h₀ L h (kstB (fun z => if stored.contains z then u z else m₀ z) (ps c)) → News h₀ L h (Led c) → Q .next { s with heap := h, toks := tk })
    (hE : PassesOwn (model prog w) A env E) :
    wpAny (model prog w) A (pyIter (.ref r)) (fun it s₂ => codeAny (model prog w) A (.forLoop (.Name x px) it body [] env) (fun r s' => match r with | .ok f => Q f s' | .error e => cameBackBy (model prog w) A env E e s') s₂) E s := by
  refine wpAny_pyIter_range hr hsmall ?_
  refine lp_code (Itr.ofWalks (Walks.range hh s.heap.objs.size 0 1 n) fun i h st b hb => ⟨_, (List.mem_singleton.mp hb) ▸ st⟩) Led ps Facts stored P c₀ ?_ ?_ ?_ (by show IsRangeIter _ _ _ _ _; rw [hn]; simpa using Heap.get?_push_size _ rfl)
    (F.push _) (fun p hp => ⟨Heap.get?_push_of_some _ (N p hp).1, (N p hp).2⟩) hf hk hp ?_ done hE
  · intro hm
    exact absurd F.ns.lt ((List.mem_singleton.mp hm) ▸ Nat.lt_irrefl _)
  · intro b hb
    rw [List.mem_singleton.mp hb]
    exact next_is_new F
  · intro p hp hb
    exact absurd (Heap.lt_size (N p hp).1) ((List.mem_singleton.mp hb) ▸ Nat.lt_irrefl _)
  · rintro i asg c u h tk own hin ⟨v, ⟨t, rfl⟩, rfl⟩ hf' hp' hd F₁ N₁
    have e : (0 : Int) + (i : Int) * 1 = (i : Int) := by omega
    rw [e]
    exact turn i t c u h tk own hin hf' hp' hd F₁ N₁
/-- for x, y in enumerate(l) -/
theorem lp_enum {y : Str} {py pt : Pos} {k : Nat} (Led : σ → List (Addr × Obj)) (ps : σ → List (Str × Value)) (Facts : σ → Prop) (stored : List Str) (P : List Int → σ → Prop) (c₀ : σ)
    (hh : A.handled = none) (hL : env.locals = L) (hx : env.kindOf x = some .local) (hy : env.kindOf y = some .local) (hpl : (env.scope.kind == .class || (env.scope.kind == .module && env.locals != env.globals)) = false)
    (hl : s.heap.IsList l vs.toArray) (hi : IntsAre vs ns) (hnl : ∀ p ∈ Led c₀, p.1 ≠ l) (F : Fr h₀ L s.heap m₀) (N : News h₀ L s.heap (Led c₀)) (hf : Facts c₀) (hk : ∀ p ∈ ps c₀, m₀ p.1 = some p.2) (hp : P [] c₀)
    (turn : ∀ pre post a t ti (c : σ) (u : Str → Option Value) h tk own, ns = pre ++ a :: post → Facts c → P pre c → (∀ p ∈ own, ∀ q ∈ Led c, p.1 ≠ q.1) →
      Fr h₀ L h (fun z => if z = y then some (.int a t) else if z = x then some (.int (pre.length : Int) ti) else kstB (fun z => if stored.contains z then u z else m₀ z) (ps c) z) → News h₀ L h (Led c ++ own) →
      wpAny (model prog w) A (execs body env) (LpPost h₀ L s Led ps Facts stored m₀ own (P (pre ++ [a])) Q) E { s with heap := h, toks := tk })
    (done : ∀ (c : σ) (u : Str → Option Value) h tk, Facts c → P ns c → Fr h₀ L h (kstB (fun z => if stored.contains z then u z else m₀ z) (ps c)) → News h₀ L h (Led c) → Q .next { s with heap := h, toks := tk })
    (hE : PassesOwn (model prog w) A env E) :
    wpAny (model prog w) A (call (.type "enumerate") [.ref l]) (fun xv s₁ => wpAny (model prog w) A (pyIter xv) (fun it s₂ => codeAny (model prog w) A (.forLoop (.Tuple [.Name x px, .Name y py] k pt) it body [] env) (fun r s' => match r with | .ok f => Q f s' | .error e => cameBackBy (model prog w) A env E e s') s₂) E s₁) E s := by
  subst hL
  have hlt : l < s.heap.objs.size := by obtain ⟨_, e, _⟩ := hl; exact Heap.lt_size e
  refine call_enumerate_list hl fun h' he hit hsz hkp => wpAny_pyIter_enum he ?_
  have hlen : vs.toArray.size = ns.length := by simp [hi.length]
  have live : ∀ (i : Nat) h, ((∃ old, IsEnum h (s.heap.objs.size + 1) s.heap.objs.size i old) ∧ h.IsListIter s.heap.objs.size l i ∧ h.IsList l vs.toArray) → ∀ b ∈ [s.heap.objs.size + 1, s.heap.objs.size, l], ∃ o, h.get? b = some o := by
    rintro i h ⟨⟨old, he⟩, ⟨o, ho, _⟩, ⟨o', ho', _⟩⟩ b hb
    rcases List.mem_cons.mp hb with rfl | hb
    · exact ⟨_, he⟩
    · rcases List.mem_cons.mp hb with rfl | hb
      · exact ⟨o, ho⟩
      · rw [List.mem_singleton.mp hb]; exact ⟨o', ho'⟩
  have hLs : env.locals < s.heap.objs.size := F.ns.lt
  refine lp_code (Itr.ofWalksT hh (WalksT.enumerate hh (s.heap.objs.size + 1) s.heap.objs.size l (Nat.succ_ne_self _) (Nat.ne_of_lt (Nat.lt_succ_of_lt hlt)) (Nat.ne_of_lt hlt) vs.toArray) live ?_ rfl) Led ps Facts stored (fun i c => P (ns.take i) c) c₀ ?_ ?_ ?_
    ⟨⟨_, by simpa using he⟩, hit, hl.at fun o e => hkp l o e⟩ (F.keeps hkp) (N.grown hkp) hf hk (by simpa using hp) ?_ ?_ hE
  · rintro i vals ⟨t, x, _, rfl⟩
    rfl
  · intro hm
    rcases List.mem_cons.mp hm with e | hm
    · exact absurd hLs (by rw [e]; exact Nat.not_lt.mpr (Nat.le_succ _))
    · rcases List.mem_cons.mp hm with e | hm
      · exact absurd hLs (e ▸ Nat.lt_irrefl _)
      · exact ne_frame F hl (List.mem_singleton.mp hm)
  · intro b hb
    refine Heap.get?_none_of_le ?_
    rcases List.mem_cons.mp hb with rfl | hb
    · exact Nat.le_trans F.above (Nat.le_of_lt (Nat.lt_succ_of_lt hLs))
    · rw [List.mem_singleton.mp hb]; exact Nat.le_trans F.above (Nat.le_of_lt hLs)
  · intro p hp hb
    have hp1 := Heap.lt_size (N p hp).1
    rcases List.mem_cons.mp hb with e | hb
    · exact absurd hp1 (by rw [e]; exact Nat.not_lt.mpr (Nat.le_succ _))
    · rcases List.mem_cons.mp hb with e | hb
      · exact absurd hp1 (e ▸ Nat.lt_irrefl _)
      · exact hnl p hp (List.mem_singleton.mp hb)
  · rintro i asg c u h tk own hin ⟨vals, ⟨ti, v, hv, rfl⟩, rfl⟩ hf' hp' hd F₁ N₁
    rw [hlen] at hin
    obtain ⟨a, t, rfl, ha⟩ := hi.at i v (by simpa using hv)
    obtain ⟨e1, e2⟩ := take_next ha
    rw [e1]
    show wpAny _ A (do holding [Value.int a t] (assign (.Name x px) env (.int (i : Int) ti)); do holding [] (assign (.Name y py) env (.int a t)); pure ()) _ _ _
    refine wpAny_bind (wpAny_holding (wpAny_assign_Name (wpAny_storeName_local hx F₁.ns (fun h₄ hn₄ hs₄ => ?_) hpl)))
    have F₄ := F₁.set hn₄ hs₄
    refine wpAny_bind (wpAny_holding (wpAny_assign_Name (wpAny_storeName_local hy F₄.ns (fun h₅ hn₅ hs₅ => wpAny_pure ?_) hpl)))
    have F₅ := F₄.set hn₅ hs₅
    have hpre : ((ns.take i).length : Int) = (i : Int) := by rw [List.length_take]; omega
    refine turn _ _ a t ti c u h₅ _ own e2 hf' hp' hd ?_ ((N₁.set hs₄).set hs₅)
    rw [hpre]
    exact F₅
  · intro c u h tk hf' hp' F₁ N₁
    rw [hlen, List.take_length] at hp'
    exact done c u h tk hf' hp' F₁ N₁
end
end
end
section
open PySem PySem.W PyProof.Rows PySem.Spec PySem.Calls
set_option maxRecDepth 100000
set_option maxHeartbeats 8000000
/-- a turn's end where the state is one list, bound to the name y -/
noncomputable def Lp1End (h₀ : Heap) (L : Addr) (s : Shared) (y : Str) (stored : List Str) (m₀ : Str → Option Value) (rest own : List (Addr × Obj)) (P : List Int → Prop) (s₂ : Shared) : Prop :=
  ∃ (h' : Heap) (tk : Nat) (m' : Str → Option Value) (news' : List (Addr × Obj)) (D : Addr) (vs : List Value) (n : Nat) (zs : List Int), s₂ = { s with heap := h', toks := tk } ∧ Fr h₀ L h' m' ∧ News h₀ L h' news' ∧ (D, listOf vs.toArray n) ∈ news' ∧ (∀ p ∈ rest, p ∈ news') ∧ (∀ p ∈ own, p ∈ news') ∧
    (∀ p ∈ own, p.1 ≠ D) ∧ (∀ p ∈ rest, p.1 ≠ D) ∧ IntsAre vs zs ∧ m' y = some (.ref D) ∧ (∀ z, z ≠ y → stored.contains z = false → m' z = m₀ z) ∧ P zs
noncomputable def Lp1Post (h₀ : Heap) (L : Addr) (s : Shared) (y : Str) (stored : List Str) (m₀ : Str → Option Value) (rest own : List (Addr × Obj)) (P : List Int → Prop) (Q : Flow → Shared → Prop) (f : Flow) (s₂ : Shared) : Prop :=
  match f with
  | .ret v => Q (.ret v) s₂
  | .brk => Q .next s₂
  | _ => Lp1End h₀ L s y stored m₀ rest own P s₂
theorem news1 {h₀ h : Heap} {L : Addr} {q : Addr × Obj} {rest : List (Addr × Obj)} (N : News h₀ L h (q :: rest)) : News h₀ L h [q] := fun p hp => N p (by rw [List.mem_singleton.mp hp]; exact .head _)
theorem ne_base {h₀ h : Heap} {L l : Addr} {q : Addr × Obj} {news : List (Addr × Obj)} {its : Array Value} (N : News h₀ L h news) (hq : q ∈ news) (hl : h₀.IsList l its) : q.1 ≠ l := by
  rintro rfl
  obtain ⟨o, ho, _⟩ := hl
  rw [(N q hq).2.2] at ho; cases ho
abbrev S1 := Addr × List Value × Nat × List Int
abbrev led1 (rest : List (Addr × Obj)) (c : S1) : List (Addr × Obj) := (c.1, listOf c.2.1.toArray c.2.2.1) :: rest
abbrev ps1 (y : Str) (c : S1) : List (Str × Value) := [(y, .ref c.1)]
abbrev fa1 (c : S1) : Prop := IntsAre c.2.1 c.2.2.2
section
variable {prog : Program} {w : World} {A : Around} {E : Value → Shared → Prop} {s : Shared} {env : Env} {h₀ : Heap} {L : Addr} {body : List Stmt} {Q : Flow → Shared → Prop}
  {x : Str} {px : Pos} {l : Addr} {vs : List Value} {ns : List Int} {m₀ : Str → Option Value}
theorem lp1_end {y : Str} {stored : List Str} {m' : Str → Option Value} {rest own news' : List (Addr × Obj)} {P : List Int → Prop} {h' : Heap} {tk : Nat} {D : Addr} {n : Nat} {zs : List Int} (F : Fr h₀ L h' m') (N : News h₀ L h' news') (hm : (D, listOf vs.toArray n) ∈ news')
    (hr : ∀ p ∈ rest, p ∈ news') (ho : ∀ p ∈ own, p ∈ news') (hd : ∀ p ∈ own, p.1 ≠ D) (hrd : ∀ p ∈ rest, p.1 ≠ D) (hi : IntsAre vs zs) (hy : m' y = some (.ref D)) (hk : ∀ z, z ≠ y → stored.contains z = false → m' z = m₀ z) (hp : P zs) :
    Lp1End h₀ L s y stored m₀ rest own P { s with heap := h', toks := tk } := ⟨h', tk, m', news', D, vs, n, zs, rfl, F, N, hm, hr, ho, hd, hrd, hi, hy, hk, hp⟩
theorem lp1_up {y : Str} {stored : List Str} {rest own : List (Addr × Obj)} {P : List Int → Prop} (hro : ∀ p ∈ own, ∀ q ∈ rest, p.1 ≠ q.1) {f : Flow} {s₂ : Shared} (h : Lp1Post h₀ L s y stored m₀ rest own P Q f s₂) :
    LpPost h₀ L s (led1 rest) (ps1 y) fa1 stored m₀ own (fun c => P c.2.2.2 ∧ ∀ p ∈ rest, p.1 ≠ c.1) Q f s₂ := by
  have up : Lp1End h₀ L s y stored m₀ rest own P s₂ → LpEnd h₀ L s (led1 rest) (ps1 y) fa1 stored m₀ own (fun c => P c.2.2.2 ∧ ∀ p ∈ rest, p.1 ≠ c.1) s₂ := by
    rintro ⟨h', tk, m', news', D, vs, n, zs, rfl, F, N, hm, hr, ho, hd, hrd, hi, hy, hk, hp⟩
    refine lp_end ⟨D, vs, n, zs⟩ F N (fun p hp => ?_) ho (fun p hp q hq => ?_) hi (fun p hp => ?_) (fun z hz hs => hk z (hz _ (.head _)) hs) ⟨hp, hrd⟩
    · rcases List.mem_cons.mp hp with rfl | hp
      · exact hm
      · exact hr p hp
    · rcases List.mem_cons.mp hq with rfl | hq
      · exact hd p hp
      · exact hro p hp q hq
    · rw [List.mem_singleton.mp hp]; exact hy
  cases f with
  | ret v => exact h
  | brk => exact h
  | next => exact up h
  | cont => exact up h
theorem frame1 {y : Str} {stored : List Str} {u : Str → Option Value} {D : Addr} {h : Heap} {f : Str → Option Value} (F : Fr h₀ L h (kstB f [(y, .ref D)])) : Fr h₀ L h (fun z => if z = y then some (.ref D) else f z) := F
theorem lp_list1 (y : Str) (stored : List Str) (P : List Int → List Int → Prop) {rest : List (Addr × Obj)} {D₀ : Addr} {vs₀ : List Value} {n₀ : Nat} {zs₀ : List Int}
    (hh : A.handled = none) (hL : env.locals = L) (hx : env.kindOf x = some .local) (hpl : (env.scope.kind == .class || (env.scope.kind == .module && env.locals != env.globals)) = false)
    (hl : s.heap.IsList l vs.toArray) (hi : IntsAre vs ns) (hnl : ∀ p ∈ (D₀, listOf vs₀.toArray n₀) :: rest, p.1 ≠ l) (F : Fr h₀ L s.heap m₀) (N : News h₀ L s.heap ((D₀, listOf vs₀.toArray n₀) :: rest)) (hf : IntsAre vs₀ zs₀) (hy : m₀ y = some (.ref D₀)) (hp : P [] zs₀) (hrd₀ : ∀ p ∈ rest, p.1 ≠ D₀)
    (turn : ∀ pre post a t D vs' n zs (u : Str → Option Value) h tk own, ns = pre ++ a :: post → IntsAre vs' zs → P pre zs → (∀ p ∈ own, p.1 ≠ D) → (∀ p ∈ own, ∀ q ∈ rest, p.1 ≠ q.1) → (∀ p ∈ rest, p.1 ≠ D) →
      Fr h₀ L h (fun z => if z = x then some (.int a t) else if z = y then some (.ref D) else if stored.contains z then u z else m₀ z) → News h₀ L h ((D, listOf (List.toArray vs') n) :: (rest ++ own)) →
      wpAny (model prog w) A (execs body env) (Lp1Post h₀ L s y stored m₀ rest own (P (pre ++ [a])) Q) E { s with heap := h, toks := tk })
    (done : ∀ D vs' n zs (u : Str → Option Value) h tk, IntsAre vs' zs → P ns zs → (∀ p ∈ rest, p.1 ≠ D) → Fr h₀ L h (fun z => if z = y then some (.ref D) else if stored.contains z then u z else m₀ z) → News h₀ L h ((D, listOf (List.toArray vs') n) :: rest) → Q .next { s with heap := h, toks := tk })
    (hE : PassesOwn (model prog w) A env E) :
    wpAny (model prog w) A (pyIter (.ref l)) (fun it s₂ => codeAny (model prog w) A (.forLoop (.Name x px) it body [] env) (fun r s' => match r with | .ok f => Q f s' | .error e => cameBackBy (model prog w) A env E e s') s₂) E s :=
  lp_list (led1 rest) (ps1 y) fa1 stored (fun pre c => P pre c.2.2.2 ∧ ∀ p ∈ rest, p.1 ≠ c.1) ⟨D₀, vs₀, n₀, zs₀⟩ hh hL hx hpl hl hi hnl F N hf (fun p hp => by rw [List.mem_singleton.mp hp]; exact hy) ⟨hp, hrd₀⟩
    (fun pre post a t c u h tk own e hf hp hd F N => wpAny_mono (turn pre post a t c.1 c.2.1 c.2.2.1 c.2.2.2 u h tk own e hf hp.1 (fun p hp => hd p hp _ (.head _)) (fun p hp q hq => hd p hp q (.tail _ hq)) hp.2 F N) (fun f s₂ q => lp1_up (fun p hp q hq => hd p hp q (.tail _ hq)) q) fun _ _ x => x)
    (fun c u h tk hf hp F N => done c.1 c.2.1 c.2.2.1 c.2.2.2 u h tk hf hp.1 hp.2 F N) hE
theorem lp_rev1 (y : Str) (stored : List Str) (P : List Int → List Int → Prop) {rest : List (Addr × Obj)} {D₀ D : Addr} {vs₀ : List Value} {n₀ : Nat} {zs₀ : List Int} {news : List (Addr × Obj)}
    (hh : A.handled = none) (hL : env.locals = L) (hx : env.kindOf x = some .local) (hpl : (env.scope.kind == .class || (env.scope.kind == .module && env.locals != env.globals)) = false)
    (N₀ : News h₀ L s.heap news) (hD : (D, revObj l ((vs.length : Int) - 1)) ∈ news) (hl : s.heap.IsList l vs.toArray) (hi : IntsAre vs ns) (hnl : ∀ p ∈ (D₀, listOf vs₀.toArray n₀) :: rest, p.1 ≠ l ∧ p.1 ≠ D) (F : Fr h₀ L s.heap m₀) (N : News h₀ L s.heap ((D₀, listOf vs₀.toArray n₀) :: rest)) (hf : IntsAre vs₀ zs₀) (hy : m₀ y = some (.ref D₀)) (hp : P [] zs₀) (hrd₀ : ∀ p ∈ rest, p.1 ≠ D₀)
    (turn : ∀ pre post a t D vs' n zs (u : Str → Option Value) h tk own, ns.reverse = pre ++ a :: post → IntsAre vs' zs → P pre zs → (∀ p ∈ own, p.1 ≠ D) → (∀ p ∈ own, ∀ q ∈ rest, p.1 ≠ q.1) → (∀ p ∈ rest, p.1 ≠ D) →
      Fr h₀ L h (fun z => if z = x then some (.int a t) else if z = y then some (.ref D) else if stored.contains z then u z else m₀ z) → News h₀ L h ((D, listOf (List.toArray vs') n) :: (rest ++ own)) →
      wpAny (model prog w) A (execs body env) (Lp1Post h₀ L s y stored m₀ rest own (P (pre ++ [a])) Q) E { s with heap := h, toks := tk })
    (done : ∀ D vs' n zs (u : Str → Option Value) h tk, IntsAre vs' zs → P ns.reverse zs → (∀ p ∈ rest, p.1 ≠ D) → Fr h₀ L h (fun z => if z = y then some (.ref D) else if stored.contains z then u z else m₀ z) → News h₀ L h ((D, listOf (List.toArray vs') n) :: rest) → Q .next { s with heap := h, toks := tk })
    (hE : PassesOwn (model prog w) A env E) :
    wpAny (model prog w) A (pyIter (.ref D)) (fun it s₂ => codeAny (model prog w) A (.forLoop (.Name x px) it body [] env) (fun r s' => match r with | .ok f => Q f s' | .error e => cameBackBy (model prog w) A env E e s') s₂) E s :=
  lp_rev (led1 rest) (ps1 y) fa1 stored (fun pre c => P pre c.2.2.2 ∧ ∀ p ∈ rest, p.1 ≠ c.1) ⟨D₀, vs₀, n₀, zs₀⟩ hh hL hx hpl N₀ hD hl hi hnl F N hf (fun p hp => by rw [List.mem_singleton.mp hp]; exact hy) ⟨hp, hrd₀⟩
    (fun pre post a t c u h tk own e hf hp hd F N => wpAny_mono (turn pre post a t c.1 c.2.1 c.2.2.1 c.2.2.2 u h tk own e hf hp.1 (fun p hp => hd p hp _ (.head _)) (fun p hp q hq => hd p hp q (.tail _ hq)) hp.2 F N) (fun f s₂ q => lp1_up (fun p hp q hq => hd p hp q (.tail _ hq)) q) fun _ _ x => x)
    (fun c u h tk hf hp F N => done c.1 c.2.1 c.2.2.1 c.2.2.2 u h tk hf hp.1 hp.2 F N) hE
theorem lp_enum1 (y : Str) (stored : List Str) (P : List Int → List Int → Prop) {x2 : Str} {py pt : Pos} {k : Nat} {rest : List (Addr × Obj)} {D₀ : Addr} {vs₀ : List Value} {n₀ : Nat} {zs₀ : List Int}
    (hh : A.handled = none) (hL : env.locals = L) (hx : env.kindOf x = some .local) (hx2 : env.kindOf x2 = some .local) (hpl : (env.scope.kind == .class || (env.scope.kind == .module && env.locals != env.globals)) = false)
    (hl : s.heap.IsList l vs.toArray) (hi : IntsAre vs ns) (hnl : ∀ p ∈ (D₀, listOf vs₀.toArray n₀) :: rest, p.1 ≠ l) (F : Fr h₀ L s.heap m₀) (N : News h₀ L s.heap ((D₀, listOf vs₀.toArray n₀) :: rest)) (hf : IntsAre vs₀ zs₀) (hy : m₀ y = some (.ref D₀)) (hp : P [] zs₀) (hrd₀ : ∀ p ∈ rest, p.1 ≠ D₀)
    (turn : ∀ pre post a t ti D vs' n zs (u : Str → Option Value) h tk own, ns = pre ++ a :: post → IntsAre vs' zs → P pre zs → (∀ p ∈ own, p.1 ≠ D) → (∀ p ∈ own, ∀ q ∈ rest, p.1 ≠ q.1) → (∀ p ∈ rest, p.1 ≠ D) →
      Fr h₀ L h (fun z => if z = x2 then some (.int a t) else if z = x then some (.int (pre.length : Int) ti) else if z = y then some (.ref D) else if stored.contains z then u z else m₀ z) → News h₀ L h ((D, listOf (List.toArray vs') n) :: (rest ++ own)) →
      wpAny (model prog w) A (execs body env) (Lp1Post h₀ L s y stored m₀ rest own (P (pre ++ [a])) Q) E { s with heap := h, toks := tk })
    (done : ∀ D vs' n zs (u : Str → Option Value) h tk, IntsAre vs' zs → P ns zs → (∀ p ∈ rest, p.1 ≠ D) → Fr h₀ L h (fun z => if z = y then some (.ref D) else if stored.contains z then u z else m₀ z) → News h₀ L h ((D, listOf (List.toArray vs') n) :: rest) → Q .next { s with heap := h, toks := tk })
    (hE : PassesOwn (model prog w) A env E) :
    wpAny (model prog w) A (call (.type "enumerate") [.ref l]) (fun xv s₁ => wpAny (model prog w) A (pyIter xv) (fun it s₂ => codeAny (model prog w) A (.forLoop (.Tuple [.Name x px, .Name x2 py] k pt) it body [] env) (fun r s' => match r with | .ok f => Q f s' | .error e => cameBackBy (model prog w) A env E e s') s₂) E s₁) E s :=
  lp_enum (led1 rest) (ps1 y) fa1 stored (fun pre c => P pre c.2.2.2 ∧ ∀ p ∈ rest, p.1 ≠ c.1) ⟨D₀, vs₀, n₀, zs₀⟩ hh hL hx hx2 hpl hl hi hnl F N hf (fun p hp => by rw [List.mem_singleton.mp hp]; exact hy) ⟨hp, hrd₀⟩
    (fun pre post a t ti c u h tk own e hf hp hd F N => wpAny_mono (turn pre post a t ti c.1 c.2.1 c.2.2.1 c.2.2.2 u h tk own e hf hp.1 (fun p hp => hd p hp _ (.head _)) (fun p hp q hq => hd p hp q (.tail _ hq)) hp.2 F N) (fun f s₂ q => lp1_up (fun p hp q hq => hd p hp q (.tail _ hq)) q) fun _ _ x => x)
    (fun c u h tk hf hp F N => done c.1 c.2.1 c.2.2.1 c.2.2.2 u h tk hf hp.1 hp.2 F N) hE
end
theorem IntsAre_set {x : Int} {t : Tok} : ∀ {vs : List Value} {ns : List Int}, IntsAre vs ns → ∀ k, IntsAre (vs.set k (.int x t)) (ns.set k x)
  | _, _, .nil, _ => .nil
  | _, _, .cons _ _ r, 0 => .cons _ _ r
  | _, _, .cons a b r, k + 1 => .cons _ _ (IntsAre_set r k)
theorem set_head {prog : Program} {w : World} {A : Around} {E : Value → Shared → Prop} {s : Shared} {h₀ : Heap} {L D : Addr} {m : Str → Option Value} {rest : List (Addr × Obj)} {vs : List Value} {n : Nat} {k : Int} {t : Tok} {v : Value} {Q : Unit → Shared → Prop}
    (F : Fr h₀ L s.heap m) (N : News h₀ L s.heap ((D, listOf vs.toArray n) :: rest)) (hd : ∀ p ∈ rest, p.1 ≠ D) (h0 : 0 ≤ k) (h1 : k < (vs.length : Int)) (hf : vs.length < 2 ^ 62)
    (h : ∀ h', Fr h₀ L h' m → News h₀ L h' ((D, listOf (vs.set k.toNat v).toArray n) :: rest) → Q () { s with heap := h' }) : wpAny (model prog w) A (setItem (.ref D) (.int k t) v) Q E s := by
  have z := N _ (.head _)
  refine ki_setAt z.1 h0 (by omega) (by simpa using h1) (h _ (F.change (Heap.SameBut.update ..) z.2.1 z.2.2) ?_)
  exact ki_turn (pre := []) (post := rest) (its := vs.toArray) (fun its => its.setIfInBounds k.toNat v) N (fun _ x => nomatch x) hd (by simp) (by simp)
end
section
theorem zmul_start (a b : List Int) : (List.replicate ((a : List Int).length + (b : List Int).length - 1 : Int).toNat [(0 : Int)]).flatten = zmulPre (List.replicate (a.length + b.length - 1) 0) [] b ∧ (List.replicate ((a : List Int).length + (b : List Int).length - 1 : Int).toNat [(0 : Int)]).flatten.length = a.length + b.length - 1 := by
  have e : ((a : List Int).length + (b : List Int).length - 1 : Int).toNat = a.length + b.length - 1 := by omega
  rw [e]
  constructor
  · simp [zmulPre]
  · simp
theorem zmul_c (w : World) (mean : ExcName → Option Value) (mg mb : Str → Option Value) (l1 l2 : Addr) (vs1 vs2 : List Value) (ns1 ns2 : List Int) (hi1 : IntsAre vs1 ns1) (hl1 : ns1.length < 2 ^ 20) (hi2 : IntsAre vs2 ns2) (hl2 : ns2.length < 2 ^ 20) (hs : SmL ns2) :
    Tell PySem.Challenge.rw_sa0099_01.row.prog w (Mine.hd.heap_39 w.params) Mine.hd.view_39 (looseW Mine.hd.view_39 []) mean mg mb 105 [.ref l1, .ref l2] 1 (fun h => h.IsList l1 vs1.toArray ∧ h.IsList l2 vs2.toArray) (RetL (zmulP ns1 ns2)) := by
  k_with_none
  k_with "my w1" => ((k_here; (with_reducible show wpAny _ _ (exec (Stmt.While _ _ _ _) _) _ _ _); k_extra "my while"))
  k_with "my w1" => ((k_here; (with_reducible show wpAny _ _ (exec (Stmt.For _ _ _ _ _) _) _ _ _); k_extra "my for"))
  k_with "pyIter ref" => ((k_here; k_extra "my iter"))
  k_with "call type:enumerate" => ((k_here; k_extra "my enum"))
  k_with "my fits" => (first | exact MulAll.ok (by assumption) _ (by assumption) | exact Sm.mulR (by assumption) | exact Sm.mulL (by assumption) | exact Sm.mulR (SmL.at (by assumption) (by assumption)) | exact Sm.mulL (SmL.at (by assumption) (by assumption)))
  k_with "binaryOp FloorDiv int int" => ((k_here; k_dflt ((refine floordiv_int ?kb ?_ (Or.inl (Sm.py ?kp))); (case kb => first | assumption | exact Nz.ne (by assumption) | omega | exact PowNz.ok (by assumption) _); (case kp => first | assumption | exact PowSm.ok (by assumption) _ (by omega)))))
  k_with "exec Raise some none" => ((exfalso; omega))
  k_with "call ref" => ((k_here; k_extra "my call"))
  k_fill
  unfold Tell
  intro dp un gd cn cs a ccd cl outer A₀ base h₀ L m s Q E B F X T hk hd hu hP hret
  refine wpAny_call ?_
  refine' code_defG (news := []) ?k1 ?k2 ?k3 (fun _ h => nomatch h) ?k5 ?kA ?kF ?kK ?k6 ?k7 ?k8 ?k9 ?kB ?_ ?c2 ?c3 ?c4 ?c5
  case kA => exact rfl
  case kF => exact rfl
  case kK => assumption
  case k1 => k_asm
  case k2 => k_asm
  case k3 => k_asm
  case k5 => k_asm
  case k6 => k_dflt k_is
  case k7 => k_dflt k_is
  case k8 => first | exact room0 (by assumption) | ((try simp only [depth_under_make, depth_under_kw, depth_in1, depth_deeper, depth_caller]); (try dsimp only [ktrTop]); exact room0 (by assumption)) | ktr_room
  case k9 => exact BindsTo.of_eq rfl
  case c5 => decide
  case kB => exact locs rfl
  case c2 => exact rfl
  case c3 => exact rfl
  case c4 => exact rfl
  intro g' L' h' FG' F' N' B' X' T' G'
  clear B F X T
  try dsimp only
  try k_fold
  obtain ⟨hP1, hP2⟩ := hP
  have hP1' := lift_list G' hP1
  have hP2' := lift_list G' hP2
  k_with "my for" => refine Stop.mk ?_
  k_with "my iter" => refine Stop.mk ?_
  k_with "my enum" => refine Stop.mk ?_
  k_steps
  · all_goals ((try dsimp only); (try (k_unfold; try dsimp only)); (try (k_unfold; try dsimp only)))
    exact leaveL (vs := []) hret (by assumption) (by assumption) (by assumption) (.head _) .nil (zmul_nil (.inl (by assumption)))
  · all_goals ((try dsimp only); (try (k_unfold; try dsimp only)); (try (k_unfold; try dsimp only)))
    exact leaveL (vs := []) hret (by assumption) (by assumption) (by assumption) (.head _) .nil (zmul_nil (.inr (by assumption)))
  · (unfold Stop; refine wpAny_For ?_ (fun _ => by rfl); k_steps; unfold Stop)
    refine' lp_enum1 (L := L') "found" ["one", "left", "other", "right"] (fun pre zs => zs = zmulPre (List.replicate (ns1.length + ns2.length - 1) 0) pre ns2 ∧ zs.length = ns1.length + ns2.length - 1)
      (rest := []) ?hh ?hL ?hx ?hxx ?hpl ?hl hi1 ?hnl ?F ?N ?hf ?hy ?hp ?hrd ?turn ?done ?hE
    (case hh => exact rfl); (case hL => exact rfl); (case hx => exact rfl); (case hpl => exact rfl); (case hE => first | passes_own | with_unfolding_all passes_own); (case F => assumption)
    case hxx => exact rfl
    case N => exact news1 (by assumption)
    case hl => is_list
    case hnl => exact fun p hp => ne_base (news1 (by assumption)) hp hP1'
    case hf => assumption
    case hy => exact rfl
    case hp => exact zmul_start _ _
    case hrd => exact fun _ x => nomatch x
    case turn =>
      intro pre post x t ti D vs' n zs u h tk own e hf hp hd hro hrd F N
      obtain ⟨hz, hzl⟩ := hp
      have hpre := split_len e
      rw [List.nil_append] at N
      k_steps
      · (unfold Stop; refine wpAny_For ?_ (fun _ => by rfl); k_steps; unfold Stop)
        refine' lp_enum1 (L := L') "found" ["other", "right"] (fun pre2 ys => ys = zmulRow zs pre.length x pre2 ∧ ys.length = ns1.length + ns2.length - 1)
          (rest := own) ?hh2 ?hL2 ?hx2 ?hxx2 ?hpl2 ?hl2 hi2 ?hnl2 ?F2 ?N2 ?hf2 ?hy2 ?hp2 ?hrd2 ?turn2 ?done2 ?hE2
        (case hh2 => exact rfl); (case hL2 => exact rfl); (case hx2 => exact rfl); (case hpl2 => exact rfl); (case hE2 => first | passes_own | with_unfolding_all passes_own); (case F2 => assumption)
        case hxx2 => exact rfl
        case N2 => assumption
        case hl2 => is_list
        case hnl2 => exact fun p hp => ne_base (by assumption) hp hP2'
        case hf2 => assumption
        case hy2 => exact rfl
        case hp2 => exact ⟨rfl, hzl⟩
        case hrd2 => exact hd
        case turn2 =>
          intro pre2 post2 y t2 ti2 D2 vs2' n2 ys u2 h2 tk2 own2 e2 hf2 hp2 hd2 hro2 hrd2 F2 N2
          obtain ⟨hy1, hyl⟩ := hp2
          have hpre2 := split_len e2
          have hyin : y ∈ ns2 := by rw [e2]; simp
          k_steps
          have hlen2 := hf2.length
          refine set_head (by assumption) (by assumption) (fun p hp => (List.mem_append.mp hp).elim (fun q => hrd2 p q) (fun q => hd2 p q)) (by omega) (by omega) (by omega) ?_
          intro h3 F3 N3
          k_steps
          dsimp only [Lp1Post]
          refine lp1_end F3 N3 (.head _) (fun p hp => .tail _ (List.mem_append.mpr (.inl hp))) (fun p hp => .tail _ (List.mem_append.mpr (.inr hp))) hd2 hrd2 (IntsAre_set hf2 _) rfl (fun z h1 h2 => by simp at h2; simp [h1, h2]) ?_
          subst hy1
          exact zmul_turn hyl
        case done2 =>
          intro D2 vs2' n2 ys u2 h2 tk2 hf2 hp2 hrd2 F2 N2
          obtain ⟨hy1, hyl⟩ := hp2
          k_steps
          dsimp only [Lp1Post]
          exact lp1_end F2 N2 (.head _) (fun p hp => nomatch hp) (fun p hp => .tail _ hp) hrd2 (fun _ x => nomatch x) hf2 rfl (fun z h1 h2 => by simp at h2; simp [h1, h2]) (zmul_keep hz hy1 hyl (by assumption))
      · dsimp only [Lp1Post]
        refine lp1_end (by assumption) (by assumption) (.head _) (fun p hp => nomatch hp) (fun p hp => .tail _ hp) hd hrd (by assumption) rfl (fun z h1 h2 => by simp at h2; simp [h1, h2]) ?_
        exact zmul_skip hz hzl (by assumption)
    case done =>
      intro D vs' n zs u h tk hf hp hrd F N
      k_steps
      all_goals ((try dsimp only); (try (k_unfold; try dsimp only)); (try (k_unfold; try dsimp only)))
      exact leaveL hret (by assumption) (by assumption) (by assumption) (.head _) hf (zmul_end (by assumption) (by assumption) hp.1)
end
section
set_option maxRecDepth 4000
theorem zcompose_start (b : List Int) : [] = zcomposePre b [] ∧ ([] : List Int).length ≤ 1 + ([] : List Int).length * b.length := by
  simp [zcomposePre]
theorem zcompose_turn {b pre zs : List Int} {x : Int} (h : zs = zcomposePre b pre) (hl : zs.length ≤ 1 + pre.length * b.length) :
    zaddP (zmulP zs b) (ztrimP [x]) = zcomposePre b (pre ++ [x]) ∧ (zaddP (zmulP zs b) (ztrimP [x])).length ≤ 1 + (pre ++ [x]).length * b.length := by
  refine ⟨?_, zcompose_bound _ _ _ _ hl⟩
  rw [zcomposePre_snoc, h]
end
section
theorem news_tail {h₀ h : Heap} {L : Addr} {q : Addr × Obj} {rest : List (Addr × Obj)} (N : News h₀ L h (q :: rest)) : News h₀ L h rest := fun p hp => N p (.tail _ hp)
theorem zcompose_c (w : World) (mean : ExcName → Option Value) (mg mb : Str → Option Value) (l1 l2 : Addr) (vs1 vs2 : List Value) (ns1 ns2 : List Int) (hi1 : IntsAre vs1 ns1) (hl1 : ns1.length < 2 ^ 9) (hi2 : IntsAre vs2 ns2) (hl2 : ns2.length < 2 ^ 9) (hs : SmL ns2) :
    Tell PySem.Challenge.rw_sa0099_01.row.prog w (Mine.hd.heap_39 w.params) Mine.hd.view_39 (looseW Mine.hd.view_39 []) mean mg mb 119 [.ref l1, .ref l2] 3 (fun h => h.IsList l1 vs1.toArray ∧ h.IsList l2 vs2.toArray) (RetL (zcomposeP ns1 ns2)) := by
  k_with_none
  k_with "my w1" => ((k_here; (with_reducible show wpAny _ _ (exec (Stmt.While _ _ _ _) _) _ _ _); k_extra "my while"))
  k_with "my w1" => ((k_here; (with_reducible show wpAny _ _ (exec (Stmt.For _ _ _ _ _) _) _ _ _); k_extra "my for"))
  k_with "pyIter ref" => ((k_here; k_extra "my iter"))
  k_with "call type:enumerate" => ((k_here; k_extra "my enum"))
  k_with "my fits" => (first | exact MulAll.ok (by assumption) _ (by assumption) | exact Sm.mulR (by assumption) | exact Sm.mulL (by assumption) | exact Sm.mulR (SmL.at (by assumption) (by assumption)) | exact Sm.mulL (SmL.at (by assumption) (by assumption)))
  k_with "binaryOp FloorDiv int int" => ((k_here; k_dflt ((refine floordiv_int ?kb ?_ (Or.inl (Sm.py ?kp))); (case kb => first | assumption | exact Nz.ne (by assumption) | omega | exact PowNz.ok (by assumption) _); (case kp => first | assumption | exact PowSm.ok (by assumption) _ (by omega)))))
  k_with "exec Raise some none" => ((exfalso; omega))
  k_with "call ref" => ((k_here; k_extra "my call"))
  k_with "my call" => (first | (k_dflt (refine' use_L (zadd_c _ _ _ _ _ _ _ _ _ _ ?p0 ?p1 ?p2 ?p3) ?kB ?kF ?kX ?kN ?kT ?kK ?kd ?ku ?kP ?kb ?_; (case kP => (first | exact trivial | (first | exact isl (by assumption) (by k_mem) | is_list) | (refine And.intro ?_ ?_ <;> (first | exact isl (by assumption) (by k_mem) | is_list)))); (case p0 => first | assumption | exact .nil | exact .cons _ _ .nil | exact .cons _ _ (.cons _ _ .nil) | exact .cons _ _ (.cons _ _ (.cons _ _ .nil)) | l_ints); (case p1 => first | assumption | exact Nat.lt_of_lt_of_le (by assumption) (by decide) | l_fit | omega | (simp only [List.length_cons, List.length_nil, List.length_append, List.length_map, List.length_replicate, List.length_reverse, rangeKs_length] at *; omega)); (case p2 => first | assumption | exact .nil | exact .cons _ _ .nil | exact .cons _ _ (.cons _ _ .nil) | exact .cons _ _ (.cons _ _ (.cons _ _ .nil)) | l_ints); (case p3 => first | assumption | exact Nat.lt_of_lt_of_le (by assumption) (by decide) | l_fit | omega | (simp only [List.length_cons, List.length_nil, List.length_append, List.length_map, List.length_replicate, List.length_reverse, rangeKs_length] at *; omega)); (case kb => exact zaddP_len _ _); (case kB => k_asm); (case kF => k_asm); (case kX => k_asm); (case kN => k_asm); (case kT => k_asm); (case kK => first | exact rfl | assumption); (case kd => first | exact roomK (by assumption) (by decide) | ((try simp only [depth_under_make, depth_under_kw, depth_in1, depth_deeper, depth_caller]); (try dsimp only [ktrTop]); first | exact roomK (by assumption) (by decide) | exact roomG rfl (by decide)) | ktr_room); (case ku => first | ((try simp only [units_in1, units_deeper, Around.mark_units, units_caller]); (try dsimp only [ktrTop]); first | exact unitsK (by assumption) (by decide) | exact unitsK64 (by assumption) (by decide) | exact unitsG rfl (by decide) | exact unitsG64 rfl) | ktr_units); intro l9 ys9 n9 h9 tk9 F9 N9 ne9 hi9 hb9; (have no9 := ne9); (clear ne9); (try dsimp only); (try k_sweep); (try k_fold))) | (k_dflt (refine' use_L (ztrim_c _ _ _ _ _ _ _ ?p0 ?p1) ?kB ?kF ?kX ?kN ?kT ?kK ?kd ?ku ?kP ?kb ?_; (case kP => (first | exact trivial | (first | exact isl (by assumption) (by k_mem) | is_list) | (refine And.intro ?_ ?_ <;> (first | exact isl (by assumption) (by k_mem) | is_list)))); (case p0 => first | assumption | exact .nil | exact .cons _ _ .nil | exact .cons _ _ (.cons _ _ .nil) | exact .cons _ _ (.cons _ _ (.cons _ _ .nil)) | l_ints); (case p1 => first | assumption | exact Nat.lt_of_lt_of_le (by assumption) (by decide) | l_fit | omega | (simp only [List.length_cons, List.length_nil, List.length_append, List.length_map, List.length_replicate, List.length_reverse, rangeKs_length] at *; omega)); (case kb => exact ztrimP_len _); (case kB => k_asm); (case kF => k_asm); (case kX => k_asm); (case kN => k_asm); (case kT => k_asm); (case kK => first | exact rfl | assumption); (case kd => first | exact roomK (by assumption) (by decide) | ((try simp only [depth_under_make, depth_under_kw, depth_in1, depth_deeper, depth_caller]); (try dsimp only [ktrTop]); first | exact roomK (by assumption) (by decide) | exact roomG rfl (by decide)) | ktr_room); (case ku => first | ((try simp only [units_in1, units_deeper, Around.mark_units, units_caller]); (try dsimp only [ktrTop]); first | exact unitsK (by assumption) (by decide) | exact unitsK64 (by assumption) (by decide) | exact unitsG rfl (by decide) | exact unitsG64 rfl) | ktr_units); intro l9 ys9 n9 h9 tk9 F9 N9 ne9 hi9 hb9; (have no9 := ne9); (clear ne9); (try dsimp only); (try k_sweep); (try k_fold))) | (k_dflt (refine' use_L (zmul_c _ _ _ _ _ _ _ _ _ _ ?p0 ?p1 ?p2 ?p3 ?p4) ?kB ?kF ?kX ?kN ?kT ?kK ?kd ?ku ?kP ?kb ?_; (case kP => (first | exact trivial | (first | exact isl (by assumption) (by k_mem) | is_list) | (refine And.intro ?_ ?_ <;> (first | exact isl (by assumption) (by k_mem) | is_list)))); (case p0 => first | assumption | exact .nil | exact .cons _ _ .nil | exact .cons _ _ (.cons _ _ .nil) | exact .cons _ _ (.cons _ _ (.cons _ _ .nil)) | l_ints); (case p1 => first | assumption | exact Nat.lt_of_lt_of_le (by assumption) (by decide) | l_fit | omega | (simp only [List.length_cons, List.length_nil, List.length_append, List.length_map, List.length_replicate, List.length_reverse, rangeKs_length] at *; omega)); (case p2 => first | assumption | exact .nil | exact .cons _ _ .nil | exact .cons _ _ (.cons _ _ .nil) | exact .cons _ _ (.cons _ _ (.cons _ _ .nil)) | l_ints); (case p3 => first | assumption | exact Nat.lt_of_lt_of_le (by assumption) (by decide) | l_fit | omega | (simp only [List.length_cons, List.length_nil, List.length_append, List.length_map, List.length_replicate, List.length_reverse, rangeKs_length] at *; omega)); (case p4 => assumption); (case kb => exact zmulP_len _ _); (case kB => k_asm); (case kF => k_asm); (case kX => k_asm); (case kN => k_asm); (case kT => k_asm); (case kK => first | exact rfl | assumption); (case kd => first | exact roomK (by assumption) (by decide) | ((try simp only [depth_under_make, depth_under_kw, depth_in1, depth_deeper, depth_caller]); (try dsimp only [ktrTop]); first | exact roomK (by assumption) (by decide) | exact roomG rfl (by decide)) | ktr_room); (case ku => first | ((try simp only [units_in1, units_deeper, Around.mark_units, units_caller]); (try dsimp only [ktrTop]); first | exact unitsK (by assumption) (by decide) | exact unitsK64 (by assumption) (by decide) | exact unitsG rfl (by decide) | exact unitsG64 rfl) | ktr_units); intro l9 ys9 n9 h9 tk9 F9 N9 ne9 hi9 hb9; (have no9 := ne9); (clear ne9); (try dsimp only); (try k_sweep); (try k_fold))))
  k_fill
  unfold Tell
  intro dp un gd cn cs a ccd cl outer A₀ base h₀ L m s Q E B F X T hk hd hu hP hret
  refine wpAny_call ?_
  refine' code_defG (news := []) ?k1 ?k2 ?k3 (fun _ h => nomatch h) ?k5 ?kA ?kF ?kK ?k6 ?k7 ?k8 ?k9 ?kB ?_ ?c2 ?c3 ?c4 ?c5
  case kA => exact rfl
  case kF => exact rfl
  case kK => assumption
  case k1 => k_asm
  case k2 => k_asm
  case k3 => k_asm
  case k5 => k_asm
  case k6 => k_dflt k_is
  case k7 => k_dflt k_is
  case k8 => first | exact room0 (by assumption) | ((try simp only [depth_under_make, depth_under_kw, depth_in1, depth_deeper, depth_caller]); (try dsimp only [ktrTop]); exact room0 (by assumption)) | ktr_room
  case k9 => exact BindsTo.of_eq rfl
  case c5 => decide
  case kB => exact locs rfl
  case c2 => exact rfl
  case c3 => exact rfl
  case c4 => exact rfl
  intro g' L' h' FG' F' N' B' X' T' G'
  clear B F X T
  try dsimp only
  try k_fold
  obtain ⟨hP1, hP2⟩ := hP
  have hP1' := lift_list G' hP1
  have hP2' := lift_list G' hP2
  k_with "my for" => refine Stop.mk ?_
  k_with "my iter" => refine Stop.mk ?_
  k_with "my enum" => refine Stop.mk ?_
  k_steps
  (unfold Stop; refine wpAny_For ?_ (fun _ => by rfl); k_steps; unfold Stop)
  rename_i D1 h1 F1 N1 lt1
  refine' lp_rev1 (L := L') "found" ["number"] (fun pre zs => zs = zcomposePre ns2 pre ∧ zs.length ≤ 1 + pre.length * ns2.length) (rest := []) (vs₀ := []) (zs₀ := [])
    ?hh ?hL ?hx ?hpl N1 (.head _) ?hl hi1 ?hnl ?F ?N .nil ?hy (zcompose_start _) (fun _ x => nomatch x) ?turn ?done ?hE
  (case hh => exact rfl); (case hL => exact rfl); (case hx => exact rfl); (case hpl => exact rfl); (case hE => first | passes_own | with_unfolding_all passes_own); (case F => assumption)
  case N => exact news_tail N1
  case hl => is_list
  case hnl => exact fun p hp => ⟨ne_base (news_tail N1) hp hP1', by rw [List.mem_singleton.mp hp]; exact Nat.ne_of_lt lt1⟩
  case hy => exact rfl
  case turn =>
    intro pre post x t D vs' n zs u h tk own e hf hp hd hro hrd F N
    obtain ⟨hz, hzl⟩ := hp
    have hpre := split_len_rev e
    have hsm := mul_small (show pre.length < 2 ^ 9 by omega) hl2
    rw [List.nil_append] at N
    k_steps
    dsimp only [Lp1Post]
    exact lp1_end (by assumption) (by assumption) (.head _) (fun p hp => nomatch hp) (fun p hp => (by (repeat (first | exact hp | refine List.Mem.tail _ ?_)))) (fun p hp => (show ∀ q ∈ _, q.1 ≠ _ from by assumption) p (by (repeat (first | exact hp | refine List.Mem.tail _ ?_)))) (fun p hp => nomatch hp) (by assumption) rfl (fun z h1 h2 => by simp at h2; simp [h1, h2]) (zcompose_turn hz hzl)
  case done =>
    intro D vs' n zs u h tk hf hp hrd F N
    k_steps
    all_goals ((try dsimp only); (try (k_unfold; try dsimp only)); (try (k_unfold; try dsimp only)))
    exact leaveL hret (by assumption) (by assumption) (by assumption) (.head _) hf hp.1
end
section
open PySem PySem.W PyProof.Rows PySem.Spec PySem.Calls
set_option maxRecDepth 100000
set_option maxHeartbeats 8000000
theorem Sm.lt64 {x : Int} (h : Sm x) : x.natAbs < 2 ^ 64 := Nat.lt_trans h.lt (by decide)
abbrev tup3 (a b c : Value) (n : Nat) : Obj := { cls := .type "tuple", data := .seq #[a, b, c] n }
/-- a new tuple of two new lists and an int -/
abbrev RetP (q r : List Int) (k : Int) (h : Heap) (v : Value) (h' : Heap) : Prop :=
  ∃ T lq lr vq vr n t, v = .ref T ∧ h.get? T = none ∧ h.get? lq = none ∧ h.get? lr = none ∧ h'.get? T = some (tup3 (.ref lq) (.ref lr) (.int k t) n) ∧ h'.PlainList lq (List.toArray vq) ∧ h'.PlainList lr (List.toArray vr) ∧ IntsAre vq q ∧ IntsAre vr r
theorem none_of {h g h' : Heap} {L : Addr} {news : List (Addr × Obj)} {q : Addr × Obj} (N : News g L h' news) (G : GSub h g []) (hm : q ∈ news) : h.get? q.1 = none := by
  cases e : h.get? q.1 with
  | none => rfl
  | some o => have := G _ _ e (fun x => nomatch x); rw [(N _ hm).2.2] at this; cases this
theorem leaveP {h₀ g : Heap} {L L' : Addr} {m m' : Str → Option Value} {news' : List (Addr × Obj)} {h' : Heap} {s : Shared} {Q E : Value → Shared → Prop} {tk : Nat} {q r q' r' : List Int} {k k' : Int} {T lq lr : Addr} {vq vr : List Value} {n nq nr : Nat} {t : Tok}
    (hret : ∀ v h' tk', (∀ b o, s.heap.get? b = some o → h'.get? b = some o) → RetP q r k s.heap v h' → Q v { s with heap := h', toks := tk' }) (F : Fr g L' h' m') (N : News g L' h' news') (G : GSub s.heap g [])
    (hT : (T, tup3 (.ref lq) (.ref lr) (.int k' t) n) ∈ news') (hq : (lq, listOf vq.toArray nq) ∈ news') (hr : (lr, listOf vr.toArray nr) ∈ news') (iq : IntsAre vq q') (ir : IntsAre vr r') (eq : q' = q) (er : r' = r) (ek : k' = k) :
    LeaveK h₀ L m g (fun r s' => match r with | .ok (.ret v) => Q v s' | .ok _ => False | .error e => E e s') (.ref T) { s with heap := h', toks := tk } := by
  subst eq er ek
  exact leaveK_ F N fun _ _ => hret _ _ _ (end_keep F G) ⟨T, lq, lr, vq, vr, n, t, rfl, none_of N G hT, none_of N G hq, none_of N G hr, (N _ hT).1, ⟨nq, (N _ hq).1⟩, ⟨nr, (N _ hr).1⟩, iq, ir⟩
section
variable {prog : Program} {w : World} {K : Frag} {p : Program} {loose : List Str} {mean : ExcName → Option Value} {mg mb : Str → Option Value} {f : Addr} {vs : List Value} {dep : Nat} {P : Heap → Prop}
  {dp un : Nat} {gd : Option (List Code)} {cn : Str} {cs : Scope} {a : Addr} {ccd : Value} {cl : List (Str × Addr)} {outer : List Env} {A₀ : Around} {base h₀ : Heap} {L : Addr} {m : Str → Option Value} {s : Shared} {news : List (Addr × Obj)} {Q E : Value → Shared → Prop}
theorem fresh_in {h h' : Heap} {l : Addr} {o : Obj} (F : Fr h₀ L h m) (hn : h.get? l = none) (hl : h'.get? l = some o) : h'.get? l = some o ∧ l ≠ L ∧ h₀.get? l = none := by
  refine ⟨hl, ?_, ?_⟩
  · rintro rfl
    obtain ⟨o, _, _, ho, _⟩ := F.ns
    rw [hn] at ho; cases ho
  · cases e : h₀.get? l with
    | none => rfl
    | some o => rw [F.keep _ _ e] at hn; cases hn
theorem use_P {q r : List Int} {k : Int} {bq br : Nat} (C : Tell prog w K p loose mean mg mb f vs dep P (RetP q r k)) (B : Below A₀ base outer h₀) (F : Fr h₀ L s.heap m) (X : K.In h₀) (N : News h₀ L s.heap news) (T : Top p loose mean mg mb h₀) (hk : cs.kind = .function)
    (hd : dp + dep < recursionLimit) (hu : un + 8 * dep < cLine) (hP : P s.heap) (hq : q.length ≤ bq) (hr : r.length ≤ br)
    (ret : ∀ T lq lr vq vr n nq nr t h' tk', Fr h₀ L h' m → News h₀ L h' ((T, tup3 (.ref lq) (.ref lr) (.int k t) n) :: (lq, listOf (List.toArray vq) nq) :: (lr, listOf (List.toArray vr) nr) :: news) → (∀ p ∈ news, p.1 ≠ T) → (∀ p ∈ news, p.1 ≠ lq) → (∀ p ∈ news, p.1 ≠ lr) →
      IntsAre vq q → IntsAre vr r → q.length ≤ bq → r.length ≤ br → Q (.ref T) { s with heap := h', toks := tk' }) :
    wpAny (model prog w) (ktrTop dp un gd cn cs L a ccd cl outer) (call (.ref f) vs) Q E s := by
  refine C _ _ _ _ _ _ _ _ _ _ _ _ _ _ _ _ _ B F X T hk hd hu hP fun v h' tk' kp hv => ?_
  obtain ⟨T, lq, lr, vq, vr, n, t, rfl, nT, nq, nr, hT, ⟨n1, hlq⟩, ⟨n2, hlr⟩, iq, ir⟩ := hv
  refine ret T lq lr vq vr n n1 n2 t h' tk' (F.keeps kp) (fun x hx => ?_) (fun x hx e => ?_) (fun x hx e => ?_) (fun x hx e => ?_) iq ir hq hr
  · rcases List.mem_cons.mp hx with rfl | hx
    · exact fresh_in F nT hT
    · rcases List.mem_cons.mp hx with rfl | hx
      · exact fresh_in F nq hlq
      · rcases List.mem_cons.mp hx with rfl | hx
        · exact fresh_in F nr hlr
        · exact (N.grown kp) x hx
  · rw [← e, (N x hx).1] at nT; cases nT
  · rw [← e, (N x hx).1] at nq; cases nq
  · rw [← e, (N x hx).1] at nr; cases nr
end
/-- a statement that stores one int and nothing else: its ways meet -/
noncomputable def CutEnd (h₀ : Heap) (L : Addr) (s : Shared) (m : Str → Option Value) (news : List (Addr × Obj)) (y : Str) (P : Int → Prop) (fl : Flow) (s' : Shared) : Prop :=
  fl = .next ∧ ∃ x t h' tk', s' = { s with heap := h', toks := tk' } ∧ P x ∧ Fr h₀ L h' (fun z => if z = y then some (.int x t) else m z) ∧ News h₀ L h' news
theorem cut_end {h₀ h' : Heap} {L : Addr} {s : Shared} {m : Str → Option Value} {news : List (Addr × Obj)} {y : Str} {P : Int → Prop} {x : Int} {t : Tok} {tk : Nat} (F : Fr h₀ L h' (fun z => if z = y then some (.int x t) else m z)) (N : News h₀ L h' news) (hp : P x) :
    CutEnd h₀ L s m news y P .next { s with heap := h', toks := tk } := ⟨rfl, x, t, h', tk, rfl, hp, F, N⟩
theorem cut_same {h₀ h' : Heap} {L : Addr} {s : Shared} {m : Str → Option Value} {news : List (Addr × Obj)} {y : Str} {P : Int → Prop} {x : Int} {t : Tok} {tk : Nat} (F : Fr h₀ L h' m) (hm : m y = some (.int x t)) (N : News h₀ L h' news) (hp : P x) :
    CutEnd h₀ L s m news y P .next { s with heap := h', toks := tk } := by
  refine ⟨rfl, x, t, h', tk, rfl, hp, ?_, N⟩
  have e : (fun z => if z = y then some (.int x t) else m z) = m := by
    funext z
    split
    · rename_i hz; rw [hz, hm]
    · rfl
  rw [e]; exact F
theorem cut_int {M : Model} {A : Around} {E : Value → Shared → Prop} {s : Shared} {env : Env} {h₀ : Heap} {L : Addr} {m : Str → Option Value} {news : List (Addr × Obj)} {st : Stmt} {rest : List Stmt} {Q : Flow → Shared → Prop} (y : Str) (P : Int → Prop)
    (_ : Fr h₀ L s.heap m) (_ : News h₀ L s.heap news) (h1 : wpAny M A (exec st env) (CutEnd h₀ L s m news y P) E s)
    (h2 : ∀ x t h' tk', P x → Fr h₀ L h' (fun z => if z = y then some (.int x t) else m z) → News h₀ L h' news → wpAny M A (execs rest env) Q E { s with heap := h', toks := tk' }) : wpAny M A (execs (st :: rest) env) Q E s := by
  refine wpAny_execs_cons (wpAny_mono h1 (fun fl s' h => ?_) fun _ _ e => e)
  obtain ⟨rfl, x, t, h', tk', rfl, hp, F, N⟩ := h
  exact h2 x t h' tk' hp F N
theorem all1 {m : Str → Option Value} {y1 : Str} {v1 : Value} (h1 : m y1 = some v1) : ∀ p ∈ [(y1, v1)], m p.1 = some p.2 := fun p hp => by
  rcases List.mem_cons.mp hp with rfl | hp
  · exact h1
  · nomatch hp
theorem all2 {m : Str → Option Value} {y1 y2 : Str} {v1 v2 : Value} (h1 : m y1 = some v1) (h2 : m y2 = some v2) : ∀ p ∈ [(y1, v1), (y2, v2)], m p.1 = some p.2 := fun p hp => by
  rcases List.mem_cons.mp hp with rfl | hp
  · exact h1
  · exact all1 h2 p hp
theorem all3 {m : Str → Option Value} {y1 y2 y3 : Str} {v1 v2 v3 : Value} (h1 : m y1 = some v1) (h2 : m y2 = some v2) (h3 : m y3 = some v3) : ∀ p ∈ [(y1, v1), (y2, v2), (y3, v3)], m p.1 = some p.2 := fun p hp => by
  rcases List.mem_cons.mp hp with rfl | hp
  · exact h1
  · exact all2 h2 h3 p hp
theorem all5 {m : Str → Option Value} {y1 y2 y3 y4 y5 : Str} {v1 v2 v3 v4 v5 : Value} (h1 : m y1 = some v1) (h2 : m y2 = some v2) (h3 : m y3 = some v3) (h4 : m y4 = some v4) (h5 : m y5 = some v5) : ∀ p ∈ [(y1, v1), (y2, v2), (y3, v3), (y4, v4), (y5, v5)], m p.1 = some p.2 := fun p hp => by
  rcases List.mem_cons.mp hp with rfl | hp
  · exact h1
  · rcases List.mem_cons.mp hp with rfl | hp
    · exact h2
    · exact all3 h3 h4 h5 p hp
theorem news_two {h₀ h : Heap} {L : Addr} {q1 q2 : Addr × Obj} {news : List (Addr × Obj)} (N : News h₀ L h news) (h1 : q1 ∈ news) (h2 : q2 ∈ news) : News h₀ L h [q1, q2] := fun p hp => by
  rcases List.mem_cons.mp hp with rfl | hp
  · exact N _ h1
  · rw [List.mem_singleton.mp hp]; exact N _ h2
theorem mem_two {q1 q2 : Addr × Obj} {news : List (Addr × Obj)} (h1 : q1 ∈ news) (h2 : q2 ∈ news) : ∀ p ∈ [q1, q2], p ∈ news := fun p hp => by
  rcases List.mem_cons.mp hp with rfl | hp
  · exact h1
  · rw [List.mem_singleton.mp hp]; exact h2
end
section
set_option maxRecDepth 4000
noncomputable def pstep (b rest : List Int) : List Int := zsubP (zscaleP rest (zleadP b)) (zraiseP (zscaleP b (zleadP rest)) (rest.length - b.length))
noncomputable def fstep (b rest found : List Int) : List Int := zsubP (zscaleP found (zleadP b)) (zraiseP [-(zleadP rest)] (rest.length - b.length))
noncomputable def prun (b : List Int) : Nat → List Int → List Int → Int → List Int × List Int × Int
  | 0, r, f, l => (r, f, l)
  | n + 1, r, f, l => if r.length < b.length then (r, f, l) else prun b n (pstep b r) (fstep b r f) (l - 1)
noncomputable def pseudoP (a b : List Int) : List Int × List Int × Int := prun b (a.length + 1) a [] ((a.length + 1 - b.length : Nat) : Int)
theorem getD_trim_last {a : List Int} (h : a ≠ []) (h0 : a.getLast h = 0) : (ztrimP a).length < a.length := by
  have e := List.dropLast_concat_getLast h
  have e2 : ztrimP a = ztrimP a.dropLast := by
    conv => lhs; rw [← e]
    rw [h0, ztrimP_snoc_zero]
  rw [e2]
  have h1 := ztrimP_len a.dropLast
  have h2 : a.dropLast.length = a.length - 1 := List.length_dropLast
  have h3 : 0 < a.length := List.length_pos_iff.mpr h
  omega
theorem zlead_getD (a : List Int) : zleadP a = a.getD (a.length - 1) 0 := by
  unfold zleadP
  rw [List.getLastD_eq_getLast?, List.getLast?_eq_getElem?]
  simp [List.getD]
theorem zscale_getD (a : List Int) (k : Int) (i : Nat) : (zscaleP a k).getD i 0 = a.getD i 0 * k := by
  unfold zscaleP
  split
  · simp only [List.getD, List.getElem?_map]
    cases a[i]? <;> simp
  · rename_i h
    have : k = 0 := Decidable.not_not.mp h
    simp [this]
theorem zraise_getD (a : List Int) (n i : Nat) : (zraiseP a n).getD i 0 = if i < n then 0 else a.getD (i - n) 0 := by
  unfold zraiseP
  split
  · simp only [List.getD]
    by_cases h : i < n
    · rw [if_pos h, List.getElem?_append_left (by simpa using h)]
      simp [h]
    · rw [if_neg h, List.getElem?_append_right (by simpa using h)]
      simp
  · rename_i h
    have : a = [] := List.length_eq_zero_iff.mp (by omega)
    subst this
    simp
theorem zneg_getD (a : List Int) (i : Nat) : (znegP a).getD i 0 = - a.getD i 0 := by
  unfold znegP
  simp only [List.getD, List.getElem?_map]
  cases a[i]? <;> simp
theorem sub_part {r b : Nat} (hb : 0 < b) (h : ¬ r < b) : r - 1 - (r - b) = b - 1 := by omega
theorem pstep_len {b rest : List Int} (hb : 0 < b.length) (h : ¬ rest.length < b.length) : (pstep b rest).length < rest.length := by
  unfold pstep zsubP zaddP
  have l1 := zscaleP_len rest (zleadP b)
  have l2 := zscaleP_len b (zleadP rest)
  have l3 := zraiseP_len (zscaleP b (zleadP rest)) (rest.length - b.length)
  have l4 := znegP_len (zraiseP (zscaleP b (zleadP rest)) (rest.length - b.length))
  generalize hN : max (zscaleP rest (zleadP b)).length (znegP (zraiseP (zscaleP b (zleadP rest)) (rest.length - b.length))).length = N
  have hle : N ≤ rest.length := hN ▸ Nat.max_le.mpr ⟨l1, Nat.le_trans l4 (Nat.le_trans l3 (Nat.le_trans (Nat.add_le_add_left l2 _) (Nat.le_of_eq (Nat.sub_add_cancel (Nat.le_of_not_lt h)))))⟩
  by_cases hlt : N < rest.length
  · exact Nat.lt_of_le_of_lt (ztrimP_len _) (by simpa using hlt)
  · have e : N = rest.length := Nat.le_antisymm hle (Nat.le_of_not_lt hlt)
    subst e
    have hne : (List.map (fun i => (zscaleP rest (zleadP b)).getD i 0 + (znegP (zraiseP (zscaleP b (zleadP rest)) (rest.length - b.length))).getD i 0) (List.range rest.length)) ≠ [] := by
      intro x
      have := congrArg List.length x
      rw [List.length_map, List.length_range, List.length_nil] at this
      exact absurd (Nat.lt_of_lt_of_le hb (Nat.le_of_not_lt h)) (this ▸ Nat.lt_irrefl 0)
    have := getD_trim_last hne ?_
    · simpa using this
    · rw [List.getLast_eq_getElem]
      simp only [List.getElem_map, List.length_map, List.length_range, List.getElem_range]
      rw [zneg_getD, zraise_getD, zscale_getD, if_neg (by omega), zscale_getD, zlead_getD rest, zlead_getD b]
      have e1 : rest.length - 1 - (rest.length - b.length) = b.length - 1 := sub_part hb h
      rw [e1]
      rw [Int.mul_comm]
      omega
theorem fstep_le {z s t f N r b : Nat} (h1 : z ≤ max s t) (h2 : s ≤ f) (h3 : t ≤ r - b + (0 + 1)) (hf : f ≤ N) (hb : 0 < b) (h : ¬ r < b) (hr : r ≤ N) : z ≤ N := Nat.le_trans h1 (Nat.max_le.mpr ⟨Nat.le_trans h2 hf, by omega⟩)
theorem fstep_len {b rest found : List Int} {N : Nat} (hf : found.length ≤ N) (h : ¬ rest.length < b.length) (hb : 0 < b.length) (hr : rest.length ≤ N) : (fstep b rest found).length ≤ N := by
  unfold fstep
  have h1 := zsubP_len (zscaleP found (zleadP b)) (zraiseP [-(zleadP rest)] (rest.length - b.length))
  have h2 := zscaleP_len found (zleadP b)
  have h3 := zraiseP_len [-(zleadP rest)] (rest.length - b.length)
  simp only [List.length_cons, List.length_nil] at h3
  exact fstep_le h1 h2 h3 hf hb h hr
theorem prun_done {b r f : List Int} {l : Int} (n : Nat) (h : r.length < b.length) : prun b n r f l = (r, f, l) := by
  cases n with
  | zero => rfl
  | succ n => simp [prun, h]
theorem prun_fuel {b : List Int} (hb : 0 < b.length) : ∀ (n m : Nat) (r f : List Int) (l : Int), r.length < n → r.length < m → prun b n r f l = prun b m r f l
  | 0, _, _, _, _, h, _ => absurd h (Nat.not_lt_zero _)
  | _ + 1, 0, _, _, _, _, h => absurd h (Nat.not_lt_zero _)
  | n + 1, m + 1, r, f, l, h1, h2 => by
    simp only [prun]
    split
    · rfl
    · rename_i hc
      have := pstep_len hb hc
      exact prun_fuel hb n m _ _ _ (by omega) (by omega)
/-- the invariant of pseudo's loop -/
noncomputable def PInv (a b rest found : List Int) (left : Int) : Prop :=
  prun b (rest.length + 1) rest found left = pseudoP a b ∧ rest.length ≤ a.length ∧ found.length ≤ a.length ∧ 0 ≤ left ∧ (rest.length : Int) - b.length + 1 ≤ left ∧ left ≤ a.length
theorem pinv_start {a b : List Int} (hb : 0 < b.length) : PInv a b a [] ((a.length + 1 - b.length : Nat) : Int) := by
  refine ⟨rfl, Nat.le_refl _, Nat.zero_le _, by omega, by omega, by omega⟩
theorem pinv_step {a b rest found : List Int} {left : Int} (hb : 0 < b.length) (h : PInv a b rest found left) (hc : ¬ rest.length < b.length) : PInv a b (pstep b rest) (fstep b rest found) (left - 1) := by
  obtain ⟨h1, h2, h3, h4, h5, h6⟩ := h
  have hl := pstep_len hb hc
  refine ⟨?_, by omega, fstep_len h3 hc hb h2, by omega, by omega, by omega⟩
  rw [← h1]
  conv => rhs; simp only [prun]
  rw [if_neg hc]
  exact prun_fuel hb _ _ _ _ _ (by omega) (by omega)
theorem pinv_end {a b rest found : List Int} {left : Int} (h : PInv a b rest found left) (hc : rest.length < b.length) : pseudoP a b = (rest, found, left) := by
  rw [← h.1]; exact prun_done _ hc
end
section
structure PS where
  lr : Addr
  vr : List Value
  nr : Nat
  R : List Int
  lf : Addr
  vf : List Value
  nf : Nat
  F : List Int
  left : Int
  tl : Tok
theorem many_eq (a b : List Int) (hb : 0 < b.length) : (if (a.length : Int) - (b.length : Int) + 1 > 0 then (a.length : Int) - (b.length : Int) + 1 else 0) = ((a.length + 1 - b.length : Nat) : Int) := by
  split <;> omega
theorem pstep_eq {b r : List Int} (h0 : 0 < b.length) (hge : (b.length : Int) ≤ (r.length : Int)) :
    zsubP (zscaleP r (zleadP b)) (zraiseP (zscaleP b (r.getD (-1 + (r.length : Int)).toNat 0)) ((r.length : Int) - (b.length : Int)).toNat) = pstep b r := by
  have e : ((r.length : Int) - (b.length : Int)).toNat = r.length - b.length := by omega
  rw [zlead_some (by omega), e]; rfl
theorem fstep_eq {b r f : List Int} (h0 : 0 < b.length) (hge : (b.length : Int) ≤ (r.length : Int)) :
    zsubP (zscaleP f (zleadP b)) (zraiseP [-(r.getD (-1 + (r.length : Int)).toNat 0)] ((r.length : Int) - (b.length : Int)).toNat) = fstep b r f := by
  have e : ((r.length : Int) - (b.length : Int)).toNat = r.length - b.length := by omega
  rw [zlead_some (by omega), e]; rfl
theorem pseudo_c (w : World) (mean : ExcName → Option Value) (mg mb : Str → Option Value) (l1 l2 : Addr) (vs1 vs2 : List Value) (ns1 ns2 : List Int) (hi1 : IntsAre vs1 ns1) (hl1 : ns1.length < 2 ^ 9) (hi2 : IntsAre vs2 ns2) (hl2 : ns2.length < 2 ^ 9) (h0 : 0 < ns2.length) (hs : SmL ns2) (hz : Sm (zleadP ns2)) (hpw : PowSm (zleadP ns2) ns1.length) :
    Tell PySem.Challenge.rw_sa0099_01.row.prog w (Mine.hd.heap_39 w.params) Mine.hd.view_39 (looseW Mine.hd.view_39 []) mean mg mb 133 [.ref l1, .ref l2] 4 (fun h => h.IsList l1 vs1.toArray ∧ h.IsList l2 vs2.toArray)
      (RetP (zscaleP (pseudoP ns1 ns2).2.1 (zleadP ns2 ^ (pseudoP ns1 ns2).2.2.toNat)) (zscaleP (pseudoP ns1 ns2).1 (zleadP ns2 ^ (pseudoP ns1 ns2).2.2.toNat)) ((ns1.length + 1 - ns2.length : Nat) : Int)) := by
  k_with_none
  k_with "my w1" => ((k_here; (with_reducible show wpAny _ _ (exec (Stmt.While _ _ _ _) _) _ _ _); k_extra "my while"))
  k_with "my w1" => ((k_here; (with_reducible show wpAny _ _ (exec (Stmt.For _ _ _ _ _) _) _ _ _); k_extra "my for"))
  k_with "pyIter ref" => ((k_here; k_extra "my iter"))
  k_with "call type:enumerate" => ((k_here; k_extra "my enum"))
  k_with "my fits" => (first | exact MulAll.ok (by assumption) _ (by assumption) | exact Sm.mulR (by assumption) | exact Sm.mulL (by assumption) | exact Sm.mulR (SmL.at (by assumption) (by assumption)) | exact Sm.mulL (SmL.at (by assumption) (by assumption)))
  k_with "binaryOp FloorDiv int int" => ((k_here; k_dflt ((refine floordiv_int ?kb ?_ (Or.inl (Sm.py ?kp))); (case kb => first | assumption | exact Nz.ne (by assumption) | omega | exact PowNz.ok (by assumption) _); (case kp => first | assumption | exact PowSm.ok (by assumption) _ (by omega)))))
  k_with "exec Raise some none" => ((exfalso; omega))
  k_with "call ref" => ((k_here; k_extra "my call"))
  k_with "my fits" => (k_dflt (first | exact Sm.mulR (by assumption) | exact Sm.mulL (by assumption) | exact Sm.mulR (PowSm.ok (by assumption) _ (by omega)) | exact Sm.mulL (PowSm.ok (by assumption) _ (by omega))))
  k_with "binaryOp Pow int int" => ((k_here; k_dflt ((refine pow_int_small ?kp1 ?kp2 ?kp3 ?_); (case kp1 => first | omega | l_fact); (case kp2 => first | omega | l_fact); (case kp3 => exact Sm.lt64 (by assumption)))))
  k_with "my call" => (first | (k_dflt (refine' use_N (check_bottom_c _ _ _ _ _ _ _ ?p0 ?p1 ?p2) ?kB ?kF ?kX ?kN ?kT ?kK ?kd ?ku ?kP ?_; (case kP => (first | exact trivial | (first | exact isl (by assumption) (by k_mem) | is_list) | (refine And.intro ?_ ?_ <;> (first | exact isl (by assumption) (by k_mem) | is_list)))); (case p0 => first | assumption | exact .nil | exact .cons _ _ .nil | exact .cons _ _ (.cons _ _ .nil) | exact .cons _ _ (.cons _ _ (.cons _ _ .nil)) | l_ints); (case p1 => first | assumption | exact Nat.lt_of_lt_of_le (by assumption) (by decide) | l_fit | omega | (simp only [List.length_cons, List.length_nil, List.length_append, List.length_map, List.length_replicate, List.length_reverse, rangeKs_length] at *; omega)); (case p2 => l_fit); (case kB => k_asm); (case kF => k_asm); (case kX => k_asm); (case kN => k_asm); (case kT => k_asm); (case kK => first | exact rfl | assumption); (case kd => first | exact roomK (by assumption) (by decide) | ((try simp only [depth_under_make, depth_under_kw, depth_in1, depth_deeper, depth_caller]); (try dsimp only [ktrTop]); first | exact roomK (by assumption) (by decide) | exact roomG rfl (by decide)) | ktr_room); (case ku => first | ((try simp only [units_in1, units_deeper, Around.mark_units, units_caller]); (try dsimp only [ktrTop]); first | exact unitsK (by assumption) (by decide) | exact unitsK64 (by assumption) (by decide) | exact unitsG rfl (by decide) | exact unitsG64 rfl) | ktr_units); intro h9 tk9 F9 N9; (try dsimp only); (try k_sweep); (try k_fold))) | (k_dflt (refine' use_I (zlead_c _ _ _ _ _ _ _ ?p0 ?p1) ?kB ?kF ?kX ?kN ?kT ?kK ?kd ?ku ?kP ?_; (case kP => (first | exact trivial | (first | exact isl (by assumption) (by k_mem) | is_list) | (refine And.intro ?_ ?_ <;> (first | exact isl (by assumption) (by k_mem) | is_list)))); (case p0 => first | assumption | exact .nil | exact .cons _ _ .nil | exact .cons _ _ (.cons _ _ .nil) | exact .cons _ _ (.cons _ _ (.cons _ _ .nil)) | l_ints); (case p1 => first | assumption | exact Nat.lt_of_lt_of_le (by assumption) (by decide) | l_fit | omega | (simp only [List.length_cons, List.length_nil, List.length_append, List.length_map, List.length_replicate, List.length_reverse, rangeKs_length] at *; omega)); (case kB => k_asm); (case kF => k_asm); (case kX => k_asm); (case kN => k_asm); (case kT => k_asm); (case kK => first | exact rfl | assumption); (case kd => first | exact roomK (by assumption) (by decide) | ((try simp only [depth_under_make, depth_under_kw, depth_in1, depth_deeper, depth_caller]); (try dsimp only [ktrTop]); first | exact roomK (by assumption) (by decide) | exact roomG rfl (by decide)) | ktr_room); (case ku => first | ((try simp only [units_in1, units_deeper, Around.mark_units, units_caller]); (try dsimp only [ktrTop]); first | exact unitsK (by assumption) (by decide) | exact unitsK64 (by assumption) (by decide) | exact unitsG rfl (by decide) | exact unitsG64 rfl) | ktr_units); intro t9 h9 tk9 F9 N9; (try dsimp only); (try k_sweep); (try k_fold))) | (k_dflt (refine' use_L (zsub_c _ _ _ _ _ _ _ _ _ _ ?p0 ?p1 ?p2 ?p3) ?kB ?kF ?kX ?kN ?kT ?kK ?kd ?ku ?kP ?kb ?_; (case kP => (first | exact trivial | (first | exact isl (by assumption) (by k_mem) | is_list) | (refine And.intro ?_ ?_ <;> (first | exact isl (by assumption) (by k_mem) | is_list)))); (case p0 => first | assumption | exact .nil | exact .cons _ _ .nil | exact .cons _ _ (.cons _ _ .nil) | exact .cons _ _ (.cons _ _ (.cons _ _ .nil)) | l_ints); (case p1 => first | assumption | exact Nat.lt_of_lt_of_le (by assumption) (by decide) | l_fit | omega | (simp only [List.length_cons, List.length_nil, List.length_append, List.length_map, List.length_replicate, List.length_reverse, rangeKs_length] at *; omega)); (case p2 => first | assumption | exact .nil | exact .cons _ _ .nil | exact .cons _ _ (.cons _ _ .nil) | exact .cons _ _ (.cons _ _ (.cons _ _ .nil)) | l_ints); (case p3 => first | assumption | exact Nat.lt_of_lt_of_le (by assumption) (by decide) | l_fit | omega | (simp only [List.length_cons, List.length_nil, List.length_append, List.length_map, List.length_replicate, List.length_reverse, rangeKs_length] at *; omega)); (case kb => exact zsubP_len _ _); (case kB => k_asm); (case kF => k_asm); (case kX => k_asm); (case kN => k_asm); (case kT => k_asm); (case kK => first | exact rfl | assumption); (case kd => first | exact roomK (by assumption) (by decide) | ((try simp only [depth_under_make, depth_under_kw, depth_in1, depth_deeper, depth_caller]); (try dsimp only [ktrTop]); first | exact roomK (by assumption) (by decide) | exact roomG rfl (by decide)) | ktr_room); (case ku => first | ((try simp only [units_in1, units_deeper, Around.mark_units, units_caller]); (try dsimp only [ktrTop]); first | exact unitsK (by assumption) (by decide) | exact unitsK64 (by assumption) (by decide) | exact unitsG rfl (by decide) | exact unitsG64 rfl) | ktr_units); intro l9 ys9 n9 h9 tk9 F9 N9 ne9 hi9 hb9; (have no9 := ne9); (clear ne9); (try dsimp only); (try k_sweep); (try k_fold))) | (k_dflt (refine' use_L (zraise_c _ _ _ _ _ _ _ _ _ ?p0 ?p1 ?p2 ?p3) ?kB ?kF ?kX ?kN ?kT ?kK ?kd ?ku ?kP ?kb ?_; (case kP => (first | exact trivial | (first | exact isl (by assumption) (by k_mem) | is_list) | (refine And.intro ?_ ?_ <;> (first | exact isl (by assumption) (by k_mem) | is_list)))); (case p0 => first | assumption | exact .nil | exact .cons _ _ .nil | exact .cons _ _ (.cons _ _ .nil) | exact .cons _ _ (.cons _ _ (.cons _ _ .nil)) | l_ints); (case p1 => first | assumption | exact Nat.lt_of_lt_of_le (by assumption) (by decide) | l_fit | omega | (simp only [List.length_cons, List.length_nil, List.length_append, List.length_map, List.length_replicate, List.length_reverse, rangeKs_length] at *; omega)); (case p2 => l_fact); (case p3 => l_fact); (case kb => exact zraiseP_len _ _); (case kB => k_asm); (case kF => k_asm); (case kX => k_asm); (case kN => k_asm); (case kT => k_asm); (case kK => first | exact rfl | assumption); (case kd => first | exact roomK (by assumption) (by decide) | ((try simp only [depth_under_make, depth_under_kw, depth_in1, depth_deeper, depth_caller]); (try dsimp only [ktrTop]); first | exact roomK (by assumption) (by decide) | exact roomG rfl (by decide)) | ktr_room); (case ku => first | ((try simp only [units_in1, units_deeper, Around.mark_units, units_caller]); (try dsimp only [ktrTop]); first | exact unitsK (by assumption) (by decide) | exact unitsK64 (by assumption) (by decide) | exact unitsG rfl (by decide) | exact unitsG64 rfl) | ktr_units); intro l9 ys9 n9 h9 tk9 F9 N9 ne9 hi9 hb9; (have no9 := ne9); (clear ne9); (try dsimp only); (try k_sweep); (try k_fold))) | (k_dflt (refine' use_L (zscale_c _ _ _ _ _ _ _ _ _ ?p0 ?p1 ?p2) ?kB ?kF ?kX ?kN ?kT ?kK ?kd ?ku ?kP ?kb ?_; (case kP => (first | exact trivial | (first | exact isl (by assumption) (by k_mem) | is_list) | (refine And.intro ?_ ?_ <;> (first | exact isl (by assumption) (by k_mem) | is_list)))); (case p0 => first | assumption | exact .nil | exact .cons _ _ .nil | exact .cons _ _ (.cons _ _ .nil) | exact .cons _ _ (.cons _ _ (.cons _ _ .nil)) | l_ints); (case p1 => first | assumption | exact Nat.lt_of_lt_of_le (by assumption) (by decide) | l_fit | omega | (simp only [List.length_cons, List.length_nil, List.length_append, List.length_map, List.length_replicate, List.length_reverse, rangeKs_length] at *; omega)); (case p2 => (first | exact MulAll.ofR (by assumption) | exact MulAll.ofL (by assumption) | assumption | exact MulAll.ofR (PowSm.ok (by assumption) _ (by omega)))); (case kb => exact zscaleP_len _ _); (case kB => k_asm); (case kF => k_asm); (case kX => k_asm); (case kN => k_asm); (case kT => k_asm); (case kK => first | exact rfl | assumption); (case kd => first | exact roomK (by assumption) (by decide) | ((try simp only [depth_under_make, depth_under_kw, depth_in1, depth_deeper, depth_caller]); (try dsimp only [ktrTop]); first | exact roomK (by assumption) (by decide) | exact roomG rfl (by decide)) | ktr_room); (case ku => first | ((try simp only [units_in1, units_deeper, Around.mark_units, units_caller]); (try dsimp only [ktrTop]); first | exact unitsK (by assumption) (by decide) | exact unitsK64 (by assumption) (by decide) | exact unitsG rfl (by decide) | exact unitsG64 rfl) | ktr_units); intro l9 ys9 n9 h9 tk9 F9 N9 ne9 hi9 hb9; (have no9 := ne9); (clear ne9); (try dsimp only); (try k_sweep); (try k_fold))))
  k_fill
  unfold Tell
  intro dp un gd cn cs a ccd cl outer A₀ base h₀ L m s Q E B F X T hk hd hu hP hret
  refine wpAny_call ?_
  refine' code_defG (news := []) ?k1 ?k2 ?k3 (fun _ h => nomatch h) ?k5 ?kA ?kF ?kK ?k6 ?k7 ?k8 ?k9 ?kB ?_ ?c2 ?c3 ?c4 ?c5
  case kA => exact rfl
  case kF => exact rfl
  case kK => assumption
  case k1 => k_asm
  case k2 => k_asm
  case k3 => k_asm
  case k5 => k_asm
  case k6 => k_dflt k_is
  case k7 => k_dflt k_is
  case k8 => first | exact room0 (by assumption) | ((try simp only [depth_under_make, depth_under_kw, depth_in1, depth_deeper, depth_caller]); (try dsimp only [ktrTop]); exact room0 (by assumption)) | ktr_room
  case k9 => exact BindsTo.of_eq rfl
  case c5 => decide
  case kB => exact locs rfl
  case c2 => exact rfl
  case c3 => exact rfl
  case c4 => exact rfl
  intro g' L' h' FG' F' N' B' X' T' G'
  clear B F X T
  try dsimp only
  try k_fold
  obtain ⟨hP1, hP2⟩ := hP
  have hP1' := lift_list G' hP1
  have hP2' := lift_list G' hP2
  k_with "my while" => refine Stop.mk ?_
  k_steps
  unfold Stop
  refine' ksw_while (σ := PS) (fun c => [(c.lr, listOf c.vr.toArray c.nr), (c.lf, listOf c.vf.toArray c.nf)]) (fun c => [("rest", .ref c.lr), ("found", .ref c.lf), ("left", .int c.left c.tl)]) (fun c => IntsAre c.vr c.R ∧ IntsAre c.vf c.F) ["number", "power"]
    (fun c => PInv ns1 ns2 c.R c.F c.left) (fun c => c.R.length) ⟨_, _, _, ns1, _, [], _, [], (if (ns1.length : Int) - (ns2.length : Int) + 1 > 0 then (ns1.length : Int) - (ns2.length : Int) + 1 else 0), _⟩ ?F ?N ?hf (all3 ?k1 ?k2 ?k3) ?hp ?turn ?hE
  case F => assumption
  case k1 => exact rfl
  case k2 => exact rfl
  case k3 => exact rfl
  case N => exact news_two (by assumption) (by k_mem) (by k_mem)
  case hf => exact ⟨by assumption, .nil⟩
  case hE => first | passes_own | with_unfolding_all passes_own
  case hp => rw [many_eq _ _ h0]; exact pinv_start h0
  case turn =>
    intro c u h tk hf hp F N
    obtain ⟨hfr, hff⟩ := hf
    obtain ⟨lr, vr, nr, R, lf, vf, nf, FF, left, tl⟩ := c
    dsimp only at F N hfr hff hp
    have hpi := hp
    obtain ⟨hp1, hp2, hp3, hp4, hp5, hp6⟩ := hp
    k_steps
    · refine' ksw_end ⟨_, _, _, pstep ns2 R, _, _, _, fstep ns2 R FF, left - 1, _⟩ (by assumption) (by assumption) ?hn ?hf (all3 ?k1 ?k2 ?k3) ?hr ?hp ?hm
      case k1 => exact rfl
      case k2 => exact rfl
      case k3 => exact rfl
      case hn => exact mem_two (by k_mem) (by k_mem)
      case hf =>
        refine ⟨?_, ?_⟩
        · rw [← pstep_eq h0 (by assumption)]; assumption
        · rw [← fstep_eq h0 (by assumption)]; assumption
      case hr => (intro z h2 h3; simp at h2 h3; simp [kstB, h2, h3])
      case hp => exact pinv_step h0 hpi (by omega)
      case hm => exact pstep_len h0 (by omega)
    · all_goals ((try dsimp only); (try (k_unfold; try dsimp only)); (try (k_unfold; try dsimp only)))
      have he := pinv_end hpi (by omega)
      refine leaveP hret (by assumption) (by assumption) (by assumption) (.head _) (by k_mem) (by k_mem) (by assumption) (by assumption) (by rw [he]) (by rw [he]) (many_eq _ _ h0)
end
section
set_option maxRecDepth 4000
theorem prun_len {b : List Int} {N : Nat} (hb : 0 < b.length) : ∀ (n : Nat) (r f : List Int) (l : Int), r.length ≤ N → f.length ≤ N → (prun b n r f l).1.length ≤ N ∧ (prun b n r f l).2.1.length ≤ N
  | 0, _, _, _, h1, h2 => ⟨h1, h2⟩
  | n + 1, r, f, l, h1, h2 => by
    simp only [prun]
    split
    · exact ⟨h1, h2⟩
    · rename_i hc
      have := pstep_len hb hc
      exact prun_len hb n _ _ _ (by omega) (fstep_len h2 hc hb h1)
noncomputable def restP (a b : List Int) : List Int := zscaleP (pseudoP a b).1 (zleadP b ^ (pseudoP a b).2.2.toNat)
theorem pseudo_lenr {a b : List Int} (hb : 0 < b.length) : (zscaleP (pseudoP a b).1 (zleadP b ^ (pseudoP a b).2.2.toNat)).length ≤ a.length :=
  Nat.le_trans (zscaleP_len _ _) (prun_len hb _ _ _ _ (Nat.le_refl _) (Nat.zero_le _)).1
theorem pseudo_lenq {a b : List Int} (hb : 0 < b.length) : (zscaleP (pseudoP a b).2.1 (zleadP b ^ (pseudoP a b).2.2.toNat)).length ≤ a.length :=
  Nat.le_trans (zscaleP_len _ _) (prun_len hb _ _ _ _ (Nat.le_refl _) (Nat.zero_le _)).2
theorem restP_len {a b : List Int} (hb : 0 < b.length) : (restP a b).length ≤ a.length := pseudo_lenr hb
theorem full_rest_eq {r a b : List Int} {x : Int} (h : b.length ≤ a.length + 1) :
    List.map (fun k => k * x ^ ((a.length : Int) - 1 - ((b.length : Int) - 1) + 1 - ((a.length + 1 - b.length : Nat) : Int)).toNat) r = r := by
  have e : ((a.length : Int) - 1 - ((b.length : Int) - 1) + 1 - ((a.length + 1 - b.length : Nat) : Int)).toNat = 0 := by omega
  rw [e]
  simp
end
section
theorem full_rest_c (w : World) (mean : ExcName → Option Value) (mg mb : Str → Option Value) (l1 l2 : Addr) (vs1 vs2 : List Value) (ns1 ns2 : List Int) (hi1 : IntsAre vs1 ns1) (hl1 : ns1.length < 2 ^ 9) (hi2 : IntsAre vs2 ns2) (hl2 : ns2.length < 2 ^ 9) (h0 : 0 < ns2.length) (h1 : ns2.length ≤ ns1.length + 1) (hs : SmL ns2) (hz : Sm (zleadP ns2)) (hpw : PowSm (zleadP ns2) ns1.length) :
    Tell PySem.Challenge.rw_sa0099_01.row.prog w (Mine.hd.heap_39 w.params) Mine.hd.view_39 (looseW Mine.hd.view_39 []) mean mg mb 143 [.ref l1, .ref l2] 5 (fun h => h.IsList l1 vs1.toArray ∧ h.IsList l2 vs2.toArray) (RetL (restP ns1 ns2)) := by
  k_with_none
  k_with "my w1" => ((k_here; (with_reducible show wpAny _ _ (exec (Stmt.While _ _ _ _) _) _ _ _); k_extra "my while"))
  k_with "my w1" => ((k_here; (with_reducible show wpAny _ _ (exec (Stmt.For _ _ _ _ _) _) _ _ _); k_extra "my for"))
  k_with "pyIter ref" => ((k_here; k_extra "my iter"))
  k_with "call type:enumerate" => ((k_here; k_extra "my enum"))
  k_with "my fits" => (first | exact MulAll.ok (by assumption) _ (by assumption) | exact Sm.mulR (by assumption) | exact Sm.mulL (by assumption) | exact Sm.mulR (SmL.at (by assumption) (by assumption)) | exact Sm.mulL (SmL.at (by assumption) (by assumption)))
  k_with "binaryOp FloorDiv int int" => ((k_here; k_dflt ((refine floordiv_int ?kb ?_ (Or.inl (Sm.py ?kp))); (case kb => first | assumption | exact Nz.ne (by assumption) | omega | exact PowNz.ok (by assumption) _); (case kp => first | assumption | exact PowSm.ok (by assumption) _ (by omega)))))
  k_with "exec Raise some none" => ((exfalso; omega))
  k_with "call ref" => ((k_here; k_extra "my call"))
  k_with "my fits" => (k_dflt (first | exact Sm.mulR (by assumption) | exact Sm.mulL (by assumption) | exact Sm.mulR (PowSm.ok (by assumption) _ (by omega)) | exact Sm.mulL (PowSm.ok (by assumption) _ (by omega))))
  k_with "binaryOp Pow int int" => ((k_here; k_dflt ((refine pow_int_small ?kp1 ?kp2 ?kp3 ?_); (case kp1 => first | omega | l_fact); (case kp2 => first | omega | l_fact); (case kp3 => exact Sm.lt64 (by assumption)))))
  k_with "my call" => (first | (k_dflt (refine' use_I (zdegree_c _ _ _ _ _ _ _ ?p0 ?p1) ?kB ?kF ?kX ?kN ?kT ?kK ?kd ?ku ?kP ?_; (case kP => (first | exact trivial | (first | exact isl (by assumption) (by k_mem) | is_list) | (refine And.intro ?_ ?_ <;> (first | exact isl (by assumption) (by k_mem) | is_list)))); (case p0 => first | assumption | exact .nil | exact .cons _ _ .nil | exact .cons _ _ (.cons _ _ .nil) | exact .cons _ _ (.cons _ _ (.cons _ _ .nil)) | l_ints); (case p1 => first | assumption | exact Nat.lt_of_lt_of_le (by assumption) (by decide) | l_fit | omega | (simp only [List.length_cons, List.length_nil, List.length_append, List.length_map, List.length_replicate, List.length_reverse, rangeKs_length] at *; omega)); (case kB => k_asm); (case kF => k_asm); (case kX => k_asm); (case kN => k_asm); (case kT => k_asm); (case kK => first | exact rfl | assumption); (case kd => first | exact roomK (by assumption) (by decide) | ((try simp only [depth_under_make, depth_under_kw, depth_in1, depth_deeper, depth_caller]); (try dsimp only [ktrTop]); first | exact roomK (by assumption) (by decide) | exact roomG rfl (by decide)) | ktr_room); (case ku => first | ((try simp only [units_in1, units_deeper, Around.mark_units, units_caller]); (try dsimp only [ktrTop]); first | exact unitsK (by assumption) (by decide) | exact unitsK64 (by assumption) (by decide) | exact unitsG rfl (by decide) | exact unitsG64 rfl) | ktr_units); intro t9 h9 tk9 F9 N9; (try dsimp only); (try k_sweep); (try k_fold))) | (k_dflt (refine' use_I (zlead_c _ _ _ _ _ _ _ ?p0 ?p1) ?kB ?kF ?kX ?kN ?kT ?kK ?kd ?ku ?kP ?_; (case kP => (first | exact trivial | (first | exact isl (by assumption) (by k_mem) | is_list) | (refine And.intro ?_ ?_ <;> (first | exact isl (by assumption) (by k_mem) | is_list)))); (case p0 => first | assumption | exact .nil | exact .cons _ _ .nil | exact .cons _ _ (.cons _ _ .nil) | exact .cons _ _ (.cons _ _ (.cons _ _ .nil)) | l_ints); (case p1 => first | assumption | exact Nat.lt_of_lt_of_le (by assumption) (by decide) | l_fit | omega | (simp only [List.length_cons, List.length_nil, List.length_append, List.length_map, List.length_replicate, List.length_reverse, rangeKs_length] at *; omega)); (case kB => k_asm); (case kF => k_asm); (case kX => k_asm); (case kN => k_asm); (case kT => k_asm); (case kK => first | exact rfl | assumption); (case kd => first | exact roomK (by assumption) (by decide) | ((try simp only [depth_under_make, depth_under_kw, depth_in1, depth_deeper, depth_caller]); (try dsimp only [ktrTop]); first | exact roomK (by assumption) (by decide) | exact roomG rfl (by decide)) | ktr_room); (case ku => first | ((try simp only [units_in1, units_deeper, Around.mark_units, units_caller]); (try dsimp only [ktrTop]); first | exact unitsK (by assumption) (by decide) | exact unitsK64 (by assumption) (by decide) | exact unitsG rfl (by decide) | exact unitsG64 rfl) | ktr_units); intro t9 h9 tk9 F9 N9; (try dsimp only); (try k_sweep); (try k_fold))) | (k_dflt (refine' use_P (pseudo_c _ _ _ _ _ _ _ _ _ _ ?p0 ?p1 ?p2 ?p3 ?p4 ?p5 ?p6 ?p7) ?kB ?kF ?kX ?kN ?kT ?kK ?kd ?ku ?kP ?kb1 ?kb2 ?_; (case kP => (first | exact trivial | (first | exact isl (by assumption) (by k_mem) | is_list) | (refine And.intro ?_ ?_ <;> (first | exact isl (by assumption) (by k_mem) | is_list)))); (case p0 => first | assumption | exact .nil | exact .cons _ _ .nil | exact .cons _ _ (.cons _ _ .nil) | exact .cons _ _ (.cons _ _ (.cons _ _ .nil)) | l_ints); (case p1 => first | assumption | exact Nat.lt_of_lt_of_le (by assumption) (by decide) | l_fit | omega | (simp only [List.length_cons, List.length_nil, List.length_append, List.length_map, List.length_replicate, List.length_reverse, rangeKs_length] at *; omega)); (case p2 => first | assumption | exact .nil | exact .cons _ _ .nil | exact .cons _ _ (.cons _ _ .nil) | exact .cons _ _ (.cons _ _ (.cons _ _ .nil)) | l_ints); (case p3 => first | assumption | exact Nat.lt_of_lt_of_le (by assumption) (by decide) | l_fit | omega | (simp only [List.length_cons, List.length_nil, List.length_append, List.length_map, List.length_replicate, List.length_reverse, rangeKs_length] at *; omega)); (case p4 => first | assumption | exact Nat.lt_of_lt_of_le (by assumption) (by decide) | l_fit | omega | (simp only [List.length_cons, List.length_nil, List.length_append, List.length_map, List.length_replicate, List.length_reverse, rangeKs_length] at *; omega)); (case p5 => assumption); (case p6 => assumption); (case p7 => assumption); (case kb1 => exact (pseudo_lenq (by first | assumption | omega))); (case kb2 => exact (pseudo_lenr (by first | assumption | omega))); (case kB => k_asm); (case kF => k_asm); (case kX => k_asm); (case kN => k_asm); (case kT => k_asm); (case kK => first | exact rfl | assumption); (case kd => first | exact roomK (by assumption) (by decide) | ((try simp only [depth_under_make, depth_under_kw, depth_in1, depth_deeper, depth_caller]); (try dsimp only [ktrTop]); first | exact roomK (by assumption) (by decide) | exact roomG rfl (by decide)) | ktr_room); (case ku => first | ((try simp only [units_in1, units_deeper, Around.mark_units, units_caller]); (try dsimp only [ktrTop]); first | exact unitsK (by assumption) (by decide) | exact unitsK64 (by assumption) (by decide) | exact unitsG rfl (by decide) | exact unitsG64 rfl) | ktr_units); intro T9 q9 l9 yq9 ys9 n9 nq9 nr9 t9 h9 tk9 F9 N9 neT9 neq9 ne9 iq9 hi9 bq9 hb9; (have no9 := ne9); (clear ne9); (try dsimp only); (try k_sweep); (try k_fold))))
  k_fill
  unfold Tell
  intro dp un gd cn cs a ccd cl outer A₀ base h₀ L m s Q E B F X T hk hd hu hP hret
  refine wpAny_call ?_
  refine' enterC ?k1 ?k2 ?k3 ?k5 ?kA ?kF ?kK ?k6 ?k7 ?k8 ?k9 ?kB ?kD ?_ ?c2 ?c3 ?c4
  case kA => exact rfl
  case kF => exact rfl
  case kK => assumption
  case k1 => k_asm
  case k2 => k_asm
  case k3 => k_asm
  case k5 => k_asm
  case k6 => k_dflt k_is
  case k7 => k_dflt k_is
  case k8 => first | exact room0 (by assumption) | ((try simp only [depth_under_make, depth_under_kw, depth_in1, depth_deeper, depth_caller]); (try dsimp only [ktrTop]); exact room0 (by assumption)) | ktr_room
  case k9 => exact BindsTo.of_eq rfl
  case kB => exact rfl
  case kD => decide +kernel
  case c2 => exact rfl
  case c3 => exact rfl
  case c4 => exact rfl
  intro g' L' h' tk' cells' FG' F' N' Y' B' X' T' G'
  k_cells Y'
  clear B F X T
  try dsimp only
  try k_fold
  obtain ⟨hP1, hP2⟩ := hP
  have hP1' := lift_list G' hP1
  have hP2' := lift_list G' hP2
  k_steps
  all_goals ((try dsimp only); (try (k_unfold; try dsimp only)); (try (k_unfold; try dsimp only)))
  exact leaveL hret (by assumption) (by assumption) (by assumption) (.head _) (by assumption) (full_rest_eq h1)
end
section
set_option maxRecDepth 4000
/-- the degrees' gap, as the text reckons it -/
abbrev gapI (a b : List Int) : Int := (a.length : Int) - 1 - ((b.length : Int) - 1)
noncomputable def rowH (a b : List Int) (h : Int) : Int := if gapI a b > 0 then Int.fdiv (zleadP b ^ (gapI a b).toNat) (h ^ (gapI a b - 1).toNat) else h
noncomputable def rowS (a b : List Int) (sign : Int) : Int := if Int.fmod ((a.length : Int) - 1) 2 = 1 ∧ Int.fmod ((b.length : Int) - 1) 2 = 1 then -sign else sign
noncomputable def rowB (a b : List Int) (g h : Int) : List Int := dividedP (restP a b) (g * h ^ (gapI a b).toNat)
noncomputable def rowEnd (a b : List Int) (h sign : Int) : Int := if b = [] then 0 else sign * (if (a.length : Int) - 1 > 0 then Int.fdiv (b.getD 0 0 ^ ((a.length : Int) - 1).toNat) (h ^ ((a.length : Int) - 1 - 1).toNat) else 1)
noncomputable def rowP : Nat → List Int → List Int → Int → Int → Int → Int
  | 0, _, _, _, _, _ => 0
  | n + 1, a, b, g, h, sign => if b.length ≤ 1 then rowEnd a b h sign else rowP n b (rowB a b g h) (zleadP b) (rowH a b h) (rowS a b sign)
theorem PowNz.of {x : Int} (h : x ≠ 0) : PowNz x := ⟨fun k => Int.pow_ne_zero h⟩
/-- every number on the way is of a size that the model reckons, and no division is by nought -/
structure RowTurn (a b : List Int) (g h : Int) : Prop where
  la : a.length < 2 ^ 9
  le : b.length ≤ a.length
  sb : SmL b
  sz : Sm (zleadP b)
  pw : PowSm (zleadP b) a.length
  sg : Sm g
  sh : Sm h
  ph : PowSm h a.length
  d0 : Nz (g * h ^ (gapI a b).toNat)
  ds : Sm (g * h ^ (gapI a b).toNat)
  h0 : h ≠ 0
structure RowStop (a b : List Int) (h : Int) : Prop where
  la : a.length < 2 ^ 9
  sb : Sm (b.getD 0 0)
  sh : Sm h
  ph : PowSm h a.length
  h0 : h ≠ 0
noncomputable def RowOk : Nat → List Int → List Int → Int → Int → Prop
  | 0, _, _, _, _ => False
  | n + 1, a, b, g, h => if b.length ≤ 1 then RowStop a b h else RowTurn a b g h ∧ RowOk n b (rowB a b g h) (zleadP b) (rowH a b h)
theorem RowOk.stop {n : Nat} {a b : List Int} {g h : Int} (x : RowOk (n + 1) a b g h) (hb : b.length ≤ 1) : RowStop a b h := by
  simp only [RowOk, if_pos hb] at x; exact x
theorem RowOk.turn {n : Nat} {a b : List Int} {g h : Int} (x : RowOk (n + 1) a b g h) (hb : ¬ b.length ≤ 1) : RowTurn a b g h ∧ RowOk n b (rowB a b g h) (zleadP b) (rowH a b h) := by
  simp only [RowOk, if_neg hb] at x; exact x
theorem rowP_stop {n : Nat} {a b : List Int} {g h sign : Int} (hb : b.length ≤ 1) : rowP (n + 1) a b g h sign = rowEnd a b h sign := by simp only [rowP, if_pos hb]
theorem rowP_turn {n : Nat} {a b : List Int} {g h sign : Int} (hb : ¬ b.length ≤ 1) : rowP (n + 1) a b g h sign = rowP n b (rowB a b g h) (zleadP b) (rowH a b h) (rowS a b sign) := by simp only [rowP, if_neg hb]
theorem rowB_len {a b : List Int} {g h : Int} (hb : 0 < b.length) : (rowB a b g h).length ≤ a.length := Nat.le_trans (dividedP_len _ _) (restP_len hb)
theorem Sm.neg {x : Int} (h : Sm x) : Sm (-x) := ⟨by have := h.lt; omega⟩
theorem rowS_sm {a b : List Int} {s : Int} (h : Sm s) : Sm (rowS a b s) := by
  unfold rowS
  split
  · exact h.neg
  · exact h
end
section
set_option maxRecDepth 4000
theorem rowEnd_nil {a b : List Int} {h sign : Int} (hb : b.length = 0) : 0 = rowEnd a b h sign := by
  unfold rowEnd
  rw [if_pos (List.length_eq_zero_iff.mp hb)]
theorem rowEnd_pos {a b : List Int} {h sign : Int} (hb : ¬ b.length = 0) (ha : 0 < (a.length : Int) - 1) :
    sign * Int.fdiv (b.getD (Int.toNat 0) 0 ^ ((a.length : Int) - 1).toNat) (h ^ ((a.length : Int) - 1 - 1).toNat) = rowEnd a b h sign := by
  unfold rowEnd
  rw [if_neg (fun e => hb (by rw [e]; rfl)), if_pos ha]; rfl
theorem rowEnd_one {a b : List Int} {h sign : Int} (hb : ¬ b.length = 0) (ha : ¬ 0 < (a.length : Int) - 1) : sign * 1 = rowEnd a b h sign := by
  unfold rowEnd
  rw [if_neg (fun e => hb (by rw [e]; rfl)), if_neg ha]
theorem RowOk.pos {k : Nat} {a b : List Int} {g h : Int} (x : RowOk k a b g h) : k - 1 < k ∧ k - 1 + 1 = k := by
  cases k with
  | zero => exact x.elim
  | succ k => exact ⟨by omega, by omega⟩
theorem rowH_pos {a b : List Int} {h : Int} (x : 0 < (a.length : Int) - 1 - ((b.length : Int) - 1)) :
    Int.fdiv (zleadP b ^ ((a.length : Int) - 1 - ((b.length : Int) - 1)).toNat) (h ^ ((a.length : Int) - 1 - ((b.length : Int) - 1) - 1).toNat) = rowH a b h := by
  unfold rowH
  rw [if_pos x]
theorem rowH_neg {a b : List Int} {h : Int} (x : ¬ 0 < (a.length : Int) - 1 - ((b.length : Int) - 1)) : h = rowH a b h := by
  unfold rowH
  rw [if_neg x]
theorem rowS_yes {a b : List Int} {s : Int} (x : Int.fmod ((a.length : Int) - 1) 2 = 1) (y : Int.fmod ((b.length : Int) - 1) 2 = 1) : -s = rowS a b s := by
  unfold rowS
  rw [if_pos ⟨x, y⟩]
theorem rowS_noa {a b : List Int} {s : Int} (x : Int.fmod ((a.length : Int) - 1) 2 ≠ 1) : s = rowS a b s := by
  unfold rowS
  rw [if_neg (fun h => x h.1)]
theorem rowS_nob {a b : List Int} {s : Int} (x : Int.fmod ((b.length : Int) - 1) 2 ≠ 1) : s = rowS a b s := by
  unfold rowS
  rw [if_neg (fun h => x h.2)]
theorem row_turn {k : Nat} {a b : List Int} {g h s vh vs R : Int} (ok : RowOk k b (rowB a b g h) (zleadP b) (rowH a b h)) (hrow : rowP (k + 1) a b g h s = R) (hb : ¬ b.length ≤ 1) (hs : Sm s) (hla : a.length < 2 ^ 9) (hlb : b.length < 2 ^ 9)
    (eh : vh = rowH a b h) (es : vs = rowS a b s) :
    RowOk (k - 1 + 1) b (rowB a b g h) (zleadP b) vh ∧ rowP (k - 1 + 1) b (rowB a b g h) (zleadP b) vh vs = R ∧ Sm vs ∧ b.length < 2 ^ 9 ∧ (rowB a b g h).length < 2 ^ 9 := by
  subst eh es
  rw [ok.pos.2, ← hrow, rowP_turn hb]
  exact ⟨ok, rfl, rowS_sm hs, hlb, Nat.lt_of_le_of_lt (rowB_len (by omega)) hla⟩
end
section
theorem isl_nil {h₀ h : Heap} {L l : Addr} {news : List (Addr × Obj)} {n : Nat} (N : News h₀ L h news) (hm : (l, listOf ([] : List Value).toArray n) ∈ news) : h.IsList l ([] : List Value).toArray := N.isList hm
section
variable {prog : Program} {w : World} {A : Around} {E : Value → Shared → Prop} {s : Shared}
theorem eq_nilK {a b : Addr} {vs : List Value} {ns : List Int} {Q : Value → Shared → Prop} (hl : s.heap.IsList a vs.toArray) (hi : IntsAre vs ns) (hl' : s.heap.IsList b ([] : List Value).toArray) (hu : A.units + 64 < cLine)
    (h : Q (.bool (decide (ns.length = 0))) s) : wpAny (model prog w) A (compareOp .Eq (.ref a) (.ref b)) Q E s := by
  refine eq_intsK hl hi hl' .nil hu ?_
  have e : decide (ns = []) = decide (ns.length = 0) := by cases ns <;> simp
  have e2 : ∀ b : Bool, b = decide (ns.length = 0) → Q (.bool b) s := fun b hb => hb ▸ h
  exact e2 _ (by cases ns <;> simp)
theorem ne_nilK {a b : Addr} {vs : List Value} {ns : List Int} {Q : Value → Shared → Prop} (hl : s.heap.IsList a vs.toArray) (hi : IntsAre vs ns) (hl' : s.heap.IsList b ([] : List Value).toArray) (hu : A.units + 64 < cLine)
    (h : Q (.bool (decide (ns.length ≠ 0))) s) : wpAny (model prog w) A (compareOp .NotEq (.ref a) (.ref b)) Q E s := by
  refine ne_intsK hl hi hl' .nil hu ?_
  have e2 : ∀ b : Bool, b = decide (ns.length ≠ 0) → Q (.bool b) s := fun b hb => hb ▸ h
  exact e2 _ (by cases ns <;> simp)
end
/-- the list l stands in the ground or on the ledger's part led -/
noncomputable def HL (base : Heap) (led : List (Addr × Obj)) (l : Addr) (vs : List Value) : Prop := ∀ L h, base.StaysIn h → News base L h led → h.IsList l vs.toArray
theorem HL.is0 {base h : Heap} {led news : List (Addr × Obj)} {l L : Addr} {vs : List Value} {m : Str → Option Value} (H : HL base led l vs) (F : Fr base L h m) (N : News base L h news) (hs : ∀ p ∈ led, p ∈ news) : h.IsList l vs.toArray :=
  H L h F.keep fun p hp => N p (hs p hp)
theorem HL.base {base : Heap} {led : List (Addr × Obj)} {l : Addr} {vs : List Value} (x : base.IsList l vs.toArray) : HL base led l vs := fun _ _ k _ => stays_list k x
theorem HL.head {base : Heap} {led : List (Addr × Obj)} {l : Addr} {vs : List Value} {n : Nat} : HL base ((l, listOf vs.toArray n) :: led) l vs := fun _ _ _ N => isl N (.head _)
theorem HL.more {base : Heap} {led : List (Addr × Obj)} {l : Addr} {vs : List Value} {q : Addr × Obj} (H : HL base led l vs) : HL base (q :: led) l vs := fun L h k N => H L h k fun p hp => N p (.tail _ hp)
theorem gap_odd {a b : List Int} (h1 : Int.fmod ((a.length : Int) - 1) 2 = 1) (h2 : Int.fmod ((b.length : Int) - 1) 2 ≠ 1) (h : b.length ≤ a.length) : 0 < (a.length : Int) - 1 - ((b.length : Int) - 1) := by
  rw [Int.fmod_eq_emod_of_nonneg _ (by decide)] at h1 h2
  omega
structure RS where
  la : Addr
  va : List Value
  A : List Int
  lb : Addr
  vb : List Value
  B : List Int
  g : Int
  tg : Tok
  h : Int
  th : Tok
  sg : Int
  ts : Tok
  k : Nat
  led : List (Addr × Obj)
theorem row_resultant_c (w : World) (mean : ExcName → Option Value) (mg mb : Str → Option Value) (l1 l2 : Addr) (vs1 vs2 : List Value) (ns1 ns2 : List Int) (sign : Int) (t : Tok) (n : Nat) (hi1 : IntsAre vs1 ns1) (hl1 : ns1.length < 2 ^ 9) (hi2 : IntsAre vs2 ns2) (hl2 : ns2.length < 2 ^ 9) (hss : Sm sign) (hok : RowOk (n + 1) ns1 ns2 1 1) :
    Tell PySem.Challenge.rw_sa0099_01.row.prog w (Mine.hd.heap_39 w.params) Mine.hd.view_39 (looseW Mine.hd.view_39 []) mean mg mb 150 [.ref l1, .ref l2, .int sign t] 10 (fun h => h.IsList l1 vs1.toArray ∧ h.IsList l2 vs2.toArray) (RetI (rowP (n + 1) ns1 ns2 1 1 sign)) := by
  k_with_none
  k_with "my w1" => ((k_here; (with_reducible show wpAny _ _ (exec (Stmt.While _ _ _ _) _) _ _ _); k_extra "my while"))
  k_with "my w1" => ((k_here; (with_reducible show wpAny _ _ (exec (Stmt.For _ _ _ _ _) _) _ _ _); k_extra "my for"))
  k_with "pyIter ref" => ((k_here; k_extra "my iter"))
  k_with "call type:enumerate" => ((k_here; k_extra "my enum"))
  k_with "my fits" => (first | exact MulAll.ok (by assumption) _ (by assumption) | exact Sm.mulR (by assumption) | exact Sm.mulL (by assumption) | exact Sm.mulR (SmL.at (by assumption) (by assumption)) | exact Sm.mulL (SmL.at (by assumption) (by assumption)))
  k_with "binaryOp FloorDiv int int" => ((k_here; k_dflt ((refine floordiv_int ?kb ?_ (Or.inl (Sm.py ?kp))); (case kb => first | assumption | exact Nz.ne (by assumption) | omega | exact PowNz.ok (by assumption) _); (case kp => first | assumption | exact PowSm.ok (by assumption) _ (by omega)))))
  k_with "exec Raise some none" => ((exfalso; omega))
  k_with "call ref" => ((k_here; k_extra "my call"))
  k_with "my fits" => (k_dflt (first | exact Sm.mulR (by assumption) | exact Sm.mulL (by assumption) | exact Sm.mulR (PowSm.ok (by assumption) _ (by omega)) | exact Sm.mulL (PowSm.ok (by assumption) _ (by omega))))
  k_with "binaryOp Pow int int" => ((k_here; k_dflt ((refine pow_int_small ?kp1 ?kp2 ?kp3 ?_); (case kp1 => first | omega | l_fact); (case kp2 => first | omega | l_fact); (case kp3 => exact Sm.lt64 (by assumption)))))
  k_with "compareOp Eq ref ref" => ((k_here; k_dflt ((refine' eq_nilK ?k1 ?k2 ?k3 ?k5 ?_); (case k3 => exact isl_nil (by assumption) (by k_mem)); (case k1 => first | exact isl (by assumption) (by k_mem) | exact HL.is0 (by assumption) (by assumption) (by assumption) (fun p hp => by (repeat (first | exact hp | refine List.Mem.tail _ ?_))) | is_list); (case k2 => first | assumption | exact .nil | exact .cons _ _ .nil | exact .cons _ _ (.cons _ _ .nil) | exact .cons _ _ (.cons _ _ (.cons _ _ .nil)) | l_ints); (case k5 => first | ((try simp only [units_in1, units_deeper, Around.mark_units, units_caller]); (try dsimp only [ktrTop]); first | exact unitsK (by assumption) (by decide) | exact unitsK64 (by assumption) (by decide) | exact unitsG rfl (by decide) | exact unitsG64 rfl) | ktr_units))))
  k_with "compareOp NotEq ref ref" => ((k_here; k_dflt ((refine' ne_nilK ?k1 ?k2 ?k3 ?k5 ?_); (case k3 => exact isl_nil (by assumption) (by k_mem)); (case k1 => first | exact isl (by assumption) (by k_mem) | exact HL.is0 (by assumption) (by assumption) (by assumption) (fun p hp => by (repeat (first | exact hp | refine List.Mem.tail _ ?_))) | is_list); (case k2 => first | assumption | exact .nil | exact .cons _ _ .nil | exact .cons _ _ (.cons _ _ .nil) | exact .cons _ _ (.cons _ _ (.cons _ _ .nil)) | l_ints); (case k5 => first | ((try simp only [units_in1, units_deeper, Around.mark_units, units_caller]); (try dsimp only [ktrTop]); first | exact unitsK (by assumption) (by decide) | exact unitsK64 (by assumption) (by decide) | exact unitsG rfl (by decide) | exact unitsG64 rfl) | ktr_units))))
  k_with "subscriptTail Name Constant ref int" => ((k_here; k_dflt ((with_reducible show wpAny _ _ (subscriptTail _ _ (Value.ref _) (Value.int _ _)) _ _ _); (refine' item_list_ints ?k1 ?k2 ?k3 ?k4 ?k5 ?_); (case k1 => exact HL.is0 (by assumption) (by assumption) (by assumption) (fun p hp => (by (repeat (first | exact hp | refine List.Mem.tail _ ?_))))); (case k2 => assumption); (case k3 => first | l_idx | omega); (case k4 => first | l_idx | omega); (case k5 => first | l_idx | omega)); intro _))
  k_with "my w1" => ((k_here; (with_reducible show wpAny _ _ (execs (Stmt.If _ _ _ _ :: _) _) _ _ _); k_extra "my if"))
  k_with "my call" => (first | (k_dflt (refine' use_I (zdegree_c _ _ _ _ _ _ _ ?p0 ?p1) ?kB ?kF ?kX ?kN ?kT ?kK ?kd ?ku ?kP ?_; (case kP => (first | exact trivial | (first | exact isl (by assumption) (by k_mem) | exact HL.is0 (by assumption) (by assumption) (by assumption) (fun p hp => by (repeat (first | exact hp | refine List.Mem.tail _ ?_))) | is_list) | (refine And.intro ?_ ?_ <;> (first | exact isl (by assumption) (by k_mem) | exact HL.is0 (by assumption) (by assumption) (by assumption) (fun p hp => by (repeat (first | exact hp | refine List.Mem.tail _ ?_))) | is_list)))); (case p0 => first | assumption | exact .nil | exact .cons _ _ .nil | exact .cons _ _ (.cons _ _ .nil) | exact .cons _ _ (.cons _ _ (.cons _ _ .nil)) | l_ints); (case p1 => first | assumption | exact Nat.lt_of_lt_of_le (by assumption) (by decide) | l_fit | omega | (simp only [List.length_cons, List.length_nil, List.length_append, List.length_map, List.length_replicate, List.length_reverse, rangeKs_length] at *; omega)); (case kB => k_asm); (case kF => k_asm); (case kX => k_asm); (case kN => k_asm); (case kT => k_asm); (case kK => first | exact rfl | assumption); (case kd => first | exact roomK (by assumption) (by decide) | ((try simp only [depth_under_make, depth_under_kw, depth_in1, depth_deeper, depth_caller]); (try dsimp only [ktrTop]); first | exact roomK (by assumption) (by decide) | exact roomG rfl (by decide)) | ktr_room); (case ku => first | ((try simp only [units_in1, units_deeper, Around.mark_units, units_caller]); (try dsimp only [ktrTop]); first | exact unitsK (by assumption) (by decide) | exact unitsK64 (by assumption) (by decide) | exact unitsG rfl (by decide) | exact unitsG64 rfl) | ktr_units); intro t9 h9 tk9 F9 N9; (try dsimp only); (try k_sweep); (try k_fold))) | (k_dflt (refine' use_I (zlead_c _ _ _ _ _ _ _ ?p0 ?p1) ?kB ?kF ?kX ?kN ?kT ?kK ?kd ?ku ?kP ?_; (case kP => (first | exact trivial | (first | exact isl (by assumption) (by k_mem) | exact HL.is0 (by assumption) (by assumption) (by assumption) (fun p hp => by (repeat (first | exact hp | refine List.Mem.tail _ ?_))) | is_list) | (refine And.intro ?_ ?_ <;> (first | exact isl (by assumption) (by k_mem) | exact HL.is0 (by assumption) (by assumption) (by assumption) (fun p hp => by (repeat (first | exact hp | refine List.Mem.tail _ ?_))) | is_list)))); (case p0 => first | assumption | exact .nil | exact .cons _ _ .nil | exact .cons _ _ (.cons _ _ .nil) | exact .cons _ _ (.cons _ _ (.cons _ _ .nil)) | l_ints); (case p1 => first | assumption | exact Nat.lt_of_lt_of_le (by assumption) (by decide) | l_fit | omega | (simp only [List.length_cons, List.length_nil, List.length_append, List.length_map, List.length_replicate, List.length_reverse, rangeKs_length] at *; omega)); (case kB => k_asm); (case kF => k_asm); (case kX => k_asm); (case kN => k_asm); (case kT => k_asm); (case kK => first | exact rfl | assumption); (case kd => first | exact roomK (by assumption) (by decide) | ((try simp only [depth_under_make, depth_under_kw, depth_in1, depth_deeper, depth_caller]); (try dsimp only [ktrTop]); first | exact roomK (by assumption) (by decide) | exact roomG rfl (by decide)) | ktr_room); (case ku => first | ((try simp only [units_in1, units_deeper, Around.mark_units, units_caller]); (try dsimp only [ktrTop]); first | exact unitsK (by assumption) (by decide) | exact unitsK64 (by assumption) (by decide) | exact unitsG rfl (by decide) | exact unitsG64 rfl) | ktr_units); intro t9 h9 tk9 F9 N9; (try dsimp only); (try k_sweep); (try k_fold))) | (k_dflt (refine' use_L (divided_c _ _ _ _ _ _ _ _ _ ?p0 ?p1 ?p2 ?p3) ?kB ?kF ?kX ?kN ?kT ?kK ?kd ?ku ?kP ?kb ?_; (case kP => (first | exact trivial | (first | exact isl (by assumption) (by k_mem) | exact HL.is0 (by assumption) (by assumption) (by assumption) (fun p hp => by (repeat (first | exact hp | refine List.Mem.tail _ ?_))) | is_list) | (refine And.intro ?_ ?_ <;> (first | exact isl (by assumption) (by k_mem) | exact HL.is0 (by assumption) (by assumption) (by assumption) (fun p hp => by (repeat (first | exact hp | refine List.Mem.tail _ ?_))) | is_list)))); (case p0 => first | assumption | exact .nil | exact .cons _ _ .nil | exact .cons _ _ (.cons _ _ .nil) | exact .cons _ _ (.cons _ _ (.cons _ _ .nil)) | l_ints); (case p1 => first | assumption | exact Nat.lt_of_lt_of_le (by assumption) (by decide) | l_fit | omega | (simp only [List.length_cons, List.length_nil, List.length_append, List.length_map, List.length_replicate, List.length_reverse, rangeKs_length] at *; omega)); (case p2 => (first | assumption | exact Nz.ne (by assumption) | omega)); (case p3 => assumption); (case kb => exact dividedP_len _ _); (case kB => k_asm); (case kF => k_asm); (case kX => k_asm); (case kN => k_asm); (case kT => k_asm); (case kK => first | exact rfl | assumption); (case kd => first | exact roomK (by assumption) (by decide) | ((try simp only [depth_under_make, depth_under_kw, depth_in1, depth_deeper, depth_caller]); (try dsimp only [ktrTop]); first | exact roomK (by assumption) (by decide) | exact roomG rfl (by decide)) | ktr_room); (case ku => first | ((try simp only [units_in1, units_deeper, Around.mark_units, units_caller]); (try dsimp only [ktrTop]); first | exact unitsK (by assumption) (by decide) | exact unitsK64 (by assumption) (by decide) | exact unitsG rfl (by decide) | exact unitsG64 rfl) | ktr_units); intro l9 ys9 n9 h9 tk9 F9 N9 ne9 hi9 hb9; (have no9 := ne9); (clear ne9); (try dsimp only); (try k_sweep); (try k_fold))) | (k_dflt (refine' use_L (full_rest_c _ _ _ _ _ _ _ _ _ _ ?p0 ?p1 ?p2 ?p3 ?p4 ?p5 ?p6 ?p7 ?p8) ?kB ?kF ?kX ?kN ?kT ?kK ?kd ?ku ?kP ?kb ?_; (case kP => (first | exact trivial | (first | exact isl (by assumption) (by k_mem) | exact HL.is0 (by assumption) (by assumption) (by assumption) (fun p hp => by (repeat (first | exact hp | refine List.Mem.tail _ ?_))) | is_list) | (refine And.intro ?_ ?_ <;> (first | exact isl (by assumption) (by k_mem) | exact HL.is0 (by assumption) (by assumption) (by assumption) (fun p hp => by (repeat (first | exact hp | refine List.Mem.tail _ ?_))) | is_list)))); (case p0 => first | assumption | exact .nil | exact .cons _ _ .nil | exact .cons _ _ (.cons _ _ .nil) | exact .cons _ _ (.cons _ _ (.cons _ _ .nil)) | l_ints); (case p1 => first | assumption | exact Nat.lt_of_lt_of_le (by assumption) (by decide) | l_fit | omega | (simp only [List.length_cons, List.length_nil, List.length_append, List.length_map, List.length_replicate, List.length_reverse, rangeKs_length] at *; omega)); (case p2 => first | assumption | exact .nil | exact .cons _ _ .nil | exact .cons _ _ (.cons _ _ .nil) | exact .cons _ _ (.cons _ _ (.cons _ _ .nil)) | l_ints); (case p3 => first | assumption | exact Nat.lt_of_lt_of_le (by assumption) (by decide) | l_fit | omega | (simp only [List.length_cons, List.length_nil, List.length_append, List.length_map, List.length_replicate, List.length_reverse, rangeKs_length] at *; omega)); (case p4 => first | assumption | exact Nat.lt_of_lt_of_le (by assumption) (by decide) | l_fit | omega | (simp only [List.length_cons, List.length_nil, List.length_append, List.length_map, List.length_replicate, List.length_reverse, rangeKs_length] at *; omega)); (case p5 => first | assumption | exact Nat.lt_of_lt_of_le (by assumption) (by decide) | l_fit | omega | (simp only [List.length_cons, List.length_nil, List.length_append, List.length_map, List.length_replicate, List.length_reverse, rangeKs_length] at *; omega)); (case p6 => assumption); (case p7 => assumption); (case p8 => assumption); (case kb => exact (restP_len (by first | assumption | omega))); (case kB => k_asm); (case kF => k_asm); (case kX => k_asm); (case kN => k_asm); (case kT => k_asm); (case kK => first | exact rfl | assumption); (case kd => first | exact roomK (by assumption) (by decide) | ((try simp only [depth_under_make, depth_under_kw, depth_in1, depth_deeper, depth_caller]); (try dsimp only [ktrTop]); first | exact roomK (by assumption) (by decide) | exact roomG rfl (by decide)) | ktr_room); (case ku => first | ((try simp only [units_in1, units_deeper, Around.mark_units, units_caller]); (try dsimp only [ktrTop]); first | exact unitsK (by assumption) (by decide) | exact unitsK64 (by assumption) (by decide) | exact unitsG rfl (by decide) | exact unitsG64 rfl) | ktr_units); intro l9 ys9 n9 h9 tk9 F9 N9 ne9 hi9 hb9; (have no9 := ne9); (clear ne9); (try dsimp only); (try k_sweep); (try k_fold))))
  k_fill
  unfold Tell
  intro dp un gd cn cs a ccd cl outer A₀ base h₀ L m s Q E B F X T hk hd hu hP hret
  refine wpAny_call ?_
  refine' code_defG (news := []) ?k1 ?k2 ?k3 (fun _ h => nomatch h) ?k5 ?kA ?kF ?kK ?k6 ?k7 ?k8 ?k9 ?kB ?_ ?c2 ?c3 ?c4 ?c5
  case kA => exact rfl
  case kF => exact rfl
  case kK => assumption
  case k1 => k_asm
  case k2 => k_asm
  case k3 => k_asm
  case k5 => k_asm
  case k6 => k_dflt k_is
  case k7 => k_dflt k_is
  case k8 => first | exact room0 (by assumption) | ((try simp only [depth_under_make, depth_under_kw, depth_in1, depth_deeper, depth_caller]); (try dsimp only [ktrTop]); exact room0 (by assumption)) | ktr_room
  case k9 => exact BindsTo.of_eq rfl
  case c5 => decide
  case kB => exact locs rfl
  case c2 => exact rfl
  case c3 => exact rfl
  case c4 => exact rfl
  intro g' L' h' FG' F' N' B' X' T' G'
  clear B F X T
  try dsimp only
  try k_fold
  obtain ⟨hP1, hP2⟩ := hP
  have hP1' := lift_list G' hP1
  have hP2' := lift_list G' hP2
  k_with "my while" => refine Stop.mk ?_
  k_steps
  unfold Stop
  refine' ksw_while (σ := RS) (fun c => c.led) (fun c => [("a", .ref c.la), ("b", .ref c.lb), ("g", .int c.g c.tg), ("h", .int c.h c.th), ("sign", .int c.sg c.ts)]) (fun c => (HL g' c.led c.la c.va ∧ IntsAre c.va c.A) ∧ HL g' c.led c.lb c.vb ∧ IntsAre c.vb c.B) ["gap", "rest"]
    (fun c => RowOk (c.k + 1) c.A c.B c.g c.h ∧ rowP (c.k + 1) c.A c.B c.g c.h c.sg = rowP (n + 1) ns1 ns2 1 1 sign ∧ Sm c.sg ∧ c.A.length < 2 ^ 9 ∧ c.B.length < 2 ^ 9) (fun c => c.k) ⟨_, vs1, ns1, _, vs2, ns2, 1, _, 1, _, sign, _, n, []⟩ ?F ?N ?hf (all5 ?k1 ?k2 ?k3 ?k4 ?k5) ?hp ?turn ?hE
  case F => assumption
  case k1 => exact rfl
  case k2 => exact rfl
  case k3 => exact rfl
  case k4 => exact rfl
  case k5 => exact rfl
  case N => exact fun p hp => nomatch hp
  case hf => exact ⟨⟨HL.base hP1', hi1⟩, HL.base hP2', hi2⟩
  case hE => first | passes_own | with_unfolding_all passes_own
  case hp => exact ⟨hok, rfl, hss, hl1, hl2⟩
  case turn =>
    intro c u h tk hf hp F N
    obtain ⟨la, va, A, lb, vb, B, g, tg, hh, th, sg, ts, k, led⟩ := c
    dsimp only at F N hf hp
    obtain ⟨⟨hA, hiA⟩, hB, hiB⟩ := hf
    obtain ⟨hok1, hrow, hsg, hlA, hlB⟩ := hp
    by_cases hb1 : B.length ≤ 1
    · obtain ⟨s1, s2, s3, s4, s5⟩ := hok1.stop hb1
      have s6 := PowNz.of s5
      k_steps
      all_goals ((try dsimp only); (try (k_unfold; try dsimp only)); (try (k_unfold; try dsimp only)))
      · exact leaveI hret (by assumption) (by assumption) (by assumption) (by rw [← hrow, rowP_stop hb1]; exact rowEnd_nil (by assumption))
      · exact leaveI hret (by assumption) (by assumption) (by assumption) (by rw [← hrow, rowP_stop hb1]; exact rowEnd_pos (by assumption) (by assumption))
      · exact leaveI hret (by assumption) (by assumption) (by assumption) (by rw [← hrow, rowP_stop hb1]; exact rowEnd_one (by assumption) (by assumption))
    · obtain ⟨⟨t1, t2, t3, t4, t5, t6, t7, t8, t9, t10, t11⟩, ok1⟩ := hok1.turn hb1
      have t12 := PowNz.of t11
      dsimp only [gapI] at t9 t10
      k_with "my if" => refine Stop.mk ?_
      k_steps
      unfold Stop
      refine' cut_int "sign" (fun x => x = rowS A B sg) (by assumption) (by assumption) ?cif1 ?cthen1
      case cif1 =>
        k_steps
        all_goals first
          | exact cut_end (by assumption) (by assumption) (rowS_yes (by assumption) (by assumption))
          | exact cut_same (x := sg) (by assumption) rfl (by assumption) (rowS_noa (by assumption))
          | exact cut_same (x := sg) (by assumption) rfl (by assumption) (rowS_nob (by assumption))
      intro x1 u1 hh1 tk1 hx1 F1 N1
      subst hx1
      k_steps
      unfold Stop
      refine' cut_int "h" (fun x => x = rowH A B hh) (by assumption) (by assumption) ?cif2 ?cthen2
      case cif2 =>
        k_steps
        all_goals first
          | exact cut_end (by assumption) (by assumption) (rowH_pos (by assumption))
          | exact cut_same (x := hh) (by assumption) rfl (by assumption) (rowH_neg (by assumption))
      intro x2 u2 hh2 tk2 hx2 F2 N2
      subst hx2
      k_steps
      refine' ksw_end ⟨_, vb, B, ?lbx1, ?vbx1, rowB A B g hh, zleadP B, _, rowH A B hh, _, rowS A B sg, _, k - 1, (?lbx1, listOf (List.toArray ?vbx1) ?nbx1) :: led⟩ (by assumption) (by assumption) ?hnx1 ?hfx1 (all5 ?k1x1 ?k2x1 ?k3x1 ?k4x1 ?k5x1) ?hrx1 ?hpx1 ?hmx1
      case k1x1 => exact rfl
      case k2x1 => exact rfl
      case k3x1 => exact rfl
      case k4x1 => exact rfl
      case k5x1 => exact rfl
      case hnx1 => exact List.forall_mem_cons.mpr ⟨by k_mem, fun p hp => (by (repeat (first | exact hp | refine List.Mem.tail _ ?_)))⟩
      case hfx1 => exact ⟨⟨hB.more, hiB⟩, HL.head, by assumption⟩
      case hrx1 => (intro z h2 h3; simp at h2 h3; simp [kstB, h2, h3])
      case hmx1 => exact ok1.pos.1
      case hpx1 => exact row_turn ok1 hrow hb1 hsg hlA hlB rfl rfl
end
section
set_option maxRecDepth 4000
noncomputable def coreP (a b : List Int) (sign : Int) : Int :=
  gcdAllP a ^ ((b.length : Int) - 1).toNat * gcdAllP b ^ ((a.length : Int) - 1).toNat * rowP 4 (dividedP a (gcdAllP a)) (dividedP b (gcdAllP b)) 1 1 sign
structure CoreOk (a b : List Int) : Prop where
  la : 0 < a.length ∧ a.length < 2 ^ 9
  lb : 0 < b.length ∧ b.length < 2 ^ 9
  na : Nz (gcdAllP a)
  nb : Nz (gcdAllP b)
  sa : Sm (gcdAllP a)
  sb : Sm (gcdAllP b)
  pa : PowSm (gcdAllP a) b.length
  pb : PowSm (gcdAllP b) a.length
  sp : Sm (gcdAllP a ^ ((b.length : Int) - 1).toNat * gcdAllP b ^ ((a.length : Int) - 1).toNat)
  ok : RowOk (3 + 1) (dividedP a (gcdAllP a)) (dividedP b (gcdAllP b)) 1 1
noncomputable def signP (a b : List Int) : Int := if Int.fmod ((a.length : Int) - 1) 2 = 1 ∧ Int.fmod ((b.length : Int) - 1) 2 = 1 then -1 else 1
noncomputable def resultantP (a b : List Int) : Int := if a.length < b.length then coreP b a (signP b a) else coreP a b 1
noncomputable def ResOk (a b : List Int) : Prop := if a.length < b.length then CoreOk b a else CoreOk a b
theorem sm_one : Sm 1 := ⟨by decide⟩
theorem sm_neg_one : Sm (-1) := ⟨by decide⟩
theorem sign_yes {a b : List Int} (x : Int.fmod ((a.length : Int) - 1) 2 = 1) (y : Int.fmod ((b.length : Int) - 1) 2 = 1) : -1 = signP a b := by
  unfold signP; rw [if_pos ⟨x, y⟩]
theorem sign_noa {a b : List Int} (x : ¬ Int.fmod ((a.length : Int) - 1) 2 = 1) : 1 = signP a b := by
  unfold signP; rw [if_neg (fun h => x h.1)]
theorem sign_nob {a b : List Int} (x : ¬ Int.fmod ((b.length : Int) - 1) 2 = 1) : 1 = signP a b := by
  unfold signP; rw [if_neg (fun h => x h.2)]
end
section
theorem sm_signP (a b : List Int) : Sm (signP a b) := by
  unfold signP
  split
  · exact sm_neg_one
  · exact sm_one
theorem resultant_c (w : World) (mean : ExcName → Option Value) (mg mb : Str → Option Value) (l1 l2 : Addr) (vs1 vs2 : List Value) (ns1 ns2 : List Int) (hi1 : IntsAre vs1 ns1) (hl1 : ns1.length < 2 ^ 9) (hi2 : IntsAre vs2 ns2) (hl2 : ns2.length < 2 ^ 9) (hok : ResOk ns1 ns2) :
    Tell PySem.Challenge.rw_sa0099_01.row.prog w (Mine.hd.heap_39 w.params) Mine.hd.view_39 (looseW Mine.hd.view_39 []) mean mg mb 157 [.ref l1, .ref l2] 11 (fun h => h.IsList l1 vs1.toArray ∧ h.IsList l2 vs2.toArray) (RetI (resultantP ns1 ns2)) := by
  k_with_none
  k_with "my w1" => ((k_here; (with_reducible show wpAny _ _ (exec (Stmt.While _ _ _ _) _) _ _ _); k_extra "my while"))
  k_with "my w1" => ((k_here; (with_reducible show wpAny _ _ (exec (Stmt.For _ _ _ _ _) _) _ _ _); k_extra "my for"))
  k_with "pyIter ref" => ((k_here; k_extra "my iter"))
  k_with "call type:enumerate" => ((k_here; k_extra "my enum"))
  k_with "my fits" => (first | exact MulAll.ok (by assumption) _ (by assumption) | exact Sm.mulR (by assumption) | exact Sm.mulL (by assumption) | exact Sm.mulR (SmL.at (by assumption) (by assumption)) | exact Sm.mulL (SmL.at (by assumption) (by assumption)))
  k_with "binaryOp FloorDiv int int" => ((k_here; k_dflt ((refine floordiv_int ?kb ?_ (Or.inl (Sm.py ?kp))); (case kb => first | assumption | exact Nz.ne (by assumption) | omega | exact PowNz.ok (by assumption) _); (case kp => first | assumption | exact PowSm.ok (by assumption) _ (by omega)))))
  k_with "exec Raise some none" => ((exfalso; omega))
  k_with "call ref" => ((k_here; k_extra "my call"))
  k_with "my fits" => (k_dflt (first | exact Sm.mulR (by assumption) | exact Sm.mulL (by assumption) | exact Sm.mulR (PowSm.ok (by assumption) _ (by omega)) | exact Sm.mulL (PowSm.ok (by assumption) _ (by omega))))
  k_with "binaryOp Pow int int" => ((k_here; k_dflt ((refine pow_int_small ?kp1 ?kp2 ?kp3 ?_); (case kp1 => first | omega | l_fact); (case kp2 => first | omega | l_fact); (case kp3 => exact Sm.lt64 (by assumption)))))
  k_with "compareOp Eq ref ref" => ((k_here; k_dflt ((refine' eq_nilK ?k1 ?k2 ?k3 ?k5 ?_); (case k3 => exact isl_nil (by assumption) (by k_mem)); (case k1 => first | exact isl (by assumption) (by k_mem) | exact HL.is0 (by assumption) (by assumption) (by assumption) (fun p hp => by (repeat (first | exact hp | refine List.Mem.tail _ ?_))) | is_list); (case k2 => first | assumption | exact .nil | exact .cons _ _ .nil | exact .cons _ _ (.cons _ _ .nil) | exact .cons _ _ (.cons _ _ (.cons _ _ .nil)) | l_ints); (case k5 => first | ((try simp only [units_in1, units_deeper, Around.mark_units, units_caller]); (try dsimp only [ktrTop]); first | exact unitsK (by assumption) (by decide) | exact unitsK64 (by assumption) (by decide) | exact unitsG rfl (by decide) | exact unitsG64 rfl) | ktr_units))))
  k_with "compareOp NotEq ref ref" => ((k_here; k_dflt ((refine' ne_nilK ?k1 ?k2 ?k3 ?k5 ?_); (case k3 => exact isl_nil (by assumption) (by k_mem)); (case k1 => first | exact isl (by assumption) (by k_mem) | exact HL.is0 (by assumption) (by assumption) (by assumption) (fun p hp => by (repeat (first | exact hp | refine List.Mem.tail _ ?_))) | is_list); (case k2 => first | assumption | exact .nil | exact .cons _ _ .nil | exact .cons _ _ (.cons _ _ .nil) | exact .cons _ _ (.cons _ _ (.cons _ _ .nil)) | l_ints); (case k5 => first | ((try simp only [units_in1, units_deeper, Around.mark_units, units_caller]); (try dsimp only [ktrTop]); first | exact unitsK (by assumption) (by decide) | exact unitsK64 (by assumption) (by decide) | exact unitsG rfl (by decide) | exact unitsG64 rfl) | ktr_units))))
  k_with "my w1" => ((k_here; (with_reducible show wpAny _ _ (execs (Stmt.Assign [_] (Expr.IfExp _ _ _ _) _ :: _) _) _ _ _); k_extra "my ifx"))
  k_with "my call" => (first | (k_dflt (refine' use_I (row_resultant_c _ _ _ _ _ _ _ _ _ _ _ _ _ ?p0 ?p1 ?p2 ?p3 ?p4 ?p5) ?kB ?kF ?kX ?kN ?kT ?kK ?kd ?ku ?kP ?_; (case kP => (first | exact trivial | (first | exact isl (by assumption) (by k_mem) | is_list) | (refine And.intro ?_ ?_ <;> (first | exact isl (by assumption) (by k_mem) | is_list)))); (case p0 => first | assumption | exact .nil | exact .cons _ _ .nil | exact .cons _ _ (.cons _ _ .nil) | exact .cons _ _ (.cons _ _ (.cons _ _ .nil)) | l_ints); (case p1 => first | assumption | exact Nat.lt_of_lt_of_le (by assumption) (by decide) | l_fit | omega | (simp only [List.length_cons, List.length_nil, List.length_append, List.length_map, List.length_replicate, List.length_reverse, rangeKs_length] at *; omega)); (case p2 => first | assumption | exact .nil | exact .cons _ _ .nil | exact .cons _ _ (.cons _ _ .nil) | exact .cons _ _ (.cons _ _ (.cons _ _ .nil)) | l_ints); (case p3 => first | assumption | exact Nat.lt_of_lt_of_le (by assumption) (by decide) | l_fit | omega | (simp only [List.length_cons, List.length_nil, List.length_append, List.length_map, List.length_replicate, List.length_reverse, rangeKs_length] at *; omega)); (case p4 => assumption); (case p5 => assumption); (case kB => k_asm); (case kF => k_asm); (case kX => k_asm); (case kN => k_asm); (case kT => k_asm); (case kK => first | exact rfl | assumption); (case kd => first | exact roomK (by assumption) (by decide) | ((try simp only [depth_under_make, depth_under_kw, depth_in1, depth_deeper, depth_caller]); (try dsimp only [ktrTop]); first | exact roomK (by assumption) (by decide) | exact roomG rfl (by decide)) | ktr_room); (case ku => first | ((try simp only [units_in1, units_deeper, Around.mark_units, units_caller]); (try dsimp only [ktrTop]); first | exact unitsK (by assumption) (by decide) | exact unitsK64 (by assumption) (by decide) | exact unitsG rfl (by decide) | exact unitsG64 rfl) | ktr_units); intro t9 h9 tk9 F9 N9; (try dsimp only); (try k_sweep); (try k_fold))) | (k_dflt (refine' use_I (zdegree_c _ _ _ _ _ _ _ ?p0 ?p1) ?kB ?kF ?kX ?kN ?kT ?kK ?kd ?ku ?kP ?_; (case kP => (first | exact trivial | (first | exact isl (by assumption) (by k_mem) | is_list) | (refine And.intro ?_ ?_ <;> (first | exact isl (by assumption) (by k_mem) | is_list)))); (case p0 => first | assumption | exact .nil | exact .cons _ _ .nil | exact .cons _ _ (.cons _ _ .nil) | exact .cons _ _ (.cons _ _ (.cons _ _ .nil)) | l_ints); (case p1 => first | assumption | exact Nat.lt_of_lt_of_le (by assumption) (by decide) | l_fit | omega | (simp only [List.length_cons, List.length_nil, List.length_append, List.length_map, List.length_replicate, List.length_reverse, rangeKs_length] at *; omega)); (case kB => k_asm); (case kF => k_asm); (case kX => k_asm); (case kN => k_asm); (case kT => k_asm); (case kK => first | exact rfl | assumption); (case kd => first | exact roomK (by assumption) (by decide) | ((try simp only [depth_under_make, depth_under_kw, depth_in1, depth_deeper, depth_caller]); (try dsimp only [ktrTop]); first | exact roomK (by assumption) (by decide) | exact roomG rfl (by decide)) | ktr_room); (case ku => first | ((try simp only [units_in1, units_deeper, Around.mark_units, units_caller]); (try dsimp only [ktrTop]); first | exact unitsK (by assumption) (by decide) | exact unitsK64 (by assumption) (by decide) | exact unitsG rfl (by decide) | exact unitsG64 rfl) | ktr_units); intro t9 h9 tk9 F9 N9; (try dsimp only); (try k_sweep); (try k_fold))) | (k_dflt (refine' use_L (divided_c _ _ _ _ _ _ _ _ _ ?p0 ?p1 ?p2 ?p3) ?kB ?kF ?kX ?kN ?kT ?kK ?kd ?ku ?kP ?kb ?_; (case kP => (first | exact trivial | (first | exact isl (by assumption) (by k_mem) | is_list) | (refine And.intro ?_ ?_ <;> (first | exact isl (by assumption) (by k_mem) | is_list)))); (case p0 => first | assumption | exact .nil | exact .cons _ _ .nil | exact .cons _ _ (.cons _ _ .nil) | exact .cons _ _ (.cons _ _ (.cons _ _ .nil)) | l_ints); (case p1 => first | assumption | exact Nat.lt_of_lt_of_le (by assumption) (by decide) | l_fit | omega | (simp only [List.length_cons, List.length_nil, List.length_append, List.length_map, List.length_replicate, List.length_reverse, rangeKs_length] at *; omega)); (case p2 => (first | assumption | exact Nz.ne (by assumption) | omega)); (case p3 => assumption); (case kb => exact dividedP_len _ _); (case kB => k_asm); (case kF => k_asm); (case kX => k_asm); (case kN => k_asm); (case kT => k_asm); (case kK => first | exact rfl | assumption); (case kd => first | exact roomK (by assumption) (by decide) | ((try simp only [depth_under_make, depth_under_kw, depth_in1, depth_deeper, depth_caller]); (try dsimp only [ktrTop]); first | exact roomK (by assumption) (by decide) | exact roomG rfl (by decide)) | ktr_room); (case ku => first | ((try simp only [units_in1, units_deeper, Around.mark_units, units_caller]); (try dsimp only [ktrTop]); first | exact unitsK (by assumption) (by decide) | exact unitsK64 (by assumption) (by decide) | exact unitsG rfl (by decide) | exact unitsG64 rfl) | ktr_units); intro l9 ys9 n9 h9 tk9 F9 N9 ne9 hi9 hb9; (have no9 := ne9); (clear ne9); (try dsimp only); (try k_sweep); (try k_fold))) | (k_dflt (refine' use_I (zcontent_c _ _ _ _ _ _ _ ?p0 ?p1) ?kB ?kF ?kX ?kN ?kT ?kK ?kd ?ku ?kP ?_; (case kP => (first | exact trivial | (first | exact isl (by assumption) (by k_mem) | is_list) | (refine And.intro ?_ ?_ <;> (first | exact isl (by assumption) (by k_mem) | is_list)))); (case p0 => first | assumption | exact .nil | exact .cons _ _ .nil | exact .cons _ _ (.cons _ _ .nil) | exact .cons _ _ (.cons _ _ (.cons _ _ .nil)) | l_ints); (case p1 => first | assumption | exact Nat.lt_of_lt_of_le (by assumption) (by decide) | l_fit | omega | (simp only [List.length_cons, List.length_nil, List.length_append, List.length_map, List.length_replicate, List.length_reverse, rangeKs_length] at *; omega)); (case kB => k_asm); (case kF => k_asm); (case kX => k_asm); (case kN => k_asm); (case kT => k_asm); (case kK => first | exact rfl | assumption); (case kd => first | exact roomK (by assumption) (by decide) | ((try simp only [depth_under_make, depth_under_kw, depth_in1, depth_deeper, depth_caller]); (try dsimp only [ktrTop]); first | exact roomK (by assumption) (by decide) | exact roomG rfl (by decide)) | ktr_room); (case ku => first | ((try simp only [units_in1, units_deeper, Around.mark_units, units_caller]); (try dsimp only [ktrTop]); first | exact unitsK (by assumption) (by decide) | exact unitsK64 (by assumption) (by decide) | exact unitsG rfl (by decide) | exact unitsG64 rfl) | ktr_units); intro t9 h9 tk9 F9 N9; (try dsimp only); (try k_sweep); (try k_fold))))
  k_fill
  unfold Tell
  intro dp un gd cn cs a ccd cl outer A₀ base h₀ L m s Q E B F X T hk hd hu hP hret
  refine wpAny_call ?_
  refine' code_defG (news := []) ?k1 ?k2 ?k3 (fun _ h => nomatch h) ?k5 ?kA ?kF ?kK ?k6 ?k7 ?k8 ?k9 ?kB ?_ ?c2 ?c3 ?c4 ?c5
  case kA => exact rfl
  case kF => exact rfl
  case kK => assumption
  case k1 => k_asm
  case k2 => k_asm
  case k3 => k_asm
  case k5 => k_asm
  case k6 => k_dflt k_is
  case k7 => k_dflt k_is
  case k8 => first | exact room0 (by assumption) | ((try simp only [depth_under_make, depth_under_kw, depth_in1, depth_deeper, depth_caller]); (try dsimp only [ktrTop]); exact room0 (by assumption)) | ktr_room
  case k9 => exact BindsTo.of_eq rfl
  case c5 => decide
  case kB => exact locs rfl
  case c2 => exact rfl
  case c3 => exact rfl
  case c4 => exact rfl
  intro g' L' h' FG' F' N' B' X' T' G'
  clear B F X T
  try dsimp only
  try k_fold
  obtain ⟨hP1, hP2⟩ := hP
  have hP1' := lift_list G' hP1
  have hP2' := lift_list G' hP2
  unfold resultantP at hret
  unfold ResOk at hok
  have hs1 := sm_one
  have hs2 := sm_neg_one
  by_cases hlt : ns1.length < ns2.length
  · rw [if_pos hlt] at hok hret
    obtain ⟨⟨la1, la2⟩, ⟨lb1, lb2⟩, na, nb, sa, sb, pa, pb, sp, ok⟩ := hok
    have hs3 := sm_signP ns2 ns1
    k_with "my ifx" => refine Stop.mk ?_
    k_steps
    unfold Stop
    refine' cut_int "sign" (fun x => x = signP ns2 ns1) (by assumption) (by assumption) ?cif1 ?cthen1
    case cif1 =>
      k_with_none
      k_with "my w1" => ((k_here; (with_reducible show wpAny _ _ (exec (Stmt.While _ _ _ _) _) _ _ _); k_extra "my while"))
      k_with "my w1" => ((k_here; (with_reducible show wpAny _ _ (exec (Stmt.For _ _ _ _ _) _) _ _ _); k_extra "my for"))
      k_with "pyIter ref" => ((k_here; k_extra "my iter"))
      k_with "call type:enumerate" => ((k_here; k_extra "my enum"))
      k_with "my fits" => (first | exact MulAll.ok (by assumption) _ (by assumption) | exact Sm.mulR (by assumption) | exact Sm.mulL (by assumption) | exact Sm.mulR (SmL.at (by assumption) (by assumption)) | exact Sm.mulL (SmL.at (by assumption) (by assumption)))
      k_with "binaryOp FloorDiv int int" => ((k_here; k_dflt ((refine floordiv_int ?kb ?_ (Or.inl (Sm.py ?kp))); (case kb => first | assumption | exact Nz.ne (by assumption) | omega | exact PowNz.ok (by assumption) _); (case kp => first | assumption | exact PowSm.ok (by assumption) _ (by omega)))))
      k_with "exec Raise some none" => ((exfalso; omega))
      k_with "call ref" => ((k_here; k_extra "my call"))
      k_with "my fits" => (k_dflt (first | exact Sm.mulR (by assumption) | exact Sm.mulL (by assumption) | exact Sm.mulR (PowSm.ok (by assumption) _ (by omega)) | exact Sm.mulL (PowSm.ok (by assumption) _ (by omega))))
      k_with "binaryOp Pow int int" => ((k_here; k_dflt ((refine pow_int_small ?kp1 ?kp2 ?kp3 ?_); (case kp1 => first | omega | l_fact); (case kp2 => first | omega | l_fact); (case kp3 => exact Sm.lt64 (by assumption)))))
      k_with "compareOp Eq ref ref" => ((k_here; k_dflt ((refine' eq_nilK ?k1 ?k2 ?k3 ?k5 ?_); (case k3 => exact isl_nil (by assumption) (by k_mem)); (case k1 => first | exact isl (by assumption) (by k_mem) | exact HL.is0 (by assumption) (by assumption) (by assumption) (fun p hp => by (repeat (first | exact hp | refine List.Mem.tail _ ?_))) | is_list); (case k2 => first | assumption | exact .nil | exact .cons _ _ .nil | exact .cons _ _ (.cons _ _ .nil) | exact .cons _ _ (.cons _ _ (.cons _ _ .nil)) | l_ints); (case k5 => first | ((try simp only [units_in1, units_deeper, Around.mark_units, units_caller]); (try dsimp only [ktrTop]); first | exact unitsK (by assumption) (by decide) | exact unitsK64 (by assumption) (by decide) | exact unitsG rfl (by decide) | exact unitsG64 rfl) | ktr_units))))
      k_with "compareOp NotEq ref ref" => ((k_here; k_dflt ((refine' ne_nilK ?k1 ?k2 ?k3 ?k5 ?_); (case k3 => exact isl_nil (by assumption) (by k_mem)); (case k1 => first | exact isl (by assumption) (by k_mem) | exact HL.is0 (by assumption) (by assumption) (by assumption) (fun p hp => by (repeat (first | exact hp | refine List.Mem.tail _ ?_))) | is_list); (case k2 => first | assumption | exact .nil | exact .cons _ _ .nil | exact .cons _ _ (.cons _ _ .nil) | exact .cons _ _ (.cons _ _ (.cons _ _ .nil)) | l_ints); (case k5 => first | ((try simp only [units_in1, units_deeper, Around.mark_units, units_caller]); (try dsimp only [ktrTop]); first | exact unitsK (by assumption) (by decide) | exact unitsK64 (by assumption) (by decide) | exact unitsG rfl (by decide) | exact unitsG64 rfl) | ktr_units))))
      k_with "my w1" => ((k_here; (with_reducible show wpAny _ _ (execs (Stmt.Assign [_] (Expr.IfExp _ _ _ _) _ :: _) _) _ _ _); k_extra "my ifx"))
      k_with "my call" => (first | (k_dflt (refine' use_I (row_resultant_c _ _ _ _ _ _ _ _ _ _ _ _ _ ?p0 ?p1 ?p2 ?p3 ?p4 ?p5) ?kB ?kF ?kX ?kN ?kT ?kK ?kd ?ku ?kP ?_; (case kP => (first | exact trivial | (first | exact isl (by assumption) (by k_mem) | is_list) | (refine And.intro ?_ ?_ <;> (first | exact isl (by assumption) (by k_mem) | is_list)))); (case p0 => first | assumption | exact .nil | exact .cons _ _ .nil | exact .cons _ _ (.cons _ _ .nil) | exact .cons _ _ (.cons _ _ (.cons _ _ .nil)) | l_ints); (case p1 => first | assumption | exact Nat.lt_of_lt_of_le (by assumption) (by decide) | l_fit | omega | (simp only [List.length_cons, List.length_nil, List.length_append, List.length_map, List.length_replicate, List.length_reverse, rangeKs_length] at *; omega)); (case p2 => first | assumption | exact .nil | exact .cons _ _ .nil | exact .cons _ _ (.cons _ _ .nil) | exact .cons _ _ (.cons _ _ (.cons _ _ .nil)) | l_ints); (case p3 => first | assumption | exact Nat.lt_of_lt_of_le (by assumption) (by decide) | l_fit | omega | (simp only [List.length_cons, List.length_nil, List.length_append, List.length_map, List.length_replicate, List.length_reverse, rangeKs_length] at *; omega)); (case p4 => assumption); (case p5 => assumption); (case kB => k_asm); (case kF => k_asm); (case kX => k_asm); (case kN => k_asm); (case kT => k_asm); (case kK => first | exact rfl | assumption); (case kd => first | exact roomK (by assumption) (by decide) | ((try simp only [depth_under_make, depth_under_kw, depth_in1, depth_deeper, depth_caller]); (try dsimp only [ktrTop]); first | exact roomK (by assumption) (by decide) | exact roomG rfl (by decide)) | ktr_room); (case ku => first | ((try simp only [units_in1, units_deeper, Around.mark_units, units_caller]); (try dsimp only [ktrTop]); first | exact unitsK (by assumption) (by decide) | exact unitsK64 (by assumption) (by decide) | exact unitsG rfl (by decide) | exact unitsG64 rfl) | ktr_units); intro t9 h9 tk9 F9 N9; (try dsimp only); (try k_sweep); (try k_fold))) | (k_dflt (refine' use_I (zdegree_c _ _ _ _ _ _ _ ?p0 ?p1) ?kB ?kF ?kX ?kN ?kT ?kK ?kd ?ku ?kP ?_; (case kP => (first | exact trivial | (first | exact isl (by assumption) (by k_mem) | is_list) | (refine And.intro ?_ ?_ <;> (first | exact isl (by assumption) (by k_mem) | is_list)))); (case p0 => first | assumption | exact .nil | exact .cons _ _ .nil | exact .cons _ _ (.cons _ _ .nil) | exact .cons _ _ (.cons _ _ (.cons _ _ .nil)) | l_ints); (case p1 => first | assumption | exact Nat.lt_of_lt_of_le (by assumption) (by decide) | l_fit | omega | (simp only [List.length_cons, List.length_nil, List.length_append, List.length_map, List.length_replicate, List.length_reverse, rangeKs_length] at *; omega)); (case kB => k_asm); (case kF => k_asm); (case kX => k_asm); (case kN => k_asm); (case kT => k_asm); (case kK => first | exact rfl | assumption); (case kd => first | exact roomK (by assumption) (by decide) | ((try simp only [depth_under_make, depth_under_kw, depth_in1, depth_deeper, depth_caller]); (try dsimp only [ktrTop]); first | exact roomK (by assumption) (by decide) | exact roomG rfl (by decide)) | ktr_room); (case ku => first | ((try simp only [units_in1, units_deeper, Around.mark_units, units_caller]); (try dsimp only [ktrTop]); first | exact unitsK (by assumption) (by decide) | exact unitsK64 (by assumption) (by decide) | exact unitsG rfl (by decide) | exact unitsG64 rfl) | ktr_units); intro t9 h9 tk9 F9 N9; (try dsimp only); (try k_sweep); (try k_fold))) | (k_dflt (refine' use_L (divided_c _ _ _ _ _ _ _ _ _ ?p0 ?p1 ?p2 ?p3) ?kB ?kF ?kX ?kN ?kT ?kK ?kd ?ku ?kP ?kb ?_; (case kP => (first | exact trivial | (first | exact isl (by assumption) (by k_mem) | is_list) | (refine And.intro ?_ ?_ <;> (first | exact isl (by assumption) (by k_mem) | is_list)))); (case p0 => first | assumption | exact .nil | exact .cons _ _ .nil | exact .cons _ _ (.cons _ _ .nil) | exact .cons _ _ (.cons _ _ (.cons _ _ .nil)) | l_ints); (case p1 => first | assumption | exact Nat.lt_of_lt_of_le (by assumption) (by decide) | l_fit | omega | (simp only [List.length_cons, List.length_nil, List.length_append, List.length_map, List.length_replicate, List.length_reverse, rangeKs_length] at *; omega)); (case p2 => (first | assumption | exact Nz.ne (by assumption) | omega)); (case p3 => assumption); (case kb => exact dividedP_len _ _); (case kB => k_asm); (case kF => k_asm); (case kX => k_asm); (case kN => k_asm); (case kT => k_asm); (case kK => first | exact rfl | assumption); (case kd => first | exact roomK (by assumption) (by decide) | ((try simp only [depth_under_make, depth_under_kw, depth_in1, depth_deeper, depth_caller]); (try dsimp only [ktrTop]); first | exact roomK (by assumption) (by decide) | exact roomG rfl (by decide)) | ktr_room); (case ku => first | ((try simp only [units_in1, units_deeper, Around.mark_units, units_caller]); (try dsimp only [ktrTop]); first | exact unitsK (by assumption) (by decide) | exact unitsK64 (by assumption) (by decide) | exact unitsG rfl (by decide) | exact unitsG64 rfl) | ktr_units); intro l9 ys9 n9 h9 tk9 F9 N9 ne9 hi9 hb9; (have no9 := ne9); (clear ne9); (try dsimp only); (try k_sweep); (try k_fold))) | (k_dflt (refine' use_I (zcontent_c _ _ _ _ _ _ _ ?p0 ?p1) ?kB ?kF ?kX ?kN ?kT ?kK ?kd ?ku ?kP ?_; (case kP => (first | exact trivial | (first | exact isl (by assumption) (by k_mem) | is_list) | (refine And.intro ?_ ?_ <;> (first | exact isl (by assumption) (by k_mem) | is_list)))); (case p0 => first | assumption | exact .nil | exact .cons _ _ .nil | exact .cons _ _ (.cons _ _ .nil) | exact .cons _ _ (.cons _ _ (.cons _ _ .nil)) | l_ints); (case p1 => first | assumption | exact Nat.lt_of_lt_of_le (by assumption) (by decide) | l_fit | omega | (simp only [List.length_cons, List.length_nil, List.length_append, List.length_map, List.length_replicate, List.length_reverse, rangeKs_length] at *; omega)); (case kB => k_asm); (case kF => k_asm); (case kX => k_asm); (case kN => k_asm); (case kT => k_asm); (case kK => first | exact rfl | assumption); (case kd => first | exact roomK (by assumption) (by decide) | ((try simp only [depth_under_make, depth_under_kw, depth_in1, depth_deeper, depth_caller]); (try dsimp only [ktrTop]); first | exact roomK (by assumption) (by decide) | exact roomG rfl (by decide)) | ktr_room); (case ku => first | ((try simp only [units_in1, units_deeper, Around.mark_units, units_caller]); (try dsimp only [ktrTop]); first | exact unitsK (by assumption) (by decide) | exact unitsK64 (by assumption) (by decide) | exact unitsG rfl (by decide) | exact unitsG64 rfl) | ktr_units); intro t9 h9 tk9 F9 N9; (try dsimp only); (try k_sweep); (try k_fold))))
      k_steps
      all_goals first
        | exact cut_end (by assumption) (by assumption) (sign_yes (by assumption) (by assumption))
        | exact cut_end (by assumption) (by assumption) (sign_noa (by assumption))
        | exact cut_end (by assumption) (by assumption) (sign_nob (by assumption))
    intro x1 u1 hh1 tk1 hx1 F1 N1
    subst hx1
    k_with_none
    k_with "my w1" => ((k_here; (with_reducible show wpAny _ _ (exec (Stmt.While _ _ _ _) _) _ _ _); k_extra "my while"))
    k_with "my w1" => ((k_here; (with_reducible show wpAny _ _ (exec (Stmt.For _ _ _ _ _) _) _ _ _); k_extra "my for"))
    k_with "pyIter ref" => ((k_here; k_extra "my iter"))
    k_with "call type:enumerate" => ((k_here; k_extra "my enum"))
    k_with "my fits" => (first | exact MulAll.ok (by assumption) _ (by assumption) | exact Sm.mulR (by assumption) | exact Sm.mulL (by assumption) | exact Sm.mulR (SmL.at (by assumption) (by assumption)) | exact Sm.mulL (SmL.at (by assumption) (by assumption)))
    k_with "binaryOp FloorDiv int int" => ((k_here; k_dflt ((refine floordiv_int ?kb ?_ (Or.inl (Sm.py ?kp))); (case kb => first | assumption | exact Nz.ne (by assumption) | omega | exact PowNz.ok (by assumption) _); (case kp => first | assumption | exact PowSm.ok (by assumption) _ (by omega)))))
    k_with "exec Raise some none" => ((exfalso; omega))
    k_with "call ref" => ((k_here; k_extra "my call"))
    k_with "my fits" => (k_dflt (first | exact Sm.mulR (by assumption) | exact Sm.mulL (by assumption) | exact Sm.mulR (PowSm.ok (by assumption) _ (by omega)) | exact Sm.mulL (PowSm.ok (by assumption) _ (by omega))))
    k_with "binaryOp Pow int int" => ((k_here; k_dflt ((refine pow_int_small ?kp1 ?kp2 ?kp3 ?_); (case kp1 => first | omega | l_fact); (case kp2 => first | omega | l_fact); (case kp3 => exact Sm.lt64 (by assumption)))))
    k_with "compareOp Eq ref ref" => ((k_here; k_dflt ((refine' eq_nilK ?k1 ?k2 ?k3 ?k5 ?_); (case k3 => exact isl_nil (by assumption) (by k_mem)); (case k1 => first | exact isl (by assumption) (by k_mem) | exact HL.is0 (by assumption) (by assumption) (by assumption) (fun p hp => by (repeat (first | exact hp | refine List.Mem.tail _ ?_))) | is_list); (case k2 => first | assumption | exact .nil | exact .cons _ _ .nil | exact .cons _ _ (.cons _ _ .nil) | exact .cons _ _ (.cons _ _ (.cons _ _ .nil)) | l_ints); (case k5 => first | ((try simp only [units_in1, units_deeper, Around.mark_units, units_caller]); (try dsimp only [ktrTop]); first | exact unitsK (by assumption) (by decide) | exact unitsK64 (by assumption) (by decide) | exact unitsG rfl (by decide) | exact unitsG64 rfl) | ktr_units))))
    k_with "compareOp NotEq ref ref" => ((k_here; k_dflt ((refine' ne_nilK ?k1 ?k2 ?k3 ?k5 ?_); (case k3 => exact isl_nil (by assumption) (by k_mem)); (case k1 => first | exact isl (by assumption) (by k_mem) | exact HL.is0 (by assumption) (by assumption) (by assumption) (fun p hp => by (repeat (first | exact hp | refine List.Mem.tail _ ?_))) | is_list); (case k2 => first | assumption | exact .nil | exact .cons _ _ .nil | exact .cons _ _ (.cons _ _ .nil) | exact .cons _ _ (.cons _ _ (.cons _ _ .nil)) | l_ints); (case k5 => first | ((try simp only [units_in1, units_deeper, Around.mark_units, units_caller]); (try dsimp only [ktrTop]); first | exact unitsK (by assumption) (by decide) | exact unitsK64 (by assumption) (by decide) | exact unitsG rfl (by decide) | exact unitsG64 rfl) | ktr_units))))
    k_with "my w1" => ((k_here; (with_reducible show wpAny _ _ (execs (Stmt.Assign [_] (Expr.IfExp _ _ _ _) _ :: _) _) _ _ _); k_extra "my ifx"))
    k_with "my call" => (first | (k_dflt (refine' use_I (row_resultant_c _ _ _ _ _ _ _ _ _ _ _ _ _ ?p0 ?p1 ?p2 ?p3 ?p4 ?p5) ?kB ?kF ?kX ?kN ?kT ?kK ?kd ?ku ?kP ?_; (case kP => (first | exact trivial | (first | exact isl (by assumption) (by k_mem) | is_list) | (refine And.intro ?_ ?_ <;> (first | exact isl (by assumption) (by k_mem) | is_list)))); (case p0 => first | assumption | exact .nil | exact .cons _ _ .nil | exact .cons _ _ (.cons _ _ .nil) | exact .cons _ _ (.cons _ _ (.cons _ _ .nil)) | l_ints); (case p1 => first | assumption | exact Nat.lt_of_lt_of_le (by assumption) (by decide) | l_fit | omega | (simp only [List.length_cons, List.length_nil, List.length_append, List.length_map, List.length_replicate, List.length_reverse, rangeKs_length] at *; omega)); (case p2 => first | assumption | exact .nil | exact .cons _ _ .nil | exact .cons _ _ (.cons _ _ .nil) | exact .cons _ _ (.cons _ _ (.cons _ _ .nil)) | l_ints); (case p3 => first | assumption | exact Nat.lt_of_lt_of_le (by assumption) (by decide) | l_fit | omega | (simp only [List.length_cons, List.length_nil, List.length_append, List.length_map, List.length_replicate, List.length_reverse, rangeKs_length] at *; omega)); (case p4 => assumption); (case p5 => assumption); (case kB => k_asm); (case kF => k_asm); (case kX => k_asm); (case kN => k_asm); (case kT => k_asm); (case kK => first | exact rfl | assumption); (case kd => first | exact roomK (by assumption) (by decide) | ((try simp only [depth_under_make, depth_under_kw, depth_in1, depth_deeper, depth_caller]); (try dsimp only [ktrTop]); first | exact roomK (by assumption) (by decide) | exact roomG rfl (by decide)) | ktr_room); (case ku => first | ((try simp only [units_in1, units_deeper, Around.mark_units, units_caller]); (try dsimp only [ktrTop]); first | exact unitsK (by assumption) (by decide) | exact unitsK64 (by assumption) (by decide) | exact unitsG rfl (by decide) | exact unitsG64 rfl) | ktr_units); intro t9 h9 tk9 F9 N9; (try dsimp only); (try k_sweep); (try k_fold))) | (k_dflt (refine' use_I (zdegree_c _ _ _ _ _ _ _ ?p0 ?p1) ?kB ?kF ?kX ?kN ?kT ?kK ?kd ?ku ?kP ?_; (case kP => (first | exact trivial | (first | exact isl (by assumption) (by k_mem) | is_list) | (refine And.intro ?_ ?_ <;> (first | exact isl (by assumption) (by k_mem) | is_list)))); (case p0 => first | assumption | exact .nil | exact .cons _ _ .nil | exact .cons _ _ (.cons _ _ .nil) | exact .cons _ _ (.cons _ _ (.cons _ _ .nil)) | l_ints); (case p1 => first | assumption | exact Nat.lt_of_lt_of_le (by assumption) (by decide) | l_fit | omega | (simp only [List.length_cons, List.length_nil, List.length_append, List.length_map, List.length_replicate, List.length_reverse, rangeKs_length] at *; omega)); (case kB => k_asm); (case kF => k_asm); (case kX => k_asm); (case kN => k_asm); (case kT => k_asm); (case kK => first | exact rfl | assumption); (case kd => first | exact roomK (by assumption) (by decide) | ((try simp only [depth_under_make, depth_under_kw, depth_in1, depth_deeper, depth_caller]); (try dsimp only [ktrTop]); first | exact roomK (by assumption) (by decide) | exact roomG rfl (by decide)) | ktr_room); (case ku => first | ((try simp only [units_in1, units_deeper, Around.mark_units, units_caller]); (try dsimp only [ktrTop]); first | exact unitsK (by assumption) (by decide) | exact unitsK64 (by assumption) (by decide) | exact unitsG rfl (by decide) | exact unitsG64 rfl) | ktr_units); intro t9 h9 tk9 F9 N9; (try dsimp only); (try k_sweep); (try k_fold))) | (k_dflt (refine' use_L (divided_c _ _ _ _ _ _ _ _ _ ?p0 ?p1 ?p2 ?p3) ?kB ?kF ?kX ?kN ?kT ?kK ?kd ?ku ?kP ?kb ?_; (case kP => (first | exact trivial | (first | exact isl (by assumption) (by k_mem) | is_list) | (refine And.intro ?_ ?_ <;> (first | exact isl (by assumption) (by k_mem) | is_list)))); (case p0 => first | assumption | exact .nil | exact .cons _ _ .nil | exact .cons _ _ (.cons _ _ .nil) | exact .cons _ _ (.cons _ _ (.cons _ _ .nil)) | l_ints); (case p1 => first | assumption | exact Nat.lt_of_lt_of_le (by assumption) (by decide) | l_fit | omega | (simp only [List.length_cons, List.length_nil, List.length_append, List.length_map, List.length_replicate, List.length_reverse, rangeKs_length] at *; omega)); (case p2 => (first | assumption | exact Nz.ne (by assumption) | omega)); (case p3 => assumption); (case kb => exact dividedP_len _ _); (case kB => k_asm); (case kF => k_asm); (case kX => k_asm); (case kN => k_asm); (case kT => k_asm); (case kK => first | exact rfl | assumption); (case kd => first | exact roomK (by assumption) (by decide) | ((try simp only [depth_under_make, depth_under_kw, depth_in1, depth_deeper, depth_caller]); (try dsimp only [ktrTop]); first | exact roomK (by assumption) (by decide) | exact roomG rfl (by decide)) | ktr_room); (case ku => first | ((try simp only [units_in1, units_deeper, Around.mark_units, units_caller]); (try dsimp only [ktrTop]); first | exact unitsK (by assumption) (by decide) | exact unitsK64 (by assumption) (by decide) | exact unitsG rfl (by decide) | exact unitsG64 rfl) | ktr_units); intro l9 ys9 n9 h9 tk9 F9 N9 ne9 hi9 hb9; (have no9 := ne9); (clear ne9); (try dsimp only); (try k_sweep); (try k_fold))) | (k_dflt (refine' use_I (zcontent_c _ _ _ _ _ _ _ ?p0 ?p1) ?kB ?kF ?kX ?kN ?kT ?kK ?kd ?ku ?kP ?_; (case kP => (first | exact trivial | (first | exact isl (by assumption) (by k_mem) | is_list) | (refine And.intro ?_ ?_ <;> (first | exact isl (by assumption) (by k_mem) | is_list)))); (case p0 => first | assumption | exact .nil | exact .cons _ _ .nil | exact .cons _ _ (.cons _ _ .nil) | exact .cons _ _ (.cons _ _ (.cons _ _ .nil)) | l_ints); (case p1 => first | assumption | exact Nat.lt_of_lt_of_le (by assumption) (by decide) | l_fit | omega | (simp only [List.length_cons, List.length_nil, List.length_append, List.length_map, List.length_replicate, List.length_reverse, rangeKs_length] at *; omega)); (case kB => k_asm); (case kF => k_asm); (case kX => k_asm); (case kN => k_asm); (case kT => k_asm); (case kK => first | exact rfl | assumption); (case kd => first | exact roomK (by assumption) (by decide) | ((try simp only [depth_under_make, depth_under_kw, depth_in1, depth_deeper, depth_caller]); (try dsimp only [ktrTop]); first | exact roomK (by assumption) (by decide) | exact roomG rfl (by decide)) | ktr_room); (case ku => first | ((try simp only [units_in1, units_deeper, Around.mark_units, units_caller]); (try dsimp only [ktrTop]); first | exact unitsK (by assumption) (by decide) | exact unitsK64 (by assumption) (by decide) | exact unitsG rfl (by decide) | exact unitsG64 rfl) | ktr_units); intro t9 h9 tk9 F9 N9; (try dsimp only); (try k_sweep); (try k_fold))))
    k_steps
    all_goals ((try dsimp only); (try (k_unfold; try dsimp only)); (try (k_unfold; try dsimp only)))
    exact leaveI hret (by assumption) (by assumption) (by assumption) rfl
  · rw [if_neg hlt] at hok hret
    obtain ⟨⟨la1, la2⟩, ⟨lb1, lb2⟩, na, nb, sa, sb, pa, pb, sp, ok⟩ := hok
    k_steps
    all_goals ((try dsimp only); (try (k_unfold; try dsimp only)); (try (k_unfold; try dsimp only)))
    exact leaveI hret (by assumption) (by assumption) (by assumption) rfl
end
section
set_option maxRecDepth 4000
noncomputable def tvRow (i : Int) (R : List Int) : List Int := (List.range (R.length - 1)).map fun j => Int.fdiv (R.getD (j + 1) 0 - R.getD j 0) (i + 1)
noncomputable def tvStep (i : Nat) (c : List Int × List Int × List Int) : List Int × List Int × List Int :=
  (zaddP c.1 (zscaleP c.2.1 (c.2.2.getD 0 0)), zmulP c.2.1 [-(i : Int), 1], tvRow i c.2.2)
noncomputable def tvPre (ns : List Int) : Nat → List Int × List Int × List Int
  | 0 => ([], [1], ns)
  | i + 1 => tvStep i (tvPre ns i)
noncomputable def through_valuesP (ns : List Int) : List Int := (tvPre ns ns.length).1
theorem tvRow_len (i : Int) (R : List Int) : (tvRow i R).length = R.length - 1 := by unfold tvRow; simp
theorem tvPre_len (ns : List Int) : ∀ i, (tvPre ns i).1.length ≤ i + 1 ∧ (tvPre ns i).2.1.length ≤ i + 1 ∧ (tvPre ns i).2.2.length = ns.length - i
  | 0 => ⟨by simp [tvPre], by simp [tvPre], by simp [tvPre]⟩
  | i + 1 => by
    obtain ⟨h1, h2, h3⟩ := tvPre_len ns i
    simp only [tvPre, tvStep]
    have a := zaddP_len (tvPre ns i).1 (zscaleP (tvPre ns i).2.1 ((tvPre ns i).2.2.getD 0 0))
    have b := zscaleP_len (tvPre ns i).2.1 ((tvPre ns i).2.2.getD 0 0)
    have c := zmulP_len (tvPre ns i).2.1 [-(i : Int), 1]
    simp only [List.length_cons, List.length_nil] at c
    refine ⟨by omega, by omega, ?_⟩
    rw [tvRow_len, h3]; omega
theorem through_valuesP_len (ns : List Int) : (through_valuesP ns).length ≤ ns.length + 1 := (tvPre_len ns ns.length).1
end
section
theorem ix_lo {k : Int} (h : 0 ≤ k) : 0 ≤ k + 1 := by omega
theorem ix_hi {k : Int} {n : Nat} (h : k < 0 + (((n : Int) - 1 - 0).toNat : Int)) (h0 : 0 ≤ k) : k + 1 < (n : Int) := by omega
theorem ix_fit {k : Int} {n : Nat} (h : k < 0 + (((n : Int) - 1 - 0).toNat : Int)) (h0 : 0 ≤ k) (hn : n < 2 ^ 20) : k + 1 < 2 ^ 63 := by omega
theorem iy_hi {k : Int} {n : Nat} (h : k < 0 + (((n : Int) - 1 - 0).toNat : Int)) (h0 : 0 ≤ k) : k < (n : Int) := by omega
theorem iy_fit {k : Int} {n : Nat} (h : k < 0 + (((n : Int) - 1 - 0).toNat : Int)) (h0 : 0 ≤ k) (hn : n < 2 ^ 20) : k < 2 ^ 63 := by omega
theorem store_keep {M : Model} {A : Around} {E : Value → Shared → Prop} {s : Shared} {h₀ : Heap} {L a : Addr} {m : Str → Option Value} {cn : Str} {cs : Scope} {ccd : Value} {cl : List (Str × Addr)} {x : Str} {v : Value} {Q : Unit → Shared → Prop} {news : List (Addr × Obj)} {c : Addr} {o : Obj} {v₀ : Option Value}
    (keep : List (Addr × Obj)) (F : Fr h₀ L s.heap m) (N : News h₀ L s.heap news) (hc : cl.lookup x = some c) (hm : (c, o) ∈ news) (hd : o.data = .cell v₀) (hs : ∀ p ∈ keep, p ∈ news) (hne : ∀ p ∈ keep, p.1 ≠ c)
    (hk : cs.kind = .function) (hx : (envX cn cs L a ccd cl).kindOf x = some .cell)
    (h : ∀ h' o', Fr h₀ L h' m → News h₀ L h' ((c, o') :: keep) → o'.data = .cell (some v) → Q () { s with heap := h' }) : wpAny M A (storeName (envX cn cs L a ccd cl) x v) Q E s :=
  storeX_C (news := (c, o) :: keep) (g := fun o' => (c, o') :: keep) F (fun p hp => (List.mem_cons.mp hp).elim (fun e => e ▸ N _ hm) fun hp => N p (hs p hp)) hc (UpdF.head hne) hd h hk hx
theorem fresh_ne {news : List (Addr × Obj)} {l c : Addr} {o : Obj} (h : ∀ p ∈ news, p.1 ≠ l) (hm : (c, o) ∈ news) : l ≠ c := fun e => h _ hm e.symm
theorem tv_next {ns : List Int} {i : Nat} {F B R : List Int} (h : (F, B, R) = tvPre ns i) :
    (zaddP F (zscaleP B (R.getD (Int.toNat 0) 0)), zmulP B [-(i : Int), 1], List.map (fun k' => (R.getD (k' + 1).toNat 0 - R.getD k'.toNat 0).fdiv ((i : Int) + 1)) (rangeKs 0 ((R.length : Int) - 1 - 0).toNat)) = tvPre ns (i + 1) := by
  show _ = tvStep i (tvPre ns i)
  rw [← h]
  simp only [tvStep, tvRow]
  have e : ((R.length : Int) - 1 - 0).toNat = R.length - 1 := by omega
  rw [e, rangeKs0, List.map_map]
  rfl
theorem own_ne {own : List (Addr × Obj)} {a1 a2 a3 a4 a5 : Addr} {o1 o2 o3 o4 o5 : Obj} (h1 : ∀ p ∈ own, p.1 ≠ a1) (h2 : ∀ p ∈ own, p.1 ≠ a2) (h3 : ∀ p ∈ own, p.1 ≠ a3) (h4 : ∀ p ∈ own, p.1 ≠ a4) (h5 : ∀ p ∈ own, p.1 ≠ a5) :
    ∀ p ∈ own, ∀ q ∈ [(a1, o1), (a2, o2), (a3, o3), (a4, o4), (a5, o5)], p.1 ≠ q.1 := by
  intro p hp q hq
  simp only [List.mem_cons, List.not_mem_nil, or_false] at hq
  rcases hq with rfl | rfl | rfl | rfl | rfl
  · exact h1 p hp
  · exact h2 p hp
  · exact h3 p hp
  · exact h4 p hp
  · exact h5 p hp
theorem mem_five {q1 q2 q3 q4 q5 : Addr × Obj} {news : List (Addr × Obj)} (h1 : q1 ∈ news) (h2 : q2 ∈ news) (h3 : q3 ∈ news) (h4 : q4 ∈ news) (h5 : q5 ∈ news) : ∀ p ∈ [q1, q2, q3, q4, q5], p ∈ news := fun p hp => by
  rcases List.mem_cons.mp hp with rfl | hp
  · exact h1
  · rcases List.mem_cons.mp hp with rfl | hp
    · exact h2
    · rcases List.mem_cons.mp hp with rfl | hp
      · exact h3
      · exact mem_two h4 h5 p hp
theorem off1_all {D : Addr} {own : List (Addr × Obj)} (h : LCg.Off1 D own) : ∀ p ∈ own, p.1 ≠ D := by
  induction own with
  | nil => intro p hp; exact absurd hp List.not_mem_nil
  | cons q r ih =>
    intro p hp
    rcases List.mem_cons.mp hp with e | hp
    · rw [e]; exact h.1
    · exact ih h.2 p hp
theorem store_row {M : Model} {A : Around} {E : Value → Shared → Prop} {s : Shared} {h₀ : Heap} {L a : Addr} {m : Str → Option Value} {cn : Str} {cs : Scope} {ccd : Value} {cl : List (Str × Addr)} {x : Str} {Q : Unit → Shared → Prop} {news own : List (Addr × Obj)} {c c2 : Addr} {o oa : Obj} {v₀ : Option Value}
    {lf lb lr : Addr} {vf vb vr : List Value} {nf nb nr : Nat} (F : Fr h₀ L s.heap m) (N : News h₀ L s.heap news) (_ : m (Str.ofString "found") = some (.ref lf)) (_ : m (Str.ofString "base") = some (.ref lb)) (hc : cl.lookup x = some c) (hm : (c, o) ∈ news) (hd : o.data = .cell v₀)
    (h1 : (lf, listOf vf.toArray nf) ∈ news) (h2 : (lb, listOf vb.toArray nb) ∈ news) (h3 : (lr, listOf vr.toArray nr) ∈ news) (h4 : (c2, oa) ∈ news) (h5 : ∀ p ∈ own, p ∈ news) (n1 : lf ≠ c) (n2 : lb ≠ c) (n3 : lr ≠ c) (n4 : c2 ≠ c) (n5 : ∀ p ∈ own, p.1 ≠ c)
    (hk : cs.kind = .function) (hx : (envX cn cs L a ccd cl).kindOf x = some .cell)
    (h : ∀ h' o', Fr h₀ L h' m → News h₀ L h' ((c, o') :: (lf, listOf vf.toArray nf) :: (lb, listOf vb.toArray nb) :: (lr, listOf vr.toArray nr) :: (c2, oa) :: own) → o'.data = .cell (some (.ref lr)) → Q () { s with heap := h' }) : wpAny M A (storeName (envX cn cs L a ccd cl) x (.ref lr)) Q E s := by
  refine store_keep ((lf, listOf vf.toArray nf) :: (lb, listOf vb.toArray nb) :: (lr, listOf vr.toArray nr) :: (c2, oa) :: own) F N hc hm hd (fun p hp => ?_) (fun p hp => ?_) hk hx h
  · rcases List.mem_cons.mp hp with rfl | hp
    · exact h1
    · rcases List.mem_cons.mp hp with rfl | hp
      · exact h2
      · rcases List.mem_cons.mp hp with rfl | hp
        · exact h3
        · rcases List.mem_cons.mp hp with rfl | hp
          · exact h4
          · exact h5 p hp
  · rcases List.mem_cons.mp hp with rfl | hp
    · exact n1
    · rcases List.mem_cons.mp hp with rfl | hp
      · exact n2
      · rcases List.mem_cons.mp hp with rfl | hp
        · exact n3
        · rcases List.mem_cons.mp hp with rfl | hp
          · exact n4
          · exact n5 p hp
structure TS where
  lf : Addr
  vf : List Value
  nf : Nat
  F : List Int
  lb : Addr
  vb : List Value
  nb : Nat
  B : List Int
  lr : Addr
  vr : List Value
  nr : Nat
  R : List Int
  orow : Obj
  oat : Obj
theorem sm_pair {a b : Int} (h1 : Sm a) (h2 : Sm b) : SmL [a, b] := fun x hx => by
  rcases List.mem_cons.mp hx with rfl | hx
  · exact h1
  · rw [List.mem_singleton.mp hx]; exact h2
theorem news_five {h₀ h : Heap} {L : Addr} {q1 q2 q3 q4 q5 : Addr × Obj} {news : List (Addr × Obj)} (N : News h₀ L h news) (h1 : q1 ∈ news) (h2 : q2 ∈ news) (h3 : q3 ∈ news) (h4 : q4 ∈ news) (h5 : q5 ∈ news) : News h₀ L h [q1, q2, q3, q4, q5] := fun p hp => N p (by
  rcases List.mem_cons.mp hp with rfl | hp
  · exact h1
  · rcases List.mem_cons.mp hp with rfl | hp
    · exact h2
    · rcases List.mem_cons.mp hp with rfl | hp
      · exact h3
      · exact mem_two h4 h5 p hp)
theorem own_five {own : List (Addr × Obj)} {a1 a2 a3 a4 a5 : Addr} {o1 o2 o3 o4 o5 : Obj} (h : ∀ p ∈ own, ∀ q ∈ [(a1, o1), (a2, o2), (a3, o3), (a4, o4), (a5, o5)], p.1 ≠ q.1) : OwnOff own [a1, a2, a3, a4, a5] := by
  intro p hp b hb
  have := h p hp
  simp only [List.mem_cons, List.not_mem_nil, or_false] at hb
  rcases hb with rfl | rfl | rfl | rfl | rfl
  · exact this _ (.head _)
  · exact this _ (.tail _ (.head _))
  · exact this _ (.tail _ (.tail _ (.head _)))
  · exact this _ (.tail _ (.tail _ (.tail _ (.head _))))
  · exact this _ (.tail _ (.tail _ (.tail _ (.tail _ (.head _)))))
set_option maxHeartbeats 1500000 in
theorem through_values_c (w : World) (mean : ExcName → Option Value) (mg mb : Str → Option Value) (l : Addr) (vs : List Value) (ns : List Int) (hi : IntsAre vs ns) (hl : ns.length < 2 ^ 4) (hB : ∀ i, i < ns.length → SmL (tvPre ns i).2.1) :
    Tell PySem.Challenge.rw_sa0099_01.row.prog w (Mine.hd.heap_39 w.params) Mine.hd.view_39 (looseW Mine.hd.view_39 []) mean mg mb 162 [.ref l] 3 (fun h => h.IsList l vs.toArray) (RetL (through_valuesP ns)) := by
  k_with_none
  k_with "my w1" => ((k_here; (with_reducible show wpAny _ _ (exec (Stmt.While _ _ _ _) _) _ _ _); k_extra "my while"))
  k_with "my w1" => ((k_here; (with_reducible show wpAny _ _ (exec (Stmt.For _ _ _ _ _) _) _ _ _); k_extra "my for"))
  k_with "pyIter ref" => ((k_here; k_extra "my iter"))
  k_with "call type:enumerate" => ((k_here; k_extra "my enum"))
  k_with "my fits" => (first | exact MulAll.ok (by assumption) _ (by assumption) | exact Sm.mulR (by assumption) | exact Sm.mulL (by assumption) | exact Sm.mulR (SmL.at (by assumption) (by assumption)) | exact Sm.mulL (SmL.at (by assumption) (by assumption)))
  k_with "binaryOp FloorDiv int int" => ((k_here; k_dflt ((refine floordiv_int ?kb ?_ (Or.inl (Sm.py ?kp))); (case kb => first | assumption | exact Nz.ne (by assumption) | omega | exact PowNz.ok (by assumption) _); (case kp => first | assumption | exact PowSm.ok (by assumption) _ (by omega)))))
  k_with "exec Raise some none" => ((exfalso; omega))
  k_with "call ref" => ((k_here; k_extra "my call"))
  k_with "my fits" => (k_dflt (first | exact Sm.mulR (by assumption) | exact Sm.mulL (by assumption) | exact Sm.mulR (PowSm.ok (by assumption) _ (by omega)) | exact Sm.mulL (PowSm.ok (by assumption) _ (by omega))))
  k_with "binaryOp Pow int int" => ((k_here; k_dflt ((refine pow_int_small ?kp1 ?kp2 ?kp3 ?_); (case kp1 => first | omega | l_fact); (case kp2 => first | omega | l_fact); (case kp3 => exact Sm.lt64 (by assumption)))))
  k_with "my w1" => (((with_reducible show wpAny _ _ (binaryOp Operator.FloorDiv _ _) _ _ _); k_extra "my div"))
  k_with "my w1" => (((with_reducible show wpAny _ _ (storeName _ _ _) _ _ _); k_extra "my store"))
  k_with "my w1" => (((with_reducible show wpAny _ _ (exec (Stmt.Assign [_] (Expr.ListComp _ _ _ _) _) _) _ _ _); k_extra "my comp"))
  k_with "subscriptTail Name BinOp ref int" => ((k_here; k_dflt ((with_reducible show wpAny _ _ (subscriptTail _ _ (Value.ref _) (Value.int _ _)) _ _ _); (refine' item_list_ints ?k1 ?k2 ?k3 ?k4 ?k5 ?_); (case k1 => exact isl (by assumption) (by k_mem)); (case k2 => assumption); (case k3 => exact ix_lo (by assumption)); (case k4 => exact ix_hi (by assumption) (by assumption)); (case k5 => exact ix_fit (by assumption) (by assumption) (by assumption))); intro _))
  k_with "subscriptTail Name Name ref int" => ((k_here; k_dflt ((with_reducible show wpAny _ _ (subscriptTail _ _ (Value.ref _) (Value.int _ _)) _ _ _); (refine' item_list_ints ?k1 ?k2 ?k3 ?k4 ?k5 ?_); (case k1 => exact isl (by assumption) (by k_mem)); (case k2 => assumption); (case k3 => assumption); (case k4 => exact iy_hi (by assumption) (by assumption)); (case k5 => exact iy_fit (by assumption) (by assumption) (by assumption))); intro _))
  k_with "my call" => (first | (k_dflt (refine' use_L (zmul_c _ _ _ _ _ _ _ _ _ _ ?p0 ?p1 ?p2 ?p3 ?p4) ?kB ?kF ?kX ?kN ?kT ?kK ?kd ?ku ?kP ?kb ?_; (case kP => (first | exact trivial | (first | exact isl (by assumption) (by k_mem) | is_list) | (refine And.intro ?_ ?_ <;> (first | exact isl (by assumption) (by k_mem) | is_list)))); (case p0 => first | assumption | exact .nil | exact .cons _ _ .nil | exact .cons _ _ (.cons _ _ .nil) | exact .cons _ _ (.cons _ _ (.cons _ _ .nil)) | l_ints); (case p1 => first | assumption | exact Nat.lt_of_lt_of_le (by assumption) (by decide) | l_fit | omega | (simp only [List.length_cons, List.length_nil, List.length_append, List.length_map, List.length_replicate, List.length_reverse, rangeKs_length] at *; omega)); (case p2 => first | assumption | exact .nil | exact .cons _ _ .nil | exact .cons _ _ (.cons _ _ .nil) | exact .cons _ _ (.cons _ _ (.cons _ _ .nil)) | l_ints); (case p3 => first | assumption | exact Nat.lt_of_lt_of_le (by assumption) (by decide) | l_fit | omega | (simp only [List.length_cons, List.length_nil, List.length_append, List.length_map, List.length_replicate, List.length_reverse, rangeKs_length] at *; omega)); (case p4 => assumption); (case kb => exact zmulP_len _ _); (case kB => k_asm); (case kF => k_asm); (case kX => k_asm); (case kN => k_asm); (case kT => k_asm); (case kK => first | exact rfl | assumption); (case kd => first | exact roomK (by assumption) (by decide) | ((try simp only [depth_under_make, depth_under_kw, depth_in1, depth_deeper, depth_caller]); (try dsimp only [ktrTop]); first | exact roomK (by assumption) (by decide) | exact roomG rfl (by decide)) | ktr_room); (case ku => first | ((try simp only [units_in1, units_deeper, Around.mark_units, units_caller]); (try dsimp only [ktrTop]); first | exact unitsK (by assumption) (by decide) | exact unitsK64 (by assumption) (by decide) | exact unitsG rfl (by decide) | exact unitsG64 rfl) | ktr_units); intro l9 ys9 n9 h9 tk9 F9 N9 ne9 hi9 hb9; (have no9 := ne9); (clear ne9); (try dsimp only); (try k_sweep); (try k_fold))) | (k_dflt (refine' use_L (zscale_c _ _ _ _ _ _ _ _ _ ?p0 ?p1 ?p2) ?kB ?kF ?kX ?kN ?kT ?kK ?kd ?ku ?kP ?kb ?_; (case kP => (first | exact trivial | (first | exact isl (by assumption) (by k_mem) | is_list) | (refine And.intro ?_ ?_ <;> (first | exact isl (by assumption) (by k_mem) | is_list)))); (case p0 => first | assumption | exact .nil | exact .cons _ _ .nil | exact .cons _ _ (.cons _ _ .nil) | exact .cons _ _ (.cons _ _ (.cons _ _ .nil)) | l_ints); (case p1 => first | assumption | exact Nat.lt_of_lt_of_le (by assumption) (by decide) | l_fit | omega | (simp only [List.length_cons, List.length_nil, List.length_append, List.length_map, List.length_replicate, List.length_reverse, rangeKs_length] at *; omega)); (case p2 => (first | exact MulAll.ofR (by assumption) | exact MulAll.ofL (by assumption) | assumption | exact MulAll.ofR (PowSm.ok (by assumption) _ (by omega)))); (case kb => exact zscaleP_len _ _); (case kB => k_asm); (case kF => k_asm); (case kX => k_asm); (case kN => k_asm); (case kT => k_asm); (case kK => first | exact rfl | assumption); (case kd => first | exact roomK (by assumption) (by decide) | ((try simp only [depth_under_make, depth_under_kw, depth_in1, depth_deeper, depth_caller]); (try dsimp only [ktrTop]); first | exact roomK (by assumption) (by decide) | exact roomG rfl (by decide)) | ktr_room); (case ku => first | ((try simp only [units_in1, units_deeper, Around.mark_units, units_caller]); (try dsimp only [ktrTop]); first | exact unitsK (by assumption) (by decide) | exact unitsK64 (by assumption) (by decide) | exact unitsG rfl (by decide) | exact unitsG64 rfl) | ktr_units); intro l9 ys9 n9 h9 tk9 F9 N9 ne9 hi9 hb9; (have no9 := ne9); (clear ne9); (try dsimp only); (try k_sweep); (try k_fold))) | (k_dflt (refine' use_L (zadd_c _ _ _ _ _ _ _ _ _ _ ?p0 ?p1 ?p2 ?p3) ?kB ?kF ?kX ?kN ?kT ?kK ?kd ?ku ?kP ?kb ?_; (case kP => (first | exact trivial | (first | exact isl (by assumption) (by k_mem) | is_list) | (refine And.intro ?_ ?_ <;> (first | exact isl (by assumption) (by k_mem) | is_list)))); (case p0 => first | assumption | exact .nil | exact .cons _ _ .nil | exact .cons _ _ (.cons _ _ .nil) | exact .cons _ _ (.cons _ _ (.cons _ _ .nil)) | l_ints); (case p1 => first | assumption | exact Nat.lt_of_lt_of_le (by assumption) (by decide) | l_fit | omega | (simp only [List.length_cons, List.length_nil, List.length_append, List.length_map, List.length_replicate, List.length_reverse, rangeKs_length] at *; omega)); (case p2 => first | assumption | exact .nil | exact .cons _ _ .nil | exact .cons _ _ (.cons _ _ .nil) | exact .cons _ _ (.cons _ _ (.cons _ _ .nil)) | l_ints); (case p3 => first | assumption | exact Nat.lt_of_lt_of_le (by assumption) (by decide) | l_fit | omega | (simp only [List.length_cons, List.length_nil, List.length_append, List.length_map, List.length_replicate, List.length_reverse, rangeKs_length] at *; omega)); (case kb => exact zaddP_len _ _); (case kB => k_asm); (case kF => k_asm); (case kX => k_asm); (case kN => k_asm); (case kT => k_asm); (case kK => first | exact rfl | assumption); (case kd => first | exact roomK (by assumption) (by decide) | ((try simp only [depth_under_make, depth_under_kw, depth_in1, depth_deeper, depth_caller]); (try dsimp only [ktrTop]); first | exact roomK (by assumption) (by decide) | exact roomG rfl (by decide)) | ktr_room); (case ku => first | ((try simp only [units_in1, units_deeper, Around.mark_units, units_caller]); (try dsimp only [ktrTop]); first | exact unitsK (by assumption) (by decide) | exact unitsK64 (by assumption) (by decide) | exact unitsG rfl (by decide) | exact unitsG64 rfl) | ktr_units); intro l9 ys9 n9 h9 tk9 F9 N9 ne9 hi9 hb9; (have no9 := ne9); (clear ne9); (try dsimp only); (try k_sweep); (try k_fold))))
  k_fill
  unfold Tell
  intro dp un gd cn cs a ccd cl outer A₀ base h₀ L m s Q E B F X T hk hd hu hP hret
  refine wpAny_call ?_
  refine' enterC ?k1 ?k2 ?k3 ?k5 ?kA ?kF ?kK ?k6 ?k7 ?k8 ?k9 ?kB ?kD ?_ ?c2 ?c3 ?c4
  case kA => exact rfl
  case kF => exact rfl
  case kK => assumption
  case k1 => k_asm
  case k2 => k_asm
  case k3 => k_asm
  case k5 => k_asm
  case k6 => k_dflt k_is
  case k7 => k_dflt k_is
  case k8 => first | exact room0 (by assumption) | ((try simp only [depth_under_make, depth_under_kw, depth_in1, depth_deeper, depth_caller]); (try dsimp only [ktrTop]); exact room0 (by assumption)) | ktr_room
  case k9 => exact BindsTo.of_eq rfl
  case kB => exact rfl
  case kD => decide +kernel
  case c2 => exact rfl
  case c3 => exact rfl
  case c4 => exact rfl
  intro g' L' h' tk' cells' FG' F' N' Y' B' X' T' G'
  k_cells Y'
  clear B F X T
  try dsimp only
  try k_fold
  have hP' := lift_list G' hP
  k_with "my for" => refine Stop.mk ?_
  k_with "my iter" => refine Stop.mk ?_
  k_with "my enum" => refine Stop.mk ?_
  k_steps
  (unfold Stop; refine wpAny_For ?_ (fun _ => by rfl); k_steps; unfold Stop)
  refine' lp_range (L := L') (σ := TS) (fun c => [(c.lf, listOf c.vf.toArray c.nf), (c.lb, listOf c.vb.toArray c.nb), (c.lr, listOf c.vr.toArray c.nr), (L' + 1, c.orow), (L' + 1 + 1, c.oat)]) (fun c => [("found", .ref c.lf), ("base", .ref c.lb)])
    (fun c => (IntsAre c.vf c.F ∧ IntsAre c.vb c.B ∧ IntsAre c.vr c.R) ∧ c.orow.data = .cell (some (.ref c.lr)) ∧ (∃ v, c.oat.data = .cell v) ∧ (c.lf ≠ L' + 1 ∧ c.lf ≠ L' + 1 + 1) ∧ (c.lb ≠ L' + 1 ∧ c.lb ≠ L' + 1 + 1) ∧ (c.lr ≠ L' + 1 ∧ c.lr ≠ L' + 1 + 1)) []
    (fun i c => (c.F, c.B, c.R) = tvPre ns i) ⟨?lf, ?vf, ?nf, [], ?lb, ?vb, ?nb, [1], ?lr, ?vr, ?nr, ns, ?orow, ?oat⟩ (n := ns.length) ?hh (by assumption) ?hsm ?hn ?F ?N ?hf (all2 ?k1 ?k2) ?hp ?turn ?done ?hE
  case F => assumption
  case k1 => exact rfl
  case k2 => exact rfl
  case hh => exact rfl
  case N => exact news_five (by assumption) (by k_mem) (by k_mem) (by k_mem) (by k_mem) (by k_mem)
  case hsm => exact small_one (by omega) (by omega) (by omega) (by omega)
  case hn => first | exact rangeSize_nat _ _ | rfl
  case hE => first | passes_own | with_unfolding_all passes_own
  case hf => exact ⟨⟨.nil, .cons _ _ .nil, by assumption⟩, by assumption, ⟨_, by assumption⟩, ⟨by k_ne, by k_ne⟩, ⟨by k_ne, by k_ne⟩, by k_ne, by k_ne⟩
  case hp => exact rfl
  case turn =>
    intro i t c u h tk own hlt hf hp hd F N
    obtain ⟨lf, vf, nf, FF, lb, vb, nb, BB, lr, vr, nr, RR, orow, oat⟩ := c
    dsimp only at hf hp hd F
    simp only [List.cons_append, List.nil_append] at N
    obtain ⟨⟨hvf, hvb, hvr⟩, hrow, ⟨vat, hat⟩, ⟨a1, a2⟩, ⟨b1, b2⟩, c1, c2⟩ := hf
    have hlen := tvPre_len ns i
    rw [← hp] at hlen
    obtain ⟨e1, e2, e3⟩ := hlen
    have hRR : RR.length < 2 ^ 20 := by dsimp only at e3; omega
    have hBi : SmL BB := by have q := hB i hlt; rw [← hp] at q; exact q
    dsimp only at e1 e2 e3
    have hoff : OwnOff own [lf, lb, lr, L' + 1, L' + 1 + 1] := own_five hd
    have kM := kstMark
    have hsat : SmL [-(i : Int), 1] := sm_pair (Sm.of (by omega) (by omega)) sm_one
    have hsi : Sm ((i : Int) + 1) := Sm.of (by omega) (by omega)
    have hni : Nz ((i : Int) + 1) := ⟨by omega⟩
    k_with "my div" => refine Stop.mk ?_
    k_with "my comp" => refine Stop.mk ?_
    refine wpAny_assign_Name ?_
    k_steps
    unfold Stop
    k_with_none
    k_with "my w1" => ((k_here; (with_reducible show wpAny _ _ (exec (Stmt.While _ _ _ _) _) _ _ _); k_extra "my while"))
    k_with "my w1" => ((k_here; (with_reducible show wpAny _ _ (exec (Stmt.For _ _ _ _ _) _) _ _ _); k_extra "my for"))
    k_with "pyIter ref" => ((k_here; k_extra "my iter"))
    k_with "call type:enumerate" => ((k_here; k_extra "my enum"))
    k_with "my fits" => (first | exact MulAll.ok (by assumption) _ (by assumption) | exact Sm.mulR (by assumption) | exact Sm.mulL (by assumption) | exact Sm.mulR (SmL.at (by assumption) (by assumption)) | exact Sm.mulL (SmL.at (by assumption) (by assumption)))
    k_with "binaryOp FloorDiv int int" => ((k_here; k_dflt ((refine floordiv_int ?kb ?_ (Or.inl (Sm.py ?kp))); (case kb => first | assumption | exact Nz.ne (by assumption) | omega | exact PowNz.ok (by assumption) _); (case kp => first | assumption | exact PowSm.ok (by assumption) _ (by omega)))))
    k_with "exec Raise some none" => ((exfalso; omega))
    k_with "call ref" => ((k_here; k_extra "my call"))
    k_with "my fits" => (k_dflt (first | exact Sm.mulR (by assumption) | exact Sm.mulL (by assumption) | exact Sm.mulR (PowSm.ok (by assumption) _ (by omega)) | exact Sm.mulL (PowSm.ok (by assumption) _ (by omega))))
    k_with "binaryOp Pow int int" => ((k_here; k_dflt ((refine pow_int_small ?kp1 ?kp2 ?kp3 ?_); (case kp1 => first | omega | l_fact); (case kp2 => first | omega | l_fact); (case kp3 => exact Sm.lt64 (by assumption)))))
    k_with "my w1" => (((with_reducible show wpAny _ _ (binaryOp Operator.FloorDiv _ _) _ _ _); k_extra "my div"))
    k_with "my w1" => (((with_reducible show wpAny _ _ (storeName _ _ _) _ _ _); k_extra "my store"))
    k_with "my w1" => (((with_reducible show wpAny _ _ (exec (Stmt.Assign [_] (Expr.ListComp _ _ _ _) _) _) _ _ _); k_extra "my comp"))
    k_with "subscriptTail Name BinOp ref int" => ((k_here; k_dflt ((with_reducible show wpAny _ _ (subscriptTail _ _ (Value.ref _) (Value.int _ _)) _ _ _); (refine' item_list_ints ?k1 ?k2 ?k3 ?k4 ?k5 ?_); (case k1 => exact isl (by assumption) (by k_mem)); (case k2 => assumption); (case k3 => exact ix_lo (by assumption)); (case k4 => exact ix_hi (by assumption) (by assumption)); (case k5 => exact ix_fit (by assumption) (by assumption) (by assumption))); intro _))
    k_with "subscriptTail Name Name ref int" => ((k_here; k_dflt ((with_reducible show wpAny _ _ (subscriptTail _ _ (Value.ref _) (Value.int _ _)) _ _ _); (refine' item_list_ints ?k1 ?k2 ?k3 ?k4 ?k5 ?_); (case k1 => exact isl (by assumption) (by k_mem)); (case k2 => assumption); (case k3 => assumption); (case k4 => exact iy_hi (by assumption) (by assumption)); (case k5 => exact iy_fit (by assumption) (by assumption) (by assumption))); intro _))
    k_with "my call" => (first | (k_dflt (refine' use_L (zmul_c _ _ _ _ _ _ _ _ _ _ ?p0 ?p1 ?p2 ?p3 ?p4) ?kB ?kF ?kX ?kN ?kT ?kK ?kd ?ku ?kP ?kb ?_; (case kP => (first | exact trivial | (first | exact isl (by assumption) (by k_mem) | is_list) | (refine And.intro ?_ ?_ <;> (first | exact isl (by assumption) (by k_mem) | is_list)))); (case p0 => first | assumption | exact .nil | exact .cons _ _ .nil | exact .cons _ _ (.cons _ _ .nil) | exact .cons _ _ (.cons _ _ (.cons _ _ .nil)) | l_ints); (case p1 => first | assumption | exact Nat.lt_of_lt_of_le (by assumption) (by decide) | l_fit | omega | (simp only [List.length_cons, List.length_nil, List.length_append, List.length_map, List.length_replicate, List.length_reverse, rangeKs_length] at *; omega)); (case p2 => first | assumption | exact .nil | exact .cons _ _ .nil | exact .cons _ _ (.cons _ _ .nil) | exact .cons _ _ (.cons _ _ (.cons _ _ .nil)) | l_ints); (case p3 => first | assumption | exact Nat.lt_of_lt_of_le (by assumption) (by decide) | l_fit | omega | (simp only [List.length_cons, List.length_nil, List.length_append, List.length_map, List.length_replicate, List.length_reverse, rangeKs_length] at *; omega)); (case p4 => assumption); (case kb => exact zmulP_len _ _); (case kB => k_asm); (case kF => k_asm); (case kX => k_asm); (case kN => k_asm); (case kT => k_asm); (case kK => first | exact rfl | assumption); (case kd => first | exact roomK (by assumption) (by decide) | ((try simp only [depth_under_make, depth_under_kw, depth_in1, depth_deeper, depth_caller]); (try dsimp only [ktrTop]); first | exact roomK (by assumption) (by decide) | exact roomG rfl (by decide)) | ktr_room); (case ku => first | ((try simp only [units_in1, units_deeper, Around.mark_units, units_caller]); (try dsimp only [ktrTop]); first | exact unitsK (by assumption) (by decide) | exact unitsK64 (by assumption) (by decide) | exact unitsG rfl (by decide) | exact unitsG64 rfl) | ktr_units); intro l9 ys9 n9 h9 tk9 F9 N9 ne9 hi9 hb9; (have no9 := ne9); (clear ne9); (try dsimp only); (try k_sweep); (try k_fold))) | (k_dflt (refine' use_L (zscale_c _ _ _ _ _ _ _ _ _ ?p0 ?p1 ?p2) ?kB ?kF ?kX ?kN ?kT ?kK ?kd ?ku ?kP ?kb ?_; (case kP => (first | exact trivial | (first | exact isl (by assumption) (by k_mem) | is_list) | (refine And.intro ?_ ?_ <;> (first | exact isl (by assumption) (by k_mem) | is_list)))); (case p0 => first | assumption | exact .nil | exact .cons _ _ .nil | exact .cons _ _ (.cons _ _ .nil) | exact .cons _ _ (.cons _ _ (.cons _ _ .nil)) | l_ints); (case p1 => first | assumption | exact Nat.lt_of_lt_of_le (by assumption) (by decide) | l_fit | omega | (simp only [List.length_cons, List.length_nil, List.length_append, List.length_map, List.length_replicate, List.length_reverse, rangeKs_length] at *; omega)); (case p2 => (first | exact MulAll.ofR (by assumption) | exact MulAll.ofL (by assumption) | assumption | exact MulAll.ofR (PowSm.ok (by assumption) _ (by omega)))); (case kb => exact zscaleP_len _ _); (case kB => k_asm); (case kF => k_asm); (case kX => k_asm); (case kN => k_asm); (case kT => k_asm); (case kK => first | exact rfl | assumption); (case kd => first | exact roomK (by assumption) (by decide) | ((try simp only [depth_under_make, depth_under_kw, depth_in1, depth_deeper, depth_caller]); (try dsimp only [ktrTop]); first | exact roomK (by assumption) (by decide) | exact roomG rfl (by decide)) | ktr_room); (case ku => first | ((try simp only [units_in1, units_deeper, Around.mark_units, units_caller]); (try dsimp only [ktrTop]); first | exact unitsK (by assumption) (by decide) | exact unitsK64 (by assumption) (by decide) | exact unitsG rfl (by decide) | exact unitsG64 rfl) | ktr_units); intro l9 ys9 n9 h9 tk9 F9 N9 ne9 hi9 hb9; (have no9 := ne9); (clear ne9); (try dsimp only); (try k_sweep); (try k_fold))) | (k_dflt (refine' use_L (zadd_c _ _ _ _ _ _ _ _ _ _ ?p0 ?p1 ?p2 ?p3) ?kB ?kF ?kX ?kN ?kT ?kK ?kd ?ku ?kP ?kb ?_; (case kP => (first | exact trivial | (first | exact isl (by assumption) (by k_mem) | is_list) | (refine And.intro ?_ ?_ <;> (first | exact isl (by assumption) (by k_mem) | is_list)))); (case p0 => first | assumption | exact .nil | exact .cons _ _ .nil | exact .cons _ _ (.cons _ _ .nil) | exact .cons _ _ (.cons _ _ (.cons _ _ .nil)) | l_ints); (case p1 => first | assumption | exact Nat.lt_of_lt_of_le (by assumption) (by decide) | l_fit | omega | (simp only [List.length_cons, List.length_nil, List.length_append, List.length_map, List.length_replicate, List.length_reverse, rangeKs_length] at *; omega)); (case p2 => first | assumption | exact .nil | exact .cons _ _ .nil | exact .cons _ _ (.cons _ _ .nil) | exact .cons _ _ (.cons _ _ (.cons _ _ .nil)) | l_ints); (case p3 => first | assumption | exact Nat.lt_of_lt_of_le (by assumption) (by decide) | l_fit | omega | (simp only [List.length_cons, List.length_nil, List.length_append, List.length_map, List.length_replicate, List.length_reverse, rangeKs_length] at *; omega)); (case kb => exact zaddP_len _ _); (case kB => k_asm); (case kF => k_asm); (case kX => k_asm); (case kN => k_asm); (case kT => k_asm); (case kK => first | exact rfl | assumption); (case kd => first | exact roomK (by assumption) (by decide) | ((try simp only [depth_under_make, depth_under_kw, depth_in1, depth_deeper, depth_caller]); (try dsimp only [ktrTop]); first | exact roomK (by assumption) (by decide) | exact roomG rfl (by decide)) | ktr_room); (case ku => first | ((try simp only [units_in1, units_deeper, Around.mark_units, units_caller]); (try dsimp only [ktrTop]); first | exact unitsK (by assumption) (by decide) | exact unitsK64 (by assumption) (by decide) | exact unitsG rfl (by decide) | exact unitsG64 rfl) | ktr_units); intro l9 ys9 n9 h9 tk9 F9 N9 ne9 hi9 hb9; (have no9 := ne9); (clear ne9); (try dsimp only); (try k_sweep); (try k_fold))))
    k_with "my store" => refine Stop.mk ?_
    k_steps
    unfold Stop
    rename_i o1
    refine' store_row (own := own) (c2 := L' + 1 + 1) ?sF ?sN ?shf ?shb ?shc ?shm ?shd ?sh1 ?sh2 ?sh3 ?sh4 ?sh5 ?sn1 ?sn2 ?sn3 ?sn4 ?sn5 ?shk ?shx ?sh
    case sF => assumption
    case sN => assumption
    case shf => exact rfl
    case shb => exact rfl
    case shc => exact rfl
    case shm => k_mem
    case shd => exact hrow
    case sh1 => k_mem
    case sh2 => k_mem
    case sh3 => exact .head _
    case sh4 => k_mem
    case sh5 => exact fun p hp => (by (repeat (first | exact hp | refine List.Mem.tail _ ?_)))
    case shk => exact rfl
    case shx => exact rfl
    case sn1 => exact fresh_ne (by assumption) (by k_mem)
    case sn2 => exact fresh_ne (by assumption) (by k_mem)
    case sn3 => exact Ne.symm o1.2.2.2.2.2.2.2.1
    case sn4 => exact Nat.succ_ne_self _
    case sn5 => exact fun p hp => hoff p hp _ (.tail _ (.tail _ (.tail _ (.head _))))
    intro h9 o9 F9 N9 d9
    k_steps
    dsimp only [LpPost]
    refine' lp_end ⟨_, _, _, zaddP FF (zscaleP BB (RR.getD (Int.toNat 0) 0)), _, _, _, zmulP BB [-(i : Int), 1], _, _, _, List.map (fun k' => (RR.getD (k' + 1).toNat 0 - RR.getD k'.toNat 0).fdiv ((i : Int) + 1)) (rangeKs 0 ((RR.length : Int) - 1 - 0).toNat), o9, _⟩ F9 N9 (mem_five (.tail _ (.head _)) (.tail _ (.tail _ (.head _))) (.tail _ (.tail _ (.tail _ (.head _)))) (.head _) (.tail _ (.tail _ (.tail _ (.tail _ (.head _)))))) ?eo ?ed ?ef ?ek ?er ?ep
    case eo => exact fun p hp => .tail _ (.tail _ (.tail _ (.tail _ (.tail _ hp))))
    case ek => (intro p hp; simp only [List.mem_cons, List.not_mem_nil, or_false] at hp; rcases hp with rfl | rfl <;> rfl)
    case er => exact fun z h1 _ => by have q1 := h1 _ (.head _); have q2 := h1 _ (.tail _ (.head _)); simp only at q1 q2; simp only [q1, q2, if_false, kstB]; rfl
    case ep => exact tv_next hp
    case ed => exact own_ne (fun p hp => (show ∀ q ∈ _, q.1 ≠ _ from by assumption) p (by (repeat (first | exact hp | refine List.Mem.tail _ ?_)))) (fun p hp => (show ∀ q ∈ _, q.1 ≠ _ from by assumption) p (by (repeat (first | exact hp | refine List.Mem.tail _ ?_)))) (off1_all o1.2.2.2.2.2.2.2.2.2) (fun p hp => hoff p hp _ (.tail _ (.tail _ (.tail _ (.head _))))) (fun p hp => hoff p hp _ (.tail _ (.tail _ (.tail _ (.tail _ (.head _))))))
    case ef => exact ⟨⟨by assumption, by assumption, by assumption⟩, d9, ⟨_, by assumption⟩, ⟨fresh_ne (by assumption) (by k_mem), fresh_ne (by assumption) (by k_mem)⟩, ⟨fresh_ne (by assumption) (by k_mem), fresh_ne (by assumption) (by k_mem)⟩, Ne.symm o1.2.2.2.2.2.2.2.1, Ne.symm o1.2.2.2.2.2.2.2.2.1⟩
  case done =>
    intro c u h tk hf hp F N
    obtain ⟨lf, vf, nf, FF, lb, vb, nb, BB, lr, vr, nr, RR, orow, oat⟩ := c
    dsimp only at hf hp F N
    k_steps
    all_goals ((try dsimp only); (try (k_unfold; try dsimp only)); (try (k_unfold; try dsimp only)))
    exact leaveL hret (by assumption) (by assumption) (by assumption) (.head _) hf.1.1 (congrArg Prod.fst hp)
end
section
open PySem PySem.W PyProof.Rows PySem.Spec PySem.Calls
set_option maxRecDepth 100000
set_option maxHeartbeats 8000000
theorem take_snoc {α : Type} {l : List α} {i : Nat} {a : α} (h : l[i]? = some a) : l.take (i + 1) = l.take i ++ [a] := by rw [List.take_add_one, h]; rfl
section
variable {prog : Program} {w : World} {A : Around} {E : Value → Shared → Prop} {s : Shared} {h₀ : Heap} {L : Addr} {m : Str → Option Value} {env : Env} {news : List (Addr × Obj)}
theorem put_names {env : Env} {a b : Str} {pa pb tp : Pos} {kk : Nat} {T : Addr} {x y : Value} {m : Str → Option Value} {Q : Unit → Shared → Prop} (hh : A.handled = none) (ht : s.heap.IsTuple T #[x, y])
    (ha : env.kindOf a = some .local) (hb : env.kindOf b = some .local) (hp : (env.scope.kind == .class || (env.scope.kind == .module && env.locals != env.globals)) = false) (hn : s.heap.Ns env.locals m)
    (h : ∀ (h' : Heap) (tk : Nat), h'.Ns env.locals (fun z => if z = b then some y else if z = a then some x else m z) → (∀ c o, c ≠ env.locals → s.heap.get? c = some o → h'.get? c = some o) → Q () { s with heap := h', toks := tk }) :
    wpAny (model prog w) A (assign (.Tuple [.Name a pa, .Name b pb] kk tp) env (.ref T)) Q E s := kcp_assign hh ht ha hb hp hn h
/-- a block [elt for a, b in enumerate(list)], its element an int that leaves the heap as it stands -/
theorem en_block {elt iter : PySem.Expr} {a b : Str} {pa pb tp : Pos} {kk : Nat} {scope : Scope} {cl : List (Str × Addr)} {pos : Pos} {s₂ : Shared} {e it l : Addr} {vs : List Value} {ns : List Int} (val : Nat → Int → Int) {RR : Value → Addr → Result → Shared → Prop}
    (hh : A.handled = none) (hlen : ns.length ≤ sizeLine) (hE : IsEnum s₂.heap e it 0 .none) (hit : s₂.heap.IsListIter it l 0) (hl : s₂.heap.IsList l vs.toArray) (hi : IntsAre vs ns) (hei : e ≠ it) (hle : l ≠ e) (hli : l ≠ it)
    (hcell : ∀ y ∈ scope.names, y.2 ≠ .cell) (hkind : scope.kind = .function) (hxa : scope.names.lookup a = some .local) (hxb : scope.names.lookup b = some .local) (hab : ¬ a = b)
    (F : Fr h₀ L s₂.heap m) (N : News h₀ L s₂.heap news) (hLe : L ≠ e) (hLit : L ≠ it) (he₀ : h₀.get? e = none) (hit₀ : h₀.get? it = none) (offe : ∀ p ∈ news, p.1 ≠ e) (offit : ∀ p ∈ news, p.1 ≠ it)
    (turn : ∀ (i : Nat) x t ti C oC m₂ h tk (E' : Value → Shared → Prop), ns[i]? = some x → LCg.NsObj oC m₂ → m₂ a = some (.int (i : Int) ti) → m₂ b = some (.int x t) → Fr h₀ L h m → News h₀ L h ((C, oC) :: news) →
      wpAny (model prog w) A (eval elt (compEnvC scope cl C env)) (fun y s₃ => ∃ t' tk', y = .int (val i x) t' ∧ s₃ = { s₂ with heap := h, toks := tk' }) E' { s₂ with heap := h, toks := tk })
    (hRR : ∀ D C h tk m' ys, IntsAre ys (ns.mapIdx val) → Fr h₀ L h m → News h₀ L h ((D, LCg.lst ys) :: news) → (∀ p ∈ news, p.1 ≠ D) → h.Ns C m' → h₀.get? C = none → C ≠ L → C ≠ D → (∀ p ∈ news, p.1 ≠ C) → RR (.ref D) C (.ok .next) { s₂ with heap := h, toks := tk }) :
    wpAny (model prog w) A (newList []) (fun acc s₃ => wpAny (model prog w) A (newFunctionEnv scope env.globals cl [] env.qual none .none (some env)) (fun cenv s₄ =>
      codeAny (model prog w) A (.compStart (.ListComp elt [⟨.Tuple [.Name a pa, .Name b pb] kk tp, iter, [], 0⟩] scope pos) 0 (.ref e) acc { cenv with scope := relabel scope env }) (RR acc cenv.locals) s₄) E s₃) E s₂ := by
  refine wpAny_newObj_type (wpAny_newFunctionEnv hcell (by intro y hy; simp at hy) (fun h₁ hns₁ hsb₁ => ?_) hkind)
  dsimp only at hns₁ hsb₁ ⊢
  generalize hH2 : s₂.heap.push { cls := .type "list", dict := none, data := .seq ([] : List Value).toArray } = H2 at hns₁ hsb₁ ⊢
  have hC : H2.objs.size = s₂.heap.objs.size + 1 := by rw [← hH2, Heap.size_push]
  generalize hCn : H2.objs.size = C at hns₁ hsb₁ hC ⊢
  generalize hDn : s₂.heap.objs.size = D at hC ⊢
  have hDC : D ≠ C := by rw [hC]; exact Nat.ne_of_lt (Nat.lt_succ_self _)
  have below : ∀ b, b < s₂.heap.objs.size → b ≠ C ∧ b ≠ D := fun b hb => by rw [hDn] at hb; exact ⟨by rw [hC]; exact Nat.ne_of_lt (Nat.lt_succ_of_lt hb), Nat.ne_of_lt hb⟩
  have belowO : ∀ b o, s₂.heap.get? b = some o → b ≠ C ∧ b ≠ D := fun b o q => below b (Heap.lt_size q)
  have up₁ : ∀ b o, s₂.heap.get? b = some o → h₁.get? b = some o := fun b o q => hsb₁.extBut b o (belowO b o q).1 (Heap.get?_push_of_some _ (hH2 ▸ Heap.get?_push_of_some _ q))
  have hacc : h₁.get? D = some (LCg.lst []) := hsb₁.extBut _ _ hDC (Heap.get?_push_of_some _ (hH2 ▸ hDn ▸ Heap.get?_push_size _ rfl))
  have none₀ : ∀ b, D ≤ b → h₀.get? b = none := fun b hb => Heap.get?_none_of_le (Nat.le_trans F.above (Nat.le_trans (Nat.le_of_lt (hDn ▸ F.ns.lt)) hb))
  have hC₀ := none₀ C (by rw [hC]; exact Nat.le_succ _)
  have hD₀ := none₀ D (Nat.le_refl _)
  have hL := below L F.ns.lt
  have he := belowO e _ hE
  have hitx : it ≠ C ∧ it ≠ D := by obtain ⟨o, q, _⟩ := hit; exact belowO it o q
  have hlx : l ≠ C ∧ l ≠ D := by obtain ⟨o, q, _⟩ := hl; exact belowO l o q
  have hnC : ∀ p ∈ news, p.1 ≠ C := fun p hp => (belowO _ _ (N p hp).1).1
  have hnD : ∀ p ∈ news, p.1 ≠ D := fun p hp => (belowO _ _ (N p hp).1).2
  have W := WalksT.enumerate (prog := prog) (w := w) hh e it l hei hle hli vs.toArray
  have hfpC : C ∉ [e, it, l] := by simp [Ne.symm he.1, Ne.symm hitx.1, Ne.symm hlx.1]
  have hfpD : D ∉ [e, it, l] := by simp [Ne.symm he.2, Ne.symm hitx.2, Ne.symm hlx.2]
  have hsize : vs.toArray.size = ns.length := by simp [hi.length]
  have hloop : ∀ s₃ : Shared, (∃ tk, s₃ = { s₂ with heap := h₁, toks := tk }) →
      codeAny (model prog w) A (.compLoop (.ListComp elt [⟨.Tuple [.Name a pa, .Name b pb] kk tp, iter, [], 0⟩] scope pos) 0 (.ref e) (.ref D) (compEnvC scope cl C env)) (RR (.ref D) C) s₃ := by
    rintro s₃ ⟨tk₀, rfl⟩
    refine kcp_loop (fun k s' => ∃ h tk i ys m', s' = { s₂ with heap := h, toks := tk } ∧ i ≤ ns.length ∧ k = ns.length + 1 - i ∧ IntsAre ys ((ns.mapIdx val).take i) ∧ ((∃ old, IsEnum h e it i old) ∧ h.IsListIter it l i ∧ h.IsList l vs.toArray) ∧
      Fr h₀ L h m ∧ h.Ns C m' ∧ News h₀ L h ((D, LCg.lst ys) :: news)) ?_ (ns.length + 1) ⟨h₁, tk₀, 0, [], _, rfl, Nat.zero_le _, rfl, by simpa using IntsAre.nil, ?_, F.keeps up₁, hns₁, ?_⟩
    · rintro k s' ⟨h, tk, i, ys, m', rfl, hin, rfl, hys, hst, F', hn', N'⟩
      have keepW : ∀ h₂ : Heap, (∀ b o, b ∉ [e, it] → h.get? b = some o → h₂.get? b = some o) → Fr h₀ L h₂ m ∧ News h₀ L h₂ ((D, LCg.lst ys) :: news) ∧ h₂.Ns C m' := fun h₂ hk₂ =>
        ⟨⟨F'.ns.at' fun o q => hk₂ _ o (by simp [hLe, hLit]) q, fun b o q => hk₂ b o (fun hm => by
            rcases List.mem_cons.mp hm with rfl | hm
            · rw [he₀] at q; cases q
            · rw [List.mem_singleton.mp hm, hit₀] at q; cases q) (F'.keep b o q), F'.above⟩,
          fun p hp => ⟨hk₂ _ _ (fun hm => by
            have z : p.1 ≠ e ∧ p.1 ≠ it := by
              rcases List.mem_cons.mp hp with rfl | hp
              · exact ⟨Ne.symm he.2, Ne.symm hitx.2⟩
              · exact ⟨offe p hp, offit p hp⟩
            rcases List.mem_cons.mp hm with q | hm
            · exact z.1 q
            · exact z.2 (List.mem_singleton.mp hm)) (N' p hp).1, (N' p hp).2⟩,
          hn'.at' fun o q => hk₂ _ o (by simp [Ne.symm he.1, Ne.symm hitx.1]) q⟩
      by_cases hlt : i < ns.length
      · refine W.item i _ _ _ (by rw [hsize]; exact hlt) hst fun T vals h₂ tk₂ hP _ hT hMid hk₂ => ?_
        refine W.go _ kk tp i T _ _ _ hMid fun h₃ hst₃ hk₃ => ?_
        have hT₃ : h₃.IsTuple T vals := hT.at fun o q => hk₃ T o (W.apart i T h₂ hMid) q
        obtain ⟨ti, x, hx, rfl⟩ := hP
        obtain ⟨c, t, rfl, hc⟩ := hi.at i x (by simpa using hx)
        obtain ⟨F₃, N₃, n₃⟩ := keepW h₃ fun b o hb q => hk₃ b o hb (hk₂ b o hb q)
        refine put_names (env := compEnvC scope cl C env) hh hT₃ (lookup_relabel_local hxa) (lookup_relabel_local hxb) (by simp [compEnvC, relabel, hkind]) n₃ fun h₄ tk₄ hn₄ hs₄ => ?_
        have F₄ : Fr h₀ L h₄ m := ⟨F₃.ns.at' fun o q => hs₄ _ o hL.1 q, fun b o q => hs₄ b o (fun z => by have z' : b = C := z; rw [z', hC₀] at q; cases q) (F₃.keep b o q), F₃.above⟩
        have N₄ : News h₀ L h₄ ((D, LCg.lst ys) :: news) := fun p hp => ⟨hs₄ _ _ (by
          rcases List.mem_cons.mp hp with rfl | hp
          · exact hDC
          · exact hnC p hp) (N₃ p hp).1, (N₃ p hp).2⟩
        have st₄ := W.frame _ _ h₄ hst₃ fun b hb o q => hs₄ b o (fun z => hfpC (by have z' : b = C := z; rw [← z']; exact hb)) q
        obtain ⟨oC, heC, hoC⟩ := LCg.ns_obj hn₄
        have t₅ := turn i c t ti C oC _ h₄ tk₄ (notedBy (model prog w) A (compEnvC scope cl C env) fun e s' => RR (.ref D) C (.error e) s') hc hoC (by simp [hab]) (by simp) F₄ (fun p hp => (List.mem_cons.mp hp).elim (fun q => q ▸ ⟨heC, Ne.symm hL.1, hC₀⟩) fun hp => N₄ p (.tail _ hp))
        refine wpAny_mono t₅ (fun y s₅ h₅ => ?_) fun _ _ q => q
        obtain ⟨t', tk', rfl, rfl⟩ := h₅
        refine append_at (hsz := by show ys.toArray.size ≤ sizeLine; have q := hys.length; rw [List.length_take, List.length_mapIdx] at q; simp only [List.size_toArray]; omega) (N₄ _ (.head _)).1 fun h₆ hs₆ hD₆ => ?_
        refine ⟨ns.length + 1 - (i + 1), by omega, h₆, tk', i + 1, ys ++ [.int (val i c) t'], _, rfl, hlt, rfl, ?_, W.frame _ _ _ st₄ fun b hb o q => hs₆.extBut b o (fun z => hfpD (by have z' : b = D := z; rw [← z']; exact hb)) q, F₄.change hs₆ (Ne.symm hL.2) hD₀,
          (hoC.ns heC).sameBut hs₆ (Ne.symm hDC), fun p hp => ?_⟩
        · rw [take_snoc (show (ns.mapIdx val)[i]? = some (val i c) by rw [List.getElem?_mapIdx, hc]; rfl)]
          exact hys.append (.cons _ _ .nil)
        · rcases List.mem_cons.mp hp with rfl | hp
          · exact ⟨hD₆.trans (congrArg some (LCg.lst_snoc ys _)), Ne.symm hL.2, hD₀⟩
          · exact ⟨hs₆.extBut _ _ (hnD p hp) (N₄ p (.tail _ hp)).1, (N₄ p (.tail _ hp)).2⟩
      · have hin' : i = ns.length := by omega
        subst hin'
        refine W.done _ _ _ (by rw [hsize]; exact hst) fun h₂ tk₂ hk₂ => ?_
        obtain ⟨F₂, N₂, n₂⟩ := keepW h₂ hk₂
        rw [List.take_of_length_le (by simp)] at hys
        exact hRR D C h₂ tk₂ _ ys hys F₂ N₂ hnD n₂ hC₀ (Ne.symm hL.1) (Ne.symm hDC) hnC
    · exact W.frame _ _ _ ⟨⟨_, hE⟩, hit, hl⟩ fun b _ o q => up₁ b o q
    · intro p hp
      rcases List.mem_cons.mp hp with rfl | hp
      · exact ⟨hacc, Ne.symm hL.2, hD₀⟩
      · exact ⟨up₁ _ _ (N p hp).1, (N p hp).2⟩
  refine codeAny_compStart_list (hloop _ ⟨_, rfl⟩) (W.self 0 _ _ _ (W.frame _ _ _ ⟨⟨_, hE⟩, hit, hl⟩ fun b _ o q => up₁ b o q) (hloop _ ⟨_, rfl⟩))
noncomputable def EnSrc (prog : Program) (w : World) (A : Around) (h₀ : Heap) (L : Addr) (m : Str → Option Value) (env : Env) (elt : PySem.Expr) (a b : Str) (scope : Scope) (cl : List (Str × Addr)) (mf : Addr → Str → Option Value) (Q : Flow → Shared → Prop) (xv : Value) (s₁ : Shared) : Prop :=
  ∃ (e it l : Addr) (vs : List Value) (ns : List Int) (val : Nat → Int → Int) (news : List (Addr × Obj)), xv = .ref e ∧ A.handled = none ∧ ns.length ≤ sizeLine ∧ IsEnum s₁.heap e it 0 .none ∧ s₁.heap.IsListIter it l 0 ∧ s₁.heap.IsList l vs.toArray ∧ IntsAre vs ns ∧ e ≠ it ∧ l ≠ e ∧ l ≠ it ∧
    Fr h₀ L s₁.heap m ∧ News h₀ L s₁.heap news ∧ L ≠ e ∧ L ≠ it ∧ h₀.get? e = none ∧ h₀.get? it = none ∧ (∀ p ∈ news, p.1 ≠ e) ∧ (∀ p ∈ news, p.1 ≠ it) ∧
    (∀ (i : Nat) x t ti C oC m₂ h tk (E' : Value → Shared → Prop), ns[i]? = some x → LCg.NsObj oC m₂ → m₂ a = some (.int (i : Int) ti) → m₂ b = some (.int x t) → Fr h₀ L h m → News h₀ L h ((C, oC) :: news) →
      wpAny (model prog w) A (eval elt (compEnvC scope cl C env)) (fun y s₃ => ∃ t' tk', y = .int (val i x) t' ∧ s₃ = { s₁ with heap := h, toks := tk' }) E' { s₁ with heap := h, toks := tk }) ∧
    (∀ D h tk ys, IntsAre ys (ns.mapIdx val) → Fr h₀ L h (mf D) → News h₀ L h ((D, LCg.lst ys) :: news) → (∀ p ∈ news, p.1 ≠ D) → Q .next { s₁ with heap := h, toks := tk })
theorem en_call {elt : PySem.Expr} {a b : Str} {scope : Scope} {cl : List (Str × Addr)} {mf : Addr → Str → Option Value} {Q : Flow → Shared → Prop} {l : Addr} {vs : List Value} {ns : List Int} (val : Nat → Int → Int)
    (hh : A.handled = none) (F : Fr h₀ L s.heap m) (N : News h₀ L s.heap news) (hl : s.heap.IsList l vs.toArray) (hi : IntsAre vs ns) (hlen : ns.length ≤ sizeLine)
    (turn : ∀ (i : Nat) x t ti C oC m₂ g h tk (E' : Value → Shared → Prop), ns[i]? = some x → LCg.NsObj oC m₂ → m₂ a = some (.int (i : Int) ti) → m₂ b = some (.int x t) → Fr h₀ L h m → News h₀ L h ((C, oC) :: news) →
      wpAny (model prog w) A (eval elt (compEnvC scope cl C env)) (fun y s₃ => ∃ t' tk', y = .int (val i x) t' ∧ s₃ = { ({ s with heap := g } : Shared) with heap := h, toks := tk' }) E' { ({ s with heap := g } : Shared) with heap := h, toks := tk })
    (hfin : ∀ D g h tk ys, IntsAre ys (ns.mapIdx val) → Fr h₀ L h (mf D) → News h₀ L h ((D, LCg.lst ys) :: news) → (∀ p ∈ news, p.1 ≠ D) → Q .next { ({ s with heap := g } : Shared) with heap := h, toks := tk }) :
    wpAny (model prog w) A (call (.type "enumerate") [.ref l]) (EnSrc prog w A h₀ L m env elt a b scope cl mf Q) E s := by
  have hlt : l < s.heap.objs.size := by obtain ⟨_, e, _⟩ := hl; exact Heap.lt_size e
  refine call_enumerate_list hl fun h' he hit hsz hkp => ?_
  have hLs : L < s.heap.objs.size := F.ns.lt
  refine ⟨_, _, l, vs, ns, val, news, rfl, hh, hlen, he, hit, hl.at fun o e => hkp l o e, hi, Nat.succ_ne_self _, Nat.ne_of_lt (Nat.lt_succ_of_lt hlt), Nat.ne_of_lt hlt, F.keeps hkp, N.grown hkp, Nat.ne_of_lt (Nat.lt_succ_of_lt hLs), Nat.ne_of_lt hLs,
    Heap.get?_none_of_le (Nat.le_trans F.above (Nat.le_of_lt (Nat.lt_succ_of_lt hLs))), Heap.get?_none_of_le (Nat.le_trans F.above (Nat.le_of_lt hLs)), fun p hp => Nat.ne_of_lt (Nat.lt_succ_of_lt (Heap.lt_size (N p hp).1)), fun p hp => Nat.ne_of_lt (Heap.lt_size (N p hp).1),
    fun i x t ti C oC m₂ h tk E' => turn i x t ti C oC m₂ h' h tk E', fun D h tk ys => hfin D h' h tk ys⟩
theorem en_Assign {elt iter : PySem.Expr} {a b y : Str} {pa pb tp py : Pos} {kk : Nat} {scope : Scope} {cl : List (Str × Addr)} {pos spos : Pos} {Q : Flow → Shared → Prop} (_ : Fr h₀ L s.heap m) (hLe : env.locals = L)
    (hsw : swapsWith (.ListComp elt [⟨.Tuple [.Name a pa, .Name b pb] kk tp, iter, [], 0⟩] scope pos) (some (.Name y py)) spos.line env = pure true)
    (hclos : closureFor scope env = pure cl) (hcell : ∀ z ∈ scope.names, z.2 ≠ .cell) (hkind : scope.kind = .function)
    (hnames : ∀ z ∈ scope.names, z.2 = .local → scope.names.lookup z.1 = some .local) (hxa : scope.names.lookup a = some .local) (hxb : scope.names.lookup b = some .local) (hab : ¬ a = b)
    (hy : env.kindOf y = some .local) (hp : (env.scope.kind == .class || (env.scope.kind == .module && env.locals != env.globals)) = false)
    (h : wpAny (model prog w) A (eval iter env) (EnSrc prog w A h₀ L m env elt a b scope cl (fun D z => if z = y then some (.ref D) else m z) Q) E s)
    (hs : ∀ x, foldedSetIterable iter env x = pure x := by intro _; rfl) :
    wpAny (model prog w) A (exec (.Assign [.Name y py] (.ListComp elt [⟨.Tuple [.Name a pa, .Name b pb] kk tp, iter, [], 0⟩] scope pos) spos) env) Q E s := by
  subst hLe
  rw [exec_Assign_Name_used _ _ _ _ hsw]
  refine wpAny_bind (wpAny_standAt (wpAny_bind ?_))
  show wpAny _ A (do let _ ← comprehension (.ListComp elt [⟨.Tuple [.Name a pa, .Name b pb] kk tp, iter, [], 0⟩] scope pos) scope env _ (newList []) false (eval iter env) (some (assign (.Name y py) env))) _ _ s
  refine wpAny_bind (wpAny_mono (wpAny_comprehension_free (use := some (assign (.Name y py) env)) (Q := fun _ s' => Q .next s') rfl hs hclos hkind hnames
    (wpAny_mono h (fun xv s₁ h₁ => ?_) fun _ _ e => e)) (fun _ s' hq => wpAny_pure (wpAny_pure hq)) fun _ _ e => e)
  obtain ⟨e, it, l, vs, ns, val, news, rfl, hh, hlen, hE, hit, hl, hi, hei, hle, hli, F, N, hLe, hLit, he₀, hit₀, offe, offit, turn, fin⟩ := h₁
  refine (WalksT.enumerate (prog := prog) (w := w) hh e it l hei hle hli vs.toArray).self 0 _ _ _ ⟨⟨_, hE⟩, hit, hl⟩ ?_
  refine en_block val hh hlen hE hit hl hi hei hle hli hcell hkind hxa hxb hab F N hLe hLit he₀ hit₀ offe offit turn ?_
  intro D C h tk m' ys hys F' N' oD hn hC₀ hCL hCD offC
  show wpAny _ A (assign (.Name y py) env (.ref D)) _ _ _
  refine wpAny_assign_Name (wpAny_storeName_local hy F'.ns (fun h₂ hn₂ hs₂ => ?_) hp)
  have hL₀ : h₀.get? env.locals = none := Heap.get?_none_of_le F'.above
  have F₂ : Fr h₀ env.locals h₂ (fun z => if z = y then some (.ref D) else m z) := ⟨hn₂, fun b o e => hs₂.extBut b o (fun q => by rw [q, hL₀] at e; cases e) (F'.keep b o e), F'.above⟩
  refine ⟨m', hn.sameBut hs₂ hCL, fun h'' hs'' => fin D h'' _ ys hys (F₂.change hs'' hCL hC₀) (fun p hp => ?_) oD⟩
  have z : h₂.get? p.1 = some p.2 := hs₂.extBut _ _ (N' p hp).2.1 (N' p hp).1
  refine ⟨hs''.extBut _ _ ?_ z, (N' p hp).2⟩
  rcases List.mem_cons.mp hp with rfl | hp
  · exact Ne.symm hCD
  · exact offC p hp
end
end
section
noncomputable def scaled_forP (ns : List Int) (x : Int) : List Int := (ns.mapIdx fun i z => z * x ^ i).reverse
theorem scaled_for_c (w : World) (mean : ExcName → Option Value) (mg mb : Str → Option Value) (l : Addr) (vs : List Value) (ns : List Int) (x : Int) (t : Tok) (hi : IntsAre vs ns) (hl : ns.length < 2 ^ 9) (hx : Sm x) (hp : PowSm x ns.length) :
    Tell PySem.Challenge.rw_sa0099_01.row.prog w (Mine.hd.heap_39 w.params) Mine.hd.view_39 (looseW Mine.hd.view_39 []) mean mg mb 172 [.ref l, .int x t] 3 (fun h => h.IsList l vs.toArray) (RetL (scaled_forP ns x)) := by
  k_with_none
  k_with "my w1" => ((k_here; (with_reducible show wpAny _ _ (exec (Stmt.While _ _ _ _) _) _ _ _); k_extra "my while"))
  k_with "my w1" => ((k_here; (with_reducible show wpAny _ _ (exec (Stmt.For _ _ _ _ _) _) _ _ _); k_extra "my for"))
  k_with "pyIter ref" => ((k_here; k_extra "my iter"))
  k_with "call type:enumerate" => ((k_here; k_extra "my enum"))
  k_with "my fits" => (first | exact MulAll.ok (by assumption) _ (by assumption) | exact Sm.mulR (by assumption) | exact Sm.mulL (by assumption) | exact Sm.mulR (SmL.at (by assumption) (by assumption)) | exact Sm.mulL (SmL.at (by assumption) (by assumption)))
  k_with "binaryOp FloorDiv int int" => ((k_here; k_dflt ((refine floordiv_int ?kb ?_ (Or.inl (Sm.py ?kp))); (case kb => first | assumption | exact Nz.ne (by assumption) | omega | exact PowNz.ok (by assumption) _); (case kp => first | assumption | exact PowSm.ok (by assumption) _ (by omega)))))
  k_with "exec Raise some none" => ((exfalso; omega))
  k_with "call ref" => ((k_here; k_extra "my call"))
  k_with "my fits" => (k_dflt (first | exact Sm.mulR (by assumption) | exact Sm.mulL (by assumption) | exact Sm.mulR (PowSm.ok (by assumption) _ (by omega)) | exact Sm.mulL (PowSm.ok (by assumption) _ (by omega))))
  k_with "binaryOp Pow int int" => ((k_here; k_dflt ((refine pow_int_small ?kp1 ?kp2 ?kp3 ?_); (case kp1 => first | omega | l_fact); (case kp2 => first | omega | l_fact); (case kp3 => exact Sm.lt64 (by assumption)))))
  k_with "my w1" => (((with_reducible show wpAny _ _ (exec (Stmt.Assign [_] (Expr.ListComp _ _ _ _) _) _) _ _ _); k_extra "my comp"))
  k_fill
  unfold Tell
  intro dp un gd cn cs a ccd cl outer A₀ base h₀ L m s Q E B F X T hk hd hu hP hret
  refine wpAny_call ?_
  refine' enterC ?k1 ?k2 ?k3 ?k5 ?kA ?kF ?kK ?k6 ?k7 ?k8 ?k9 ?kB ?kD ?_ ?c2 ?c3 ?c4
  case kA => exact rfl
  case kF => exact rfl
  case kK => assumption
  case k1 => k_asm
  case k2 => k_asm
  case k3 => k_asm
  case k5 => k_asm
  case k6 => k_dflt k_is
  case k7 => k_dflt k_is
  case k8 => first | exact room0 (by assumption) | ((try simp only [depth_under_make, depth_under_kw, depth_in1, depth_deeper, depth_caller]); (try dsimp only [ktrTop]); exact room0 (by assumption)) | ktr_room
  case k9 => exact BindsTo.of_eq rfl
  case kB => exact rfl
  case kD => decide +kernel
  case c2 => exact rfl
  case c3 => exact rfl
  case c4 => exact rfl
  intro g' L' h' tk' cells' FG' F' N' Y' B' X' T' G'
  k_cells Y'
  clear B F X T
  try dsimp only
  try k_fold
  have hP' := lift_list G' hP
  k_with "my comp" => refine Stop.mk ?_
  k_with "my enum" => refine Stop.mk ?_
  k_steps
  unfold Stop
  k_with_none
  k_with "my w1" => ((k_here; (with_reducible show wpAny _ _ (exec (Stmt.While _ _ _ _) _) _ _ _); k_extra "my while"))
  k_with "my w1" => ((k_here; (with_reducible show wpAny _ _ (exec (Stmt.For _ _ _ _ _) _) _ _ _); k_extra "my for"))
  k_with "pyIter ref" => ((k_here; k_extra "my iter"))
  k_with "call type:enumerate" => ((k_here; k_extra "my enum"))
  k_with "my fits" => (first | exact MulAll.ok (by assumption) _ (by assumption) | exact Sm.mulR (by assumption) | exact Sm.mulL (by assumption) | exact Sm.mulR (SmL.at (by assumption) (by assumption)) | exact Sm.mulL (SmL.at (by assumption) (by assumption)))
  k_with "binaryOp FloorDiv int int" => ((k_here; k_dflt ((refine floordiv_int ?kb ?_ (Or.inl (Sm.py ?kp))); (case kb => first | assumption | exact Nz.ne (by assumption) | omega | exact PowNz.ok (by assumption) _); (case kp => first | assumption | exact PowSm.ok (by assumption) _ (by omega)))))
  k_with "exec Raise some none" => ((exfalso; omega))
  k_with "call ref" => ((k_here; k_extra "my call"))
  k_with "my fits" => (k_dflt (first | exact Sm.mulR (by assumption) | exact Sm.mulL (by assumption) | exact Sm.mulR (PowSm.ok (by assumption) _ (by omega)) | exact Sm.mulL (PowSm.ok (by assumption) _ (by omega))))
  k_with "binaryOp Pow int int" => ((k_here; k_dflt ((refine pow_int_small ?kp1 ?kp2 ?kp3 ?_); (case kp1 => first | omega | l_fact); (case kp2 => first | omega | l_fact); (case kp3 => exact Sm.lt64 (by assumption)))))
  k_with "my w1" => (((with_reducible show wpAny _ _ (exec (Stmt.Assign [_] (Expr.ListComp _ _ _ _) _) _) _ _ _); k_extra "my comp"))
  k_with "my enum" => refine Stop.mk ?_
  refine' en_Assign (L := L') (by assumption)  ?e1 ?e2 ?e3 ?e4 ?e5 ?e6 ?e7 ?e8 ?e9 ?e10 ?e11 ?e12
  case e1 => exact rfl
  case e2 => exact rfl
  case e3 => exact rfl
  case e4 => decide
  case e5 => exact rfl
  case e6 => decide
  case e7 => exact rfl
  case e8 => exact rfl
  case e9 => decide
  case e10 => exact rfl
  case e11 => exact rfl
  k_steps
  unfold Stop
  k_with_none
  k_with "my w1" => ((k_here; (with_reducible show wpAny _ _ (exec (Stmt.While _ _ _ _) _) _ _ _); k_extra "my while"))
  k_with "my w1" => ((k_here; (with_reducible show wpAny _ _ (exec (Stmt.For _ _ _ _ _) _) _ _ _); k_extra "my for"))
  k_with "pyIter ref" => ((k_here; k_extra "my iter"))
  k_with "call type:enumerate" => ((k_here; k_extra "my enum"))
  k_with "my fits" => (first | exact MulAll.ok (by assumption) _ (by assumption) | exact Sm.mulR (by assumption) | exact Sm.mulL (by assumption) | exact Sm.mulR (SmL.at (by assumption) (by assumption)) | exact Sm.mulL (SmL.at (by assumption) (by assumption)))
  k_with "binaryOp FloorDiv int int" => ((k_here; k_dflt ((refine floordiv_int ?kb ?_ (Or.inl (Sm.py ?kp))); (case kb => first | assumption | exact Nz.ne (by assumption) | omega | exact PowNz.ok (by assumption) _); (case kp => first | assumption | exact PowSm.ok (by assumption) _ (by omega)))))
  k_with "exec Raise some none" => ((exfalso; omega))
  k_with "call ref" => ((k_here; k_extra "my call"))
  k_with "my fits" => (k_dflt (first | exact Sm.mulR (by assumption) | exact Sm.mulL (by assumption) | exact Sm.mulR (PowSm.ok (by assumption) _ (by omega)) | exact Sm.mulL (PowSm.ok (by assumption) _ (by omega))))
  k_with "binaryOp Pow int int" => ((k_here; k_dflt ((refine pow_int_small ?kp1 ?kp2 ?kp3 ?_); (case kp1 => first | omega | l_fact); (case kp2 => first | omega | l_fact); (case kp3 => exact Sm.lt64 (by assumption)))))
  k_with "my w1" => (((with_reducible show wpAny _ _ (exec (Stmt.Assign [_] (Expr.ListComp _ _ _ _) _) _) _ _ _); k_extra "my comp"))
  refine' en_call (fun i z => z * x ^ i) ?e1 (by assumption) ?e3 ?e4 hi ?e6 ?turn ?fin
  case e1 => exact rfl
  case e3 => exact (by assumption)
  case e4 => is_list
  case e6 => exact Nat.le_trans (Nat.le_of_lt hl) (by decide)
  case turn =>
    intro i z tz ti C oC m₂ g h tk E' hz hC h1 h2 F₂ N₂
    have hi2 : i < ns.length := (List.getElem?_eq_some_iff.mp hz).1
    have kM := kstMark
    k_steps
  case fin =>
    intro D g h tk ys hys F₂ N₂ oD
    dsimp only
    have hzl : (ns.mapIdx fun i z => z * x ^ i).length < 2 ^ 9 := by rw [List.length_mapIdx]; exact hl
    generalize hz : (ns.mapIdx fun i z => z * x ^ i) = zs at hys hzl
    clear hp hx
    k_steps
    all_goals ((try dsimp only); (try (k_unfold; try dsimp only)); (try (k_unfold; try dsimp only)))
    subst hz
    exact leaveL hret (by assumption) (by assumption) (by assumption) (.head _) (by assumption) rfl
end
section
structure ResAll (ns1 ns2 : List Int) (N : Nat) : Prop where
  ok : ∀ x : Int, 0 ≤ x → x < 0 + (((N : Int) + 1 - 0).toNat : Int) → ResOk ns1 (zcomposeP ns2 [x, -1])
  len : ∀ x : Int, 0 ≤ x → x < 0 + (((N : Int) + 1 - 0).toNat : Int) → (zcomposeP ns2 [x, -1]).length < 2 ^ 9
structure SmTo (N : Nat) : Prop where
  ok : ∀ x : Int, 0 ≤ x → x < 0 + (((N : Int) + 1 - 0).toNat : Int) → SmL [x, -1]
theorem SmTo.of {N : Nat} (h : N < 8) : SmTo N := ⟨fun x h0 h1 => sm_pair (Sm.of (by omega) (by omega)) sm_neg_one⟩
theorem mul_eq {prog : Program} {w : World} {A : Around} {E : Value → Shared → Prop} {s : Shared} {Q : Value → Shared → Prop} {a b c : Int} {t u : Tok} (e : a * b = c) (ha : Sm a) (h : Q (.int c s.toks) { s with toks := s.toks + 1 }) : wpAny (model prog w) A (binaryOp .Mult (.int a t) (.int b u)) Q E s := by
  subst e
  exact mul_int h ha.mulL
noncomputable def sumVals (ns1 ns2 : List Int) (N : Nat) : List Int := (List.range (N + 1)).map fun (x : Nat) => resultantP ns1 (zcomposeP ns2 [(x : Int), -1])
theorem sumVals_eq (ns1 ns2 : List Int) (N : Nat) : sumVals ns1 ns2 N = List.map (fun k' => resultantP ns1 (zcomposeP ns2 [k', -1])) (rangeKs 0 ((N : Int) + 1 - 0).toNat) := by
  have e : ((N : Int) + 1 - 0).toNat = N + 1 := by omega
  rw [e, rangeKs0, List.map_map]
  rfl
theorem sum_polynomial_c (w : World) (mean : ExcName → Option Value) (mg mb : Str → Option Value) (l1 l2 : Addr) (vs1 vs2 : List Value) (ns1 ns2 : List Int) (N : Nat) (hi1 : IntsAre vs1 ns1) (hl1 : ns1.length < 2 ^ 4) (hi2 : IntsAre vs2 ns2) (hl2 : ns2.length < 2 ^ 4)
    (hN : ((ns1.length : Int) - 1) * ((ns2.length : Int) - 1) = (N : Int)) (hN8 : N < 8) (hok : ResAll ns1 ns2 N) (hB : ∀ i, i < (sumVals ns1 ns2 N).length → SmL (tvPre (sumVals ns1 ns2 N) i).2.1) :
    Tell PySem.Challenge.rw_sa0099_01.row.prog w (Mine.hd.heap_39 w.params) Mine.hd.view_39 (looseW Mine.hd.view_39 []) mean mg mb 167 [.ref l1, .ref l2] 14 (fun h => h.IsList l1 vs1.toArray ∧ h.IsList l2 vs2.toArray) (RetL (through_valuesP (sumVals ns1 ns2 N))) := by
  k_with_none
  k_with "my w1" => ((k_here; (with_reducible show wpAny _ _ (exec (Stmt.While _ _ _ _) _) _ _ _); k_extra "my while"))
  k_with "my w1" => ((k_here; (with_reducible show wpAny _ _ (exec (Stmt.For _ _ _ _ _) _) _ _ _); k_extra "my for"))
  k_with "pyIter ref" => ((k_here; k_extra "my iter"))
  k_with "call type:enumerate" => ((k_here; k_extra "my enum"))
  k_with "my fits" => (first | exact MulAll.ok (by assumption) _ (by assumption) | exact Sm.mulR (by assumption) | exact Sm.mulL (by assumption) | exact Sm.mulR (SmL.at (by assumption) (by assumption)) | exact Sm.mulL (SmL.at (by assumption) (by assumption)))
  k_with "binaryOp FloorDiv int int" => ((k_here; k_dflt ((refine floordiv_int ?kb ?_ (Or.inl (Sm.py ?kp))); (case kb => first | assumption | exact Nz.ne (by assumption) | omega | exact PowNz.ok (by assumption) _); (case kp => first | assumption | exact PowSm.ok (by assumption) _ (by omega)))))
  k_with "exec Raise some none" => ((exfalso; omega))
  k_with "call ref" => ((k_here; k_extra "my call"))
  k_with "my w1" => (((with_reducible show wpAny _ _ (binaryOp Operator.Mult _ _) _ _ _); k_extra "my mul"))
  k_with "my call" => (first | (k_dflt (refine' use_L (through_values_c _ _ _ _ _ _ _ ?p0 ?p1 ?p2) ?kB ?kF ?kX ?kN ?kT ?kK ?kd ?ku ?kP ?kb ?_; (case kP => (first | exact trivial | (first | exact isl (by assumption) (by k_mem) | is_list) | (refine And.intro ?_ ?_ <;> (first | exact isl (by assumption) (by k_mem) | is_list)))); (case p0 => first | assumption | exact .nil | exact .cons _ _ .nil | exact .cons _ _ (.cons _ _ .nil) | exact .cons _ _ (.cons _ _ (.cons _ _ .nil)) | l_ints); (case p1 => first | assumption | exact Nat.lt_of_lt_of_le (by assumption) (by decide) | l_fit | omega | (simp only [List.length_cons, List.length_nil, List.length_append, List.length_map, List.length_replicate, List.length_reverse, rangeKs_length] at *; omega)); (case p2 => assumption); (case kb => exact through_valuesP_len _); (case kB => k_asm); (case kF => k_asm); (case kX => k_asm); (case kN => k_asm); (case kT => k_asm); (case kK => first | exact rfl | assumption); (case kd => first | exact roomK (by assumption) (by decide) | ((try simp only [depth_under_make, depth_under_kw, depth_in1, depth_deeper, depth_caller]); (try dsimp only [ktrTop]); first | exact roomK (by assumption) (by decide) | exact roomG rfl (by decide)) | ktr_room); (case ku => first | ((try simp only [units_in1, units_deeper, Around.mark_units, units_caller]); (try dsimp only [ktrTop]); first | exact unitsK (by assumption) (by decide) | exact unitsK64 (by assumption) (by decide) | exact unitsG rfl (by decide) | exact unitsG64 rfl) | ktr_units); intro l9 ys9 n9 h9 tk9 F9 N9 ne9 hi9 hb9; (have no9 := ne9); (clear ne9); (try dsimp only); (try k_sweep); (try k_fold))) | (k_dflt (refine' use_I (resultant_c _ _ _ _ _ _ _ _ _ _ ?p0 ?p1 ?p2 ?p3 ?p4) ?kB ?kF ?kX ?kN ?kT ?kK ?kd ?ku ?kP ?_; (case kP => (first | exact trivial | (first | exact isl (by assumption) (by k_mem) | is_list) | (refine And.intro ?_ ?_ <;> (first | exact isl (by assumption) (by k_mem) | is_list)))); (case p0 => first | assumption | exact .nil | exact .cons _ _ .nil | exact .cons _ _ (.cons _ _ .nil) | exact .cons _ _ (.cons _ _ (.cons _ _ .nil)) | l_ints); (case p1 => first | assumption | exact Nat.lt_of_lt_of_le (by assumption) (by decide) | l_fit | omega | (simp only [List.length_cons, List.length_nil, List.length_append, List.length_map, List.length_replicate, List.length_reverse, rangeKs_length] at *; omega)); (case p2 => first | assumption | exact .nil | exact .cons _ _ .nil | exact .cons _ _ (.cons _ _ .nil) | exact .cons _ _ (.cons _ _ (.cons _ _ .nil)) | l_ints); (case p3 => exact ResAll.len (by assumption) _ (by assumption) (by assumption)); (case p4 => exact ResAll.ok (by assumption) _ (by assumption) (by assumption)); (case kB => k_asm); (case kF => k_asm); (case kX => k_asm); (case kN => k_asm); (case kT => k_asm); (case kK => first | exact rfl | assumption); (case kd => first | exact roomK (by assumption) (by decide) | ((try simp only [depth_under_make, depth_under_kw, depth_in1, depth_deeper, depth_caller]); (try dsimp only [ktrTop]); first | exact roomK (by assumption) (by decide) | exact roomG rfl (by decide)) | ktr_room); (case ku => first | ((try simp only [units_in1, units_deeper, Around.mark_units, units_caller]); (try dsimp only [ktrTop]); first | exact unitsK (by assumption) (by decide) | exact unitsK64 (by assumption) (by decide) | exact unitsG rfl (by decide) | exact unitsG64 rfl) | ktr_units); intro t9 h9 tk9 F9 N9; (try dsimp only); (try k_sweep); (try k_fold))) | (k_dflt (refine' use_L (zcompose_c _ _ _ _ _ _ _ _ _ _ ?p0 ?p1 ?p2 ?p3 ?p4) ?kB ?kF ?kX ?kN ?kT ?kK ?kd ?ku ?kP ?kb ?_; (case kP => (first | exact trivial | (first | exact isl (by assumption) (by k_mem) | is_list) | (refine And.intro ?_ ?_ <;> (first | exact isl (by assumption) (by k_mem) | is_list)))); (case p0 => first | assumption | exact .nil | exact .cons _ _ .nil | exact .cons _ _ (.cons _ _ .nil) | exact .cons _ _ (.cons _ _ (.cons _ _ .nil)) | l_ints); (case p1 => first | assumption | exact Nat.lt_of_lt_of_le (by assumption) (by decide) | l_fit | omega | (simp only [List.length_cons, List.length_nil, List.length_append, List.length_map, List.length_replicate, List.length_reverse, rangeKs_length] at *; omega)); (case p2 => first | assumption | exact .nil | exact .cons _ _ .nil | exact .cons _ _ (.cons _ _ .nil) | exact .cons _ _ (.cons _ _ (.cons _ _ .nil)) | l_ints); (case p3 => (simp only [List.length_cons, List.length_nil]; omega)); (case p4 => exact SmTo.ok (by assumption) _ (by assumption) (by assumption)); (case kb => exact zcomposeP_len _ _); (case kB => k_asm); (case kF => k_asm); (case kX => k_asm); (case kN => k_asm); (case kT => k_asm); (case kK => first | exact rfl | assumption); (case kd => first | exact roomK (by assumption) (by decide) | ((try simp only [depth_under_make, depth_under_kw, depth_in1, depth_deeper, depth_caller]); (try dsimp only [ktrTop]); first | exact roomK (by assumption) (by decide) | exact roomG rfl (by decide)) | ktr_room); (case ku => first | ((try simp only [units_in1, units_deeper, Around.mark_units, units_caller]); (try dsimp only [ktrTop]); first | exact unitsK (by assumption) (by decide) | exact unitsK64 (by assumption) (by decide) | exact unitsG rfl (by decide) | exact unitsG64 rfl) | ktr_units); intro l9 ys9 n9 h9 tk9 F9 N9 ne9 hi9 hb9; (have no9 := ne9); (clear ne9 hb9); (try dsimp only); (try k_sweep); (try k_fold))))
  k_fill
  unfold Tell
  intro dp un gd cn cs a ccd cl outer A₀ base h₀ L m s Q E B F X T hk hd hu hP hret
  refine wpAny_call ?_
  refine' enterC ?k1 ?k2 ?k3 ?k5 ?kA ?kF ?kK ?k6 ?k7 ?k8 ?k9 ?kB ?kD ?_ ?c2 ?c3 ?c4
  case kA => exact rfl
  case kF => exact rfl
  case kK => assumption
  case k1 => k_asm
  case k2 => k_asm
  case k3 => k_asm
  case k5 => k_asm
  case k6 => k_dflt k_is
  case k7 => k_dflt k_is
  case k8 => first | exact room0 (by assumption) | ((try simp only [depth_under_make, depth_under_kw, depth_in1, depth_deeper, depth_caller]); (try dsimp only [ktrTop]); exact room0 (by assumption)) | ktr_room
  case k9 => exact BindsTo.of_eq rfl
  case kB => exact rfl
  case kD => decide +kernel
  case c2 => exact rfl
  case c3 => exact rfl
  case c4 => exact rfl
  intro g' L' h' tk' cells' FG' F' N' Y' B' X' T' G'
  k_cells Y'
  clear B F X T
  try dsimp only
  try k_fold
  obtain ⟨hP1, hP2⟩ := hP
  have hP1' := lift_list G' hP1
  have hP2' := lift_list G' hP2
  k_with "my mul" => refine Stop.mk ?_
  k_steps
  unfold Stop
  k_with_none
  k_with "my w1" => ((k_here; (with_reducible show wpAny _ _ (exec (Stmt.While _ _ _ _) _) _ _ _); k_extra "my while"))
  k_with "my w1" => ((k_here; (with_reducible show wpAny _ _ (exec (Stmt.For _ _ _ _ _) _) _ _ _); k_extra "my for"))
  k_with "pyIter ref" => ((k_here; k_extra "my iter"))
  k_with "call type:enumerate" => ((k_here; k_extra "my enum"))
  k_with "my fits" => (first | exact MulAll.ok (by assumption) _ (by assumption) | exact Sm.mulR (by assumption) | exact Sm.mulL (by assumption) | exact Sm.mulR (SmL.at (by assumption) (by assumption)) | exact Sm.mulL (SmL.at (by assumption) (by assumption)))
  k_with "binaryOp FloorDiv int int" => ((k_here; k_dflt ((refine floordiv_int ?kb ?_ (Or.inl (Sm.py ?kp))); (case kb => first | assumption | exact Nz.ne (by assumption) | omega | exact PowNz.ok (by assumption) _); (case kp => first | assumption | exact PowSm.ok (by assumption) _ (by omega)))))
  k_with "exec Raise some none" => ((exfalso; omega))
  k_with "call ref" => ((k_here; k_extra "my call"))
  k_with "my w1" => (((with_reducible show wpAny _ _ (binaryOp Operator.Mult _ _) _ _ _); k_extra "my mul"))
  k_with "my call" => (first | (k_dflt (refine' use_L (through_values_c _ _ _ _ _ _ _ ?p0 ?p1 ?p2) ?kB ?kF ?kX ?kN ?kT ?kK ?kd ?ku ?kP ?kb ?_; (case kP => (first | exact trivial | (first | exact isl (by assumption) (by k_mem) | is_list) | (refine And.intro ?_ ?_ <;> (first | exact isl (by assumption) (by k_mem) | is_list)))); (case p0 => first | assumption | exact .nil | exact .cons _ _ .nil | exact .cons _ _ (.cons _ _ .nil) | exact .cons _ _ (.cons _ _ (.cons _ _ .nil)) | l_ints); (case p1 => first | assumption | exact Nat.lt_of_lt_of_le (by assumption) (by decide) | l_fit | omega | (simp only [List.length_cons, List.length_nil, List.length_append, List.length_map, List.length_replicate, List.length_reverse, rangeKs_length] at *; omega)); (case p2 => assumption); (case kb => exact through_valuesP_len _); (case kB => k_asm); (case kF => k_asm); (case kX => k_asm); (case kN => k_asm); (case kT => k_asm); (case kK => first | exact rfl | assumption); (case kd => first | exact roomK (by assumption) (by decide) | ((try simp only [depth_under_make, depth_under_kw, depth_in1, depth_deeper, depth_caller]); (try dsimp only [ktrTop]); first | exact roomK (by assumption) (by decide) | exact roomG rfl (by decide)) | ktr_room); (case ku => first | ((try simp only [units_in1, units_deeper, Around.mark_units, units_caller]); (try dsimp only [ktrTop]); first | exact unitsK (by assumption) (by decide) | exact unitsK64 (by assumption) (by decide) | exact unitsG rfl (by decide) | exact unitsG64 rfl) | ktr_units); intro l9 ys9 n9 h9 tk9 F9 N9 ne9 hi9 hb9; (have no9 := ne9); (clear ne9); (try dsimp only); (try k_sweep); (try k_fold))) | (k_dflt (refine' use_I (resultant_c _ _ _ _ _ _ _ _ _ _ ?p0 ?p1 ?p2 ?p3 ?p4) ?kB ?kF ?kX ?kN ?kT ?kK ?kd ?ku ?kP ?_; (case kP => (first | exact trivial | (first | exact isl (by assumption) (by k_mem) | is_list) | (refine And.intro ?_ ?_ <;> (first | exact isl (by assumption) (by k_mem) | is_list)))); (case p0 => first | assumption | exact .nil | exact .cons _ _ .nil | exact .cons _ _ (.cons _ _ .nil) | exact .cons _ _ (.cons _ _ (.cons _ _ .nil)) | l_ints); (case p1 => first | assumption | exact Nat.lt_of_lt_of_le (by assumption) (by decide) | l_fit | omega | (simp only [List.length_cons, List.length_nil, List.length_append, List.length_map, List.length_replicate, List.length_reverse, rangeKs_length] at *; omega)); (case p2 => first | assumption | exact .nil | exact .cons _ _ .nil | exact .cons _ _ (.cons _ _ .nil) | exact .cons _ _ (.cons _ _ (.cons _ _ .nil)) | l_ints); (case p3 => exact ResAll.len (by assumption) _ (by assumption) (by assumption)); (case p4 => exact ResAll.ok (by assumption) _ (by assumption) (by assumption)); (case kB => k_asm); (case kF => k_asm); (case kX => k_asm); (case kN => k_asm); (case kT => k_asm); (case kK => first | exact rfl | assumption); (case kd => first | exact roomK (by assumption) (by decide) | ((try simp only [depth_under_make, depth_under_kw, depth_in1, depth_deeper, depth_caller]); (try dsimp only [ktrTop]); first | exact roomK (by assumption) (by decide) | exact roomG rfl (by decide)) | ktr_room); (case ku => first | ((try simp only [units_in1, units_deeper, Around.mark_units, units_caller]); (try dsimp only [ktrTop]); first | exact unitsK (by assumption) (by decide) | exact unitsK64 (by assumption) (by decide) | exact unitsG rfl (by decide) | exact unitsG64 rfl) | ktr_units); intro t9 h9 tk9 F9 N9; (try dsimp only); (try k_sweep); (try k_fold))) | (k_dflt (refine' use_L (zcompose_c _ _ _ _ _ _ _ _ _ _ ?p0 ?p1 ?p2 ?p3 ?p4) ?kB ?kF ?kX ?kN ?kT ?kK ?kd ?ku ?kP ?kb ?_; (case kP => (first | exact trivial | (first | exact isl (by assumption) (by k_mem) | is_list) | (refine And.intro ?_ ?_ <;> (first | exact isl (by assumption) (by k_mem) | is_list)))); (case p0 => first | assumption | exact .nil | exact .cons _ _ .nil | exact .cons _ _ (.cons _ _ .nil) | exact .cons _ _ (.cons _ _ (.cons _ _ .nil)) | l_ints); (case p1 => first | assumption | exact Nat.lt_of_lt_of_le (by assumption) (by decide) | l_fit | omega | (simp only [List.length_cons, List.length_nil, List.length_append, List.length_map, List.length_replicate, List.length_reverse, rangeKs_length] at *; omega)); (case p2 => first | assumption | exact .nil | exact .cons _ _ .nil | exact .cons _ _ (.cons _ _ .nil) | exact .cons _ _ (.cons _ _ (.cons _ _ .nil)) | l_ints); (case p3 => (simp only [List.length_cons, List.length_nil]; omega)); (case p4 => exact SmTo.ok (by assumption) _ (by assumption) (by assumption)); (case kb => exact zcomposeP_len _ _); (case kB => k_asm); (case kF => k_asm); (case kX => k_asm); (case kN => k_asm); (case kT => k_asm); (case kK => first | exact rfl | assumption); (case kd => first | exact roomK (by assumption) (by decide) | ((try simp only [depth_under_make, depth_under_kw, depth_in1, depth_deeper, depth_caller]); (try dsimp only [ktrTop]); first | exact roomK (by assumption) (by decide) | exact roomG rfl (by decide)) | ktr_room); (case ku => first | ((try simp only [units_in1, units_deeper, Around.mark_units, units_caller]); (try dsimp only [ktrTop]); first | exact unitsK (by assumption) (by decide) | exact unitsK64 (by assumption) (by decide) | exact unitsG rfl (by decide) | exact unitsG64 rfl) | ktr_units); intro l9 ys9 n9 h9 tk9 F9 N9 ne9 hi9 hb9; (have no9 := ne9); (clear ne9 hb9); (try dsimp only); (try k_sweep); (try k_fold))))
  refine mul_eq hN (Sm.of (by omega) (by omega)) ?_
  have hST := SmTo.of hN8
  rw [sumVals_eq] at hret hB
  k_steps
  all_goals ((try dsimp only); (try (k_unfold; try dsimp only)); (try (k_unfold; try dsimp only)))
  exact leaveL hret (by assumption) (by assumption) (by assumption) (.head _) (by assumption) rfl
end
section
theorem scaled_forP_len (ns : List Int) (x : Int) : (scaled_forP ns x).length ≤ ns.length := by unfold scaled_forP; simp
structure ResAllP (ns1 ns2 : List Int) (N : Nat) : Prop where
  ok : ∀ x : Int, 1 ≤ x → x < 1 + (((N : Int) + 2 - 1).toNat : Int) → ResOk ns1 (scaled_forP ns2 x)
  len : ∀ x : Int, 1 ≤ x → x < 1 + (((N : Int) + 2 - 1).toNat : Int) → (scaled_forP ns2 x).length < 2 ^ 9
structure PsTo (ns2 : List Int) (N : Nat) : Prop where
  ok : ∀ x : Int, 1 ≤ x → x < 1 + (((N : Int) + 2 - 1).toNat : Int) → PowSm x ns2.length
  sm : ∀ x : Int, 1 ≤ x → x < 1 + (((N : Int) + 2 - 1).toNat : Int) → Sm x
theorem pow_le8 {x : Int} (h0 : 0 ≤ x) (h1 : x ≤ 8) : ∀ k : Nat, k ≤ 16 → 0 ≤ x ^ k ∧ x ^ k ≤ 8 ^ k := by
  intro k
  induction k with
  | zero => intro _; simp
  | succ k ih =>
    intro hk
    obtain ⟨a, b⟩ := ih (by omega)
    rw [Int.pow_succ, Int.pow_succ]
    exact ⟨Int.mul_nonneg a h0, Int.mul_le_mul b h1 h0 (Int.le_trans a b)⟩
theorem PsTo.of {ns2 : List Int} {N : Nat} (h : N < 8) (h2 : ns2.length < 2 ^ 4) : PsTo ns2 N where
  sm := fun x h0 h1 => Sm.of (by omega) (by omega)
  ok := fun x h0 h1 => ⟨fun k hk => by
    obtain ⟨a, b⟩ := pow_le8 (x := x) (by omega) (by omega) k (by omega)
    have c : (8 : Int) ^ k ≤ 35184372088832 := (by decide : ∀ j : Fin 16, (8 : Int) ^ j.val ≤ 35184372088832) ⟨k, by omega⟩
    exact Sm.of (by omega) (by omega)⟩
noncomputable def prodVals (ns1 ns2 : List Int) (N : Nat) : List Int := (List.range (N + 1)).map fun (x : Nat) => resultantP ns1 (scaled_forP ns2 ((x : Int) + 1))
theorem prodVals_eq (ns1 ns2 : List Int) (N : Nat) : prodVals ns1 ns2 N = List.map (fun k' => resultantP ns1 (scaled_forP ns2 k')) (rangeKs 1 ((N : Int) + 2 - 1).toNat) := by
  have e : ((N : Int) + 2 - 1).toNat = N + 1 := by omega
  rw [e]
  unfold rangeKs prodVals
  rw [List.map_map]
  refine List.map_congr_left fun i _ => ?_
  simp only [Function.comp]
  congr 2
  omega
theorem product_polynomial_c (w : World) (mean : ExcName → Option Value) (mg mb : Str → Option Value) (l1 l2 : Addr) (vs1 vs2 : List Value) (ns1 ns2 : List Int) (N : Nat) (hi1 : IntsAre vs1 ns1) (hl1 : ns1.length < 2 ^ 4) (hi2 : IntsAre vs2 ns2) (hl2 : ns2.length < 2 ^ 4)
    (hN : ((ns1.length : Int) - 1) * ((ns2.length : Int) - 1) = (N : Int)) (hN8 : N < 8) (hok : ResAllP ns1 ns2 N) (hB : ∀ i, i < (prodVals ns1 ns2 N).length → SmL (tvPre (prodVals ns1 ns2 N) i).2.1) :
    Tell PySem.Challenge.rw_sa0099_01.row.prog w (Mine.hd.heap_39 w.params) Mine.hd.view_39 (looseW Mine.hd.view_39 []) mean mg mb 177 [.ref l1, .ref l2] 14 (fun h => h.IsList l1 vs1.toArray ∧ h.IsList l2 vs2.toArray) (RetL (zcomposeP (through_valuesP (prodVals ns1 ns2 N)) [-1, 1])) := by
  k_with_none
  k_with "my w1" => ((k_here; (with_reducible show wpAny _ _ (exec (Stmt.While _ _ _ _) _) _ _ _); k_extra "my while"))
  k_with "my w1" => ((k_here; (with_reducible show wpAny _ _ (exec (Stmt.For _ _ _ _ _) _) _ _ _); k_extra "my for"))
  k_with "pyIter ref" => ((k_here; k_extra "my iter"))
  k_with "call type:enumerate" => ((k_here; k_extra "my enum"))
  k_with "my fits" => (first | exact MulAll.ok (by assumption) _ (by assumption) | exact Sm.mulR (by assumption) | exact Sm.mulL (by assumption) | exact Sm.mulR (SmL.at (by assumption) (by assumption)) | exact Sm.mulL (SmL.at (by assumption) (by assumption)))
  k_with "binaryOp FloorDiv int int" => ((k_here; k_dflt ((refine floordiv_int ?kb ?_ (Or.inl (Sm.py ?kp))); (case kb => first | assumption | exact Nz.ne (by assumption) | omega | exact PowNz.ok (by assumption) _); (case kp => first | assumption | exact PowSm.ok (by assumption) _ (by omega)))))
  k_with "exec Raise some none" => ((exfalso; omega))
  k_with "call ref" => ((k_here; k_extra "my call"))
  k_with "my w1" => (((with_reducible show wpAny _ _ (binaryOp Operator.Mult _ _) _ _ _); k_extra "my mul"))
  k_with "my call" => (first | (k_dflt (refine' use_L (through_values_c _ _ _ _ _ _ _ ?p0 ?p1 ?p2) ?kB ?kF ?kX ?kN ?kT ?kK ?kd ?ku ?kP ?kb ?_; (case kP => (first | exact trivial | (first | exact isl (by assumption) (by k_mem) | is_list) | (refine And.intro ?_ ?_ <;> (first | exact isl (by assumption) (by k_mem) | is_list)))); (case p0 => first | assumption | exact .nil | exact .cons _ _ .nil | exact .cons _ _ (.cons _ _ .nil) | exact .cons _ _ (.cons _ _ (.cons _ _ .nil)) | l_ints); (case p1 => first | assumption | exact Nat.lt_of_lt_of_le (by assumption) (by decide) | l_fit | omega | (simp only [List.length_cons, List.length_nil, List.length_append, List.length_map, List.length_replicate, List.length_reverse, rangeKs_length] at *; omega)); (case p2 => assumption); (case kb => exact through_valuesP_len _); (case kB => k_asm); (case kF => k_asm); (case kX => k_asm); (case kN => k_asm); (case kT => k_asm); (case kK => first | exact rfl | assumption); (case kd => first | exact roomK (by assumption) (by decide) | ((try simp only [depth_under_make, depth_under_kw, depth_in1, depth_deeper, depth_caller]); (try dsimp only [ktrTop]); first | exact roomK (by assumption) (by decide) | exact roomG rfl (by decide)) | ktr_room); (case ku => first | ((try simp only [units_in1, units_deeper, Around.mark_units, units_caller]); (try dsimp only [ktrTop]); first | exact unitsK (by assumption) (by decide) | exact unitsK64 (by assumption) (by decide) | exact unitsG rfl (by decide) | exact unitsG64 rfl) | ktr_units); intro l9 ys9 n9 h9 tk9 F9 N9 ne9 hi9 hb9; (have no9 := ne9); (clear ne9); (try dsimp only); (try k_sweep); (try k_fold))) | (k_dflt (refine' use_I (resultant_c _ _ _ _ _ _ _ _ _ _ ?p0 ?p1 ?p2 ?p3 ?p4) ?kB ?kF ?kX ?kN ?kT ?kK ?kd ?ku ?kP ?_; (case kP => (first | exact trivial | (first | exact isl (by assumption) (by k_mem) | is_list) | (refine And.intro ?_ ?_ <;> (first | exact isl (by assumption) (by k_mem) | is_list)))); (case p0 => first | assumption | exact .nil | exact .cons _ _ .nil | exact .cons _ _ (.cons _ _ .nil) | exact .cons _ _ (.cons _ _ (.cons _ _ .nil)) | l_ints); (case p1 => first | assumption | exact Nat.lt_of_lt_of_le (by assumption) (by decide) | l_fit | omega | (simp only [List.length_cons, List.length_nil, List.length_append, List.length_map, List.length_replicate, List.length_reverse, rangeKs_length] at *; omega)); (case p2 => first | assumption | exact .nil | exact .cons _ _ .nil | exact .cons _ _ (.cons _ _ .nil) | exact .cons _ _ (.cons _ _ (.cons _ _ .nil)) | l_ints); (case p3 => exact ResAllP.len (by assumption) _ (by assumption) (by assumption)); (case p4 => exact ResAllP.ok (by assumption) _ (by assumption) (by assumption)); (case kB => k_asm); (case kF => k_asm); (case kX => k_asm); (case kN => k_asm); (case kT => k_asm); (case kK => first | exact rfl | assumption); (case kd => first | exact roomK (by assumption) (by decide) | ((try simp only [depth_under_make, depth_under_kw, depth_in1, depth_deeper, depth_caller]); (try dsimp only [ktrTop]); first | exact roomK (by assumption) (by decide) | exact roomG rfl (by decide)) | ktr_room); (case ku => first | ((try simp only [units_in1, units_deeper, Around.mark_units, units_caller]); (try dsimp only [ktrTop]); first | exact unitsK (by assumption) (by decide) | exact unitsK64 (by assumption) (by decide) | exact unitsG rfl (by decide) | exact unitsG64 rfl) | ktr_units); intro t9 h9 tk9 F9 N9; (try dsimp only); (try k_sweep); (try k_fold))) | (k_dflt (refine' use_L (scaled_for_c _ _ _ _ _ _ _ _ _ ?p0 ?p1 ?p2 ?p3) ?kB ?kF ?kX ?kN ?kT ?kK ?kd ?ku ?kP ?kb ?_; (case kP => (first | exact trivial | (first | exact isl (by assumption) (by k_mem) | is_list) | (refine And.intro ?_ ?_ <;> (first | exact isl (by assumption) (by k_mem) | is_list)))); (case p0 => first | assumption | exact .nil | exact .cons _ _ .nil | exact .cons _ _ (.cons _ _ .nil) | exact .cons _ _ (.cons _ _ (.cons _ _ .nil)) | l_ints); (case p1 => first | assumption | exact Nat.lt_of_lt_of_le (by assumption) (by decide) | l_fit | omega | (simp only [List.length_cons, List.length_nil, List.length_append, List.length_map, List.length_replicate, List.length_reverse, rangeKs_length] at *; omega)); (case p2 => exact PsTo.sm (by assumption) _ (by assumption) (by assumption)); (case p3 => exact PsTo.ok (by assumption) _ (by assumption) (by assumption)); (case kb => exact scaled_forP_len _ _); (case kB => k_asm); (case kF => k_asm); (case kX => k_asm); (case kN => k_asm); (case kT => k_asm); (case kK => first | exact rfl | assumption); (case kd => first | exact roomK (by assumption) (by decide) | ((try simp only [depth_under_make, depth_under_kw, depth_in1, depth_deeper, depth_caller]); (try dsimp only [ktrTop]); first | exact roomK (by assumption) (by decide) | exact roomG rfl (by decide)) | ktr_room); (case ku => first | ((try simp only [units_in1, units_deeper, Around.mark_units, units_caller]); (try dsimp only [ktrTop]); first | exact unitsK (by assumption) (by decide) | exact unitsK64 (by assumption) (by decide) | exact unitsG rfl (by decide) | exact unitsG64 rfl) | ktr_units); intro l9 ys9 n9 h9 tk9 F9 N9 ne9 hi9 hb9; (have no9 := ne9); (clear ne9 hb9); (try dsimp only); (try k_sweep); (try k_fold))) | (k_dflt (refine' use_L (zcompose_c _ _ _ _ _ _ _ _ _ _ ?p0 ?p1 ?p2 ?p3 ?p4) ?kB ?kF ?kX ?kN ?kT ?kK ?kd ?ku ?kP ?kb ?_; (case kP => (first | exact trivial | (first | exact isl (by assumption) (by k_mem) | is_list) | (refine And.intro ?_ ?_ <;> (first | exact isl (by assumption) (by k_mem) | is_list)))); (case p0 => first | assumption | exact .nil | exact .cons _ _ .nil | exact .cons _ _ (.cons _ _ .nil) | exact .cons _ _ (.cons _ _ (.cons _ _ .nil)) | l_ints); (case p1 => first | assumption | exact Nat.lt_of_lt_of_le (by assumption) (by decide) | l_fit | omega | (simp only [List.length_cons, List.length_nil, List.length_append, List.length_map, List.length_replicate, List.length_reverse, rangeKs_length] at *; omega)); (case p2 => first | assumption | exact .nil | exact .cons _ _ .nil | exact .cons _ _ (.cons _ _ .nil) | exact .cons _ _ (.cons _ _ (.cons _ _ .nil)) | l_ints); (case p3 => first | assumption | exact Nat.lt_of_lt_of_le (by assumption) (by decide) | l_fit | omega | (simp only [List.length_cons, List.length_nil, List.length_append, List.length_map, List.length_replicate, List.length_reverse, rangeKs_length] at *; omega)); (case p4 => assumption); (case kb => exact zcomposeP_len _ _); (case kB => k_asm); (case kF => k_asm); (case kX => k_asm); (case kN => k_asm); (case kT => k_asm); (case kK => first | exact rfl | assumption); (case kd => first | exact roomK (by assumption) (by decide) | ((try simp only [depth_under_make, depth_under_kw, depth_in1, depth_deeper, depth_caller]); (try dsimp only [ktrTop]); first | exact roomK (by assumption) (by decide) | exact roomG rfl (by decide)) | ktr_room); (case ku => first | ((try simp only [units_in1, units_deeper, Around.mark_units, units_caller]); (try dsimp only [ktrTop]); first | exact unitsK (by assumption) (by decide) | exact unitsK64 (by assumption) (by decide) | exact unitsG rfl (by decide) | exact unitsG64 rfl) | ktr_units); intro l9 ys9 n9 h9 tk9 F9 N9 ne9 hi9 hb9; (have no9 := ne9); (clear ne9); (try dsimp only); (try k_sweep); (try k_fold))))
  k_fill
  unfold Tell
  intro dp un gd cn cs a ccd cl outer A₀ base h₀ L m s Q E B F X T hk hd hu hP hret
  refine wpAny_call ?_
  refine' enterC ?k1 ?k2 ?k3 ?k5 ?kA ?kF ?kK ?k6 ?k7 ?k8 ?k9 ?kB ?kD ?_ ?c2 ?c3 ?c4
  case kA => exact rfl
  case kF => exact rfl
  case kK => assumption
  case k1 => k_asm
  case k2 => k_asm
  case k3 => k_asm
  case k5 => k_asm
  case k6 => k_dflt k_is
  case k7 => k_dflt k_is
  case k8 => first | exact room0 (by assumption) | ((try simp only [depth_under_make, depth_under_kw, depth_in1, depth_deeper, depth_caller]); (try dsimp only [ktrTop]); exact room0 (by assumption)) | ktr_room
  case k9 => exact BindsTo.of_eq rfl
  case kB => exact rfl
  case kD => decide +kernel
  case c2 => exact rfl
  case c3 => exact rfl
  case c4 => exact rfl
  intro g' L' h' tk' cells' FG' F' N' Y' B' X' T' G'
  k_cells Y'
  clear B F X T
  try dsimp only
  try k_fold
  obtain ⟨hP1, hP2⟩ := hP
  have hP1' := lift_list G' hP1
  have hP2' := lift_list G' hP2
  k_with "my mul" => refine Stop.mk ?_
  k_steps
  unfold Stop
  k_with_none
  k_with "my w1" => ((k_here; (with_reducible show wpAny _ _ (exec (Stmt.While _ _ _ _) _) _ _ _); k_extra "my while"))
  k_with "my w1" => ((k_here; (with_reducible show wpAny _ _ (exec (Stmt.For _ _ _ _ _) _) _ _ _); k_extra "my for"))
  k_with "pyIter ref" => ((k_here; k_extra "my iter"))
  k_with "call type:enumerate" => ((k_here; k_extra "my enum"))
  k_with "my fits" => (first | exact MulAll.ok (by assumption) _ (by assumption) | exact Sm.mulR (by assumption) | exact Sm.mulL (by assumption) | exact Sm.mulR (SmL.at (by assumption) (by assumption)) | exact Sm.mulL (SmL.at (by assumption) (by assumption)))
  k_with "binaryOp FloorDiv int int" => ((k_here; k_dflt ((refine floordiv_int ?kb ?_ (Or.inl (Sm.py ?kp))); (case kb => first | assumption | exact Nz.ne (by assumption) | omega | exact PowNz.ok (by assumption) _); (case kp => first | assumption | exact PowSm.ok (by assumption) _ (by omega)))))
  k_with "exec Raise some none" => ((exfalso; omega))
  k_with "call ref" => ((k_here; k_extra "my call"))
  k_with "my w1" => (((with_reducible show wpAny _ _ (binaryOp Operator.Mult _ _) _ _ _); k_extra "my mul"))
  k_with "my call" => (first | (k_dflt (refine' use_L (through_values_c _ _ _ _ _ _ _ ?p0 ?p1 ?p2) ?kB ?kF ?kX ?kN ?kT ?kK ?kd ?ku ?kP ?kb ?_; (case kP => (first | exact trivial | (first | exact isl (by assumption) (by k_mem) | is_list) | (refine And.intro ?_ ?_ <;> (first | exact isl (by assumption) (by k_mem) | is_list)))); (case p0 => first | assumption | exact .nil | exact .cons _ _ .nil | exact .cons _ _ (.cons _ _ .nil) | exact .cons _ _ (.cons _ _ (.cons _ _ .nil)) | l_ints); (case p1 => first | assumption | exact Nat.lt_of_lt_of_le (by assumption) (by decide) | l_fit | omega | (simp only [List.length_cons, List.length_nil, List.length_append, List.length_map, List.length_replicate, List.length_reverse, rangeKs_length] at *; omega)); (case p2 => assumption); (case kb => exact through_valuesP_len _); (case kB => k_asm); (case kF => k_asm); (case kX => k_asm); (case kN => k_asm); (case kT => k_asm); (case kK => first | exact rfl | assumption); (case kd => first | exact roomK (by assumption) (by decide) | ((try simp only [depth_under_make, depth_under_kw, depth_in1, depth_deeper, depth_caller]); (try dsimp only [ktrTop]); first | exact roomK (by assumption) (by decide) | exact roomG rfl (by decide)) | ktr_room); (case ku => first | ((try simp only [units_in1, units_deeper, Around.mark_units, units_caller]); (try dsimp only [ktrTop]); first | exact unitsK (by assumption) (by decide) | exact unitsK64 (by assumption) (by decide) | exact unitsG rfl (by decide) | exact unitsG64 rfl) | ktr_units); intro l9 ys9 n9 h9 tk9 F9 N9 ne9 hi9 hb9; (have no9 := ne9); (clear ne9); (try dsimp only); (try k_sweep); (try k_fold))) | (k_dflt (refine' use_I (resultant_c _ _ _ _ _ _ _ _ _ _ ?p0 ?p1 ?p2 ?p3 ?p4) ?kB ?kF ?kX ?kN ?kT ?kK ?kd ?ku ?kP ?_; (case kP => (first | exact trivial | (first | exact isl (by assumption) (by k_mem) | is_list) | (refine And.intro ?_ ?_ <;> (first | exact isl (by assumption) (by k_mem) | is_list)))); (case p0 => first | assumption | exact .nil | exact .cons _ _ .nil | exact .cons _ _ (.cons _ _ .nil) | exact .cons _ _ (.cons _ _ (.cons _ _ .nil)) | l_ints); (case p1 => first | assumption | exact Nat.lt_of_lt_of_le (by assumption) (by decide) | l_fit | omega | (simp only [List.length_cons, List.length_nil, List.length_append, List.length_map, List.length_replicate, List.length_reverse, rangeKs_length] at *; omega)); (case p2 => first | assumption | exact .nil | exact .cons _ _ .nil | exact .cons _ _ (.cons _ _ .nil) | exact .cons _ _ (.cons _ _ (.cons _ _ .nil)) | l_ints); (case p3 => exact ResAllP.len (by assumption) _ (by assumption) (by assumption)); (case p4 => exact ResAllP.ok (by assumption) _ (by assumption) (by assumption)); (case kB => k_asm); (case kF => k_asm); (case kX => k_asm); (case kN => k_asm); (case kT => k_asm); (case kK => first | exact rfl | assumption); (case kd => first | exact roomK (by assumption) (by decide) | ((try simp only [depth_under_make, depth_under_kw, depth_in1, depth_deeper, depth_caller]); (try dsimp only [ktrTop]); first | exact roomK (by assumption) (by decide) | exact roomG rfl (by decide)) | ktr_room); (case ku => first | ((try simp only [units_in1, units_deeper, Around.mark_units, units_caller]); (try dsimp only [ktrTop]); first | exact unitsK (by assumption) (by decide) | exact unitsK64 (by assumption) (by decide) | exact unitsG rfl (by decide) | exact unitsG64 rfl) | ktr_units); intro t9 h9 tk9 F9 N9; (try dsimp only); (try k_sweep); (try k_fold))) | (k_dflt (refine' use_L (scaled_for_c _ _ _ _ _ _ _ _ _ ?p0 ?p1 ?p2 ?p3) ?kB ?kF ?kX ?kN ?kT ?kK ?kd ?ku ?kP ?kb ?_; (case kP => (first | exact trivial | (first | exact isl (by assumption) (by k_mem) | is_list) | (refine And.intro ?_ ?_ <;> (first | exact isl (by assumption) (by k_mem) | is_list)))); (case p0 => first | assumption | exact .nil | exact .cons _ _ .nil | exact .cons _ _ (.cons _ _ .nil) | exact .cons _ _ (.cons _ _ (.cons _ _ .nil)) | l_ints); (case p1 => first | assumption | exact Nat.lt_of_lt_of_le (by assumption) (by decide) | l_fit | omega | (simp only [List.length_cons, List.length_nil, List.length_append, List.length_map, List.length_replicate, List.length_reverse, rangeKs_length] at *; omega)); (case p2 => exact PsTo.sm (by assumption) _ (by assumption) (by assumption)); (case p3 => exact PsTo.ok (by assumption) _ (by assumption) (by assumption)); (case kb => exact scaled_forP_len _ _); (case kB => k_asm); (case kF => k_asm); (case kX => k_asm); (case kN => k_asm); (case kT => k_asm); (case kK => first | exact rfl | assumption); (case kd => first | exact roomK (by assumption) (by decide) | ((try simp only [depth_under_make, depth_under_kw, depth_in1, depth_deeper, depth_caller]); (try dsimp only [ktrTop]); first | exact roomK (by assumption) (by decide) | exact roomG rfl (by decide)) | ktr_room); (case ku => first | ((try simp only [units_in1, units_deeper, Around.mark_units, units_caller]); (try dsimp only [ktrTop]); first | exact unitsK (by assumption) (by decide) | exact unitsK64 (by assumption) (by decide) | exact unitsG rfl (by decide) | exact unitsG64 rfl) | ktr_units); intro l9 ys9 n9 h9 tk9 F9 N9 ne9 hi9 hb9; (have no9 := ne9); (clear ne9 hb9); (try dsimp only); (try k_sweep); (try k_fold))) | (k_dflt (refine' use_L (zcompose_c _ _ _ _ _ _ _ _ _ _ ?p0 ?p1 ?p2 ?p3 ?p4) ?kB ?kF ?kX ?kN ?kT ?kK ?kd ?ku ?kP ?kb ?_; (case kP => (first | exact trivial | (first | exact isl (by assumption) (by k_mem) | is_list) | (refine And.intro ?_ ?_ <;> (first | exact isl (by assumption) (by k_mem) | is_list)))); (case p0 => first | assumption | exact .nil | exact .cons _ _ .nil | exact .cons _ _ (.cons _ _ .nil) | exact .cons _ _ (.cons _ _ (.cons _ _ .nil)) | l_ints); (case p1 => first | assumption | exact Nat.lt_of_lt_of_le (by assumption) (by decide) | l_fit | omega | (simp only [List.length_cons, List.length_nil, List.length_append, List.length_map, List.length_replicate, List.length_reverse, rangeKs_length] at *; omega)); (case p2 => first | assumption | exact .nil | exact .cons _ _ .nil | exact .cons _ _ (.cons _ _ .nil) | exact .cons _ _ (.cons _ _ (.cons _ _ .nil)) | l_ints); (case p3 => first | assumption | exact Nat.lt_of_lt_of_le (by assumption) (by decide) | l_fit | omega | (simp only [List.length_cons, List.length_nil, List.length_append, List.length_map, List.length_replicate, List.length_reverse, rangeKs_length] at *; omega)); (case p4 => assumption); (case kb => exact zcomposeP_len _ _); (case kB => k_asm); (case kF => k_asm); (case kX => k_asm); (case kN => k_asm); (case kT => k_asm); (case kK => first | exact rfl | assumption); (case kd => first | exact roomK (by assumption) (by decide) | ((try simp only [depth_under_make, depth_under_kw, depth_in1, depth_deeper, depth_caller]); (try dsimp only [ktrTop]); first | exact roomK (by assumption) (by decide) | exact roomG rfl (by decide)) | ktr_room); (case ku => first | ((try simp only [units_in1, units_deeper, Around.mark_units, units_caller]); (try dsimp only [ktrTop]); first | exact unitsK (by assumption) (by decide) | exact unitsK64 (by assumption) (by decide) | exact unitsG rfl (by decide) | exact unitsG64 rfl) | ktr_units); intro l9 ys9 n9 h9 tk9 F9 N9 ne9 hi9 hb9; (have no9 := ne9); (clear ne9); (try dsimp only); (try k_sweep); (try k_fold))))
  refine mul_eq hN (Sm.of (by omega) (by omega)) ?_
  have hST := PsTo.of (ns2 := ns2) hN8 hl2
  rw [prodVals_eq] at hret hB
  have hs2 : SmL [-1, 1] := sm_pair sm_neg_one sm_one
  k_steps
  all_goals ((try dsimp only); (try (k_unfold; try dsimp only)); (try (k_unfold; try dsimp only)))
  exact leaveL hret (by assumption) (by assumption) (by assumption) (.head _) (by assumption) rfl
end
section
noncomputable def plusRow (a b : List Int) (k : Int) : List Int := (List.range (max a.length b.length)).map fun i => a.getD i 0 + k * b.getD i 0
noncomputable def plusP (a b : List Int) (k : Int) : List Int := ztrimP (plusRow a b k)
theorem plus_eq (a b : List Int) (k : Int) : List.map (fun (k' : Int) => if k' < (a.length : Int) ∧ k' < (b.length : Int) then a.getD k'.toNat 0 + k * b.getD k'.toNat 0
      else if k' < (a.length : Int) ∧ ¬ k' < (b.length : Int) then a.getD k'.toNat 0 + k * 0 else 0 + k * b.getD k'.toNat 0)
      (rangeKs 0 ((if (b.length : Int) > (a.length : Int) then (b.length : Int) else (a.length : Int)) - 0).toNat) = plusRow a b k := by
  unfold plusRow
  have e : ((if (b.length : Int) > (a.length : Int) then (b.length : Int) else (a.length : Int)) - 0).toNat = max a.length b.length := by split <;> omega
  rw [e, rangeKs0, List.map_map]
  refine List.map_congr_left fun i _ => ?_
  simp only [Function.comp, Int.toNat_natCast, Int.ofNat_lt]
  by_cases h1 : i < a.length
  · by_cases h2 : i < b.length
    · rw [if_pos ⟨h1, h2⟩]
    · rw [if_neg (fun h => h2 h.2), if_pos ⟨h1, h2⟩]
      have : b.getD i 0 = 0 := by simp [List.getD, List.getElem?_eq_none (Nat.le_of_not_lt h2)]
      rw [this]
  · rw [if_neg (fun h => h1 h.1), if_neg (fun h => h1 h.1)]
    have : a.getD i 0 = 0 := by simp [List.getD, List.getElem?_eq_none (Nat.le_of_not_lt h1)]
    rw [this]
theorem plus_len {a b : List Int} {k : Int} (h1 : a.length < 2 ^ 10) (h2 : b.length < 2 ^ 10) : (List.map (fun (k' : Int) => if k' < (a.length : Int) ∧ k' < (b.length : Int) then a.getD k'.toNat 0 + k * b.getD k'.toNat 0
      else if k' < (a.length : Int) ∧ ¬ k' < (b.length : Int) then a.getD k'.toNat 0 + k * 0 else 0 + k * b.getD k'.toNat 0)
      (rangeKs 0 ((if (b.length : Int) > (a.length : Int) then (b.length : Int) else (a.length : Int)) - 0).toNat)).length < 2 ^ 10 := by
  rw [plus_eq, plusRow, List.length_map, List.length_range]
  omega
theorem trim_step {R : List Int} (h : R.length ≠ 0) (h0 : R.getD ((R.length : Int) - 1).toNat 0 = 0) : ztrimP (List.take ((R.length : Int) - 1).toNat R) = ztrimP R := by
  have e : ((R.length : Int) - 1).toNat = R.length - 1 := by omega
  rw [e] at h0 ⊢
  obtain ⟨xs, x, rfl⟩ : ∃ xs x, R = xs ++ [x] := ⟨R.dropLast, R.getLast (by intro q; rw [q] at h; exact h rfl), (List.dropLast_concat_getLast _).symm⟩
  have hx : x = 0 := by simpa [List.getD] using h0
  subst hx
  have e2 : (xs ++ [(0 : Int)]).length - 1 = xs.length := by simp
  rw [e2, List.take_left]
  simp [ztrimP]
theorem trim_end {R : List Int} (h : R.length ≠ 0) (h0 : R.getD ((R.length : Int) - 1).toNat 0 ≠ 0) : ztrimP R = R := by
  have e : ((R.length : Int) - 1).toNat = R.length - 1 := by omega
  rw [e] at h0
  obtain ⟨xs, x, rfl⟩ : ∃ xs x, R = xs ++ [x] := ⟨R.dropLast, R.getLast (by intro q; rw [q] at h; exact h rfl), (List.dropLast_concat_getLast _).symm⟩
  have hx : x ≠ 0 := by simpa [List.getD] using h0
  simp [ztrimP, hx]
theorem trim_nil {R : List Int} (h : ¬ R.length ≠ 0) : ztrimP R = R := by
  have : R = [] := List.length_eq_zero_iff.mp (by omega)
  subst this; rfl
structure QS where
  l : Addr
  v : List Value
  n : Nat
  R : List Int
theorem law_plus_c (w : World) (mean : ExcName → Option Value) (mg mb : Str → Option Value) (l1 l2 : Addr) (vs1 vs2 : List Value) (ns1 ns2 : List Int) (k : Int) (t : Tok) (hi1 : IntsAre vs1 ns1) (hl1 : ns1.length < 2 ^ 9) (hi2 : IntsAre vs2 ns2) (hl2 : ns2.length < 2 ^ 9) (hs : Sm k) :
    Tell PySem.Challenge.rw_sa0099_01.row.prog w (Mine.hd.heap_39 w.params) Mine.hd.view_39 (looseW Mine.hd.view_39 []) mean mg mb 189 [.ref l1, .ref l2, .int k t] 12 (fun h => h.IsList l1 vs1.toArray ∧ h.IsList l2 vs2.toArray) (RetL (plusP ns1 ns2 k)) := by
  k_with_none
  k_with "my w1" => ((k_here; (with_reducible show wpAny _ _ (exec (Stmt.While _ _ _ _) _) _ _ _); k_extra "my while"))
  k_with "my w1" => ((k_here; (with_reducible show wpAny _ _ (exec (Stmt.For _ _ _ _ _) _) _ _ _); k_extra "my for"))
  k_with "pyIter ref" => ((k_here; k_extra "my iter"))
  k_with "call type:enumerate" => ((k_here; k_extra "my enum"))
  k_with "my fits" => (first | exact MulAll.ok (by assumption) _ (by assumption) | exact Sm.mulR (by assumption) | exact Sm.mulL (by assumption) | exact Sm.mulR (SmL.at (by assumption) (by assumption)) | exact Sm.mulL (SmL.at (by assumption) (by assumption)))
  k_with "binaryOp FloorDiv int int" => ((k_here; k_dflt ((refine floordiv_int ?kb ?_ (Or.inl (Sm.py ?kp))); (case kb => first | assumption | exact Nz.ne (by assumption) | omega | exact PowNz.ok (by assumption) _); (case kp => first | assumption | exact PowSm.ok (by assumption) _ (by omega)))))
  k_with "exec Raise some none" => ((exfalso; omega))
  k_with "call ref" => ((k_here; k_extra "my call"))
  k_with "compareOp Eq ref ref" => ((k_here; k_dflt ((refine' eq_nilK ?k1 ?k2 ?k3 ?k5 ?_); (case k3 => exact isl_nil (by assumption) (by k_mem)); (case k1 => first | exact isl (by assumption) (by k_mem) | exact HL.is0 (by assumption) (by assumption) (by assumption) (fun p hp => by (repeat (first | exact hp | refine List.Mem.tail _ ?_))) | is_list); (case k2 => first | assumption | exact .nil | exact .cons _ _ .nil | exact .cons _ _ (.cons _ _ .nil) | exact .cons _ _ (.cons _ _ (.cons _ _ .nil)) | l_ints); (case k5 => first | ((try simp only [units_in1, units_deeper, Around.mark_units, units_caller]); (try dsimp only [ktrTop]); first | exact unitsK (by assumption) (by decide) | exact unitsK64 (by assumption) (by decide) | exact unitsG rfl (by decide) | exact unitsG64 rfl) | ktr_units))))
  k_with "compareOp NotEq ref ref" => ((k_here; k_dflt ((refine' ne_nilK ?k1 ?k2 ?k3 ?k5 ?_); (case k3 => exact isl_nil (by assumption) (by k_mem)); (case k1 => first | exact isl (by assumption) (by k_mem) | exact HL.is0 (by assumption) (by assumption) (by assumption) (fun p hp => by (repeat (first | exact hp | refine List.Mem.tail _ ?_))) | is_list); (case k2 => first | assumption | exact .nil | exact .cons _ _ .nil | exact .cons _ _ (.cons _ _ .nil) | exact .cons _ _ (.cons _ _ (.cons _ _ .nil)) | l_ints); (case k5 => first | ((try simp only [units_in1, units_deeper, Around.mark_units, units_caller]); (try dsimp only [ktrTop]); first | exact unitsK (by assumption) (by decide) | exact unitsK64 (by assumption) (by decide) | exact unitsG rfl (by decide) | exact unitsG64 rfl) | ktr_units))))
  k_with "subscriptTail Name BinOp ref int" => ((k_here; k_dflt ((with_reducible show wpAny _ _ (subscriptTail _ _ (Value.ref _) (Value.int _ _)) _ _ _); (refine' item_list_ints ?k1 ?k2 ?k3 ?k4 ?k5 ?_); (case k1 => exact isl (by assumption) (by k_mem)); (case k2 => assumption); (case k3 => first | omega | l_idx); (case k4 => first | omega | l_idx); (case k5 => first | omega | l_idx)); intro _))
  k_with "subscriptTail Name Name ref int" => ((k_here; k_dflt ((with_reducible show wpAny _ _ (subscriptTail _ _ (Value.ref _) (Value.int _ _)) _ _ _); (refine' item_list_ints ?k1 ?k2 ?k3 ?k4 ?k5 ?_); (case k1 => exact isl (by assumption) (by k_mem)); (case k2 => assumption); (case k3 => first | omega | l_idx); (case k4 => first | omega | l_idx); (case k5 => first | omega | l_idx)); intro _))
  k_with "subscriptTail Name Constant ref int" => ((k_here; k_dflt ((with_reducible show wpAny _ _ (subscriptTail _ _ (Value.ref _) (Value.int _ _)) _ _ _); (refine' item_list_ints ?k1 ?k2 ?k3 ?k4 ?k5 ?_); (case k1 => exact isl (by assumption) (by k_mem)); (case k2 => assumption); (case k3 => first | omega | l_idx); (case k4 => first | omega | l_idx); (case k5 => first | omega | l_idx)); intro _))
  k_with "ite" => ((k_here; refine mx_ite (by assumption) (by assumption) ?_; intro hk9))
  k_with "subscriptTail Name Name ref int" => ((k_here; k_dflt ((with_reducible show wpAny _ _ (subscriptTail _ _ (Value.ref _) (Value.int _ _)) _ _ _); (have hk9 := Hk.lt (by assumption)); (refine' item_list_ints ?k1 ?k2 ?k3 ?k4 ?k5 ?_); (case k1 => is_list); (case k2 => assumption); (case k3 => assumption); (case k4 => exact hk9); (case k5 => exact Hk.fit (by assumption) (by assumption) (by decide)); (clear hk9)); intro _))
  k_fill
  unfold Tell
  intro dp un gd cn cs a ccd cl outer A₀ base h₀ L m s Q E B F X T hk hd hu hP hret
  refine wpAny_call ?_
  refine' enterC ?k1 ?k2 ?k3 ?k5 ?kA ?kF ?kK ?k6 ?k7 ?k8 ?k9 ?kB ?kD ?_ ?c2 ?c3 ?c4
  case kA => exact rfl
  case kF => exact rfl
  case kK => assumption
  case k1 => k_asm
  case k2 => k_asm
  case k3 => k_asm
  case k5 => k_asm
  case k6 => k_dflt k_is
  case k7 => k_dflt k_is
  case k8 => first | exact room0 (by assumption) | ((try simp only [depth_under_make, depth_under_kw, depth_in1, depth_deeper, depth_caller]); (try dsimp only [ktrTop]); exact room0 (by assumption)) | ktr_room
  case k9 => exact BindsTo.of_eq rfl
  case kB => exact rfl
  case kD => decide +kernel
  case c2 => exact rfl
  case c3 => exact rfl
  case c4 => exact rfl
  intro g' L' h' tk' cells' FG' F' N' Y' B' X' T' G'
  k_cells Y'
  clear B F X T
  try dsimp only
  try k_fold
  obtain ⟨hP1, hP2⟩ := hP
  have hP1' := lift_list G' hP1
  have hP2' := lift_list G' hP2
  k_with "my while" => refine Stop.mk ?_
  k_steps
  unfold Stop
  rw [show plusP ns1 ns2 k = ztrimP (plusRow ns1 ns2 k) from rfl, ← plus_eq] at hret
  refine' ksw_while (σ := QS) (fun c => [(c.l, listOf c.v.toArray c.n)]) (fun c => [("found", .ref c.l)]) (fun c => IntsAre c.v c.R) []
    (fun c => ztrimP c.R = ztrimP ?Z ∧ c.R.length < 2 ^ 10) (fun c => c.R.length) ⟨_, _, _, ?Z⟩ ?F ?N ?hf (all1 ?k1) ?hp ?turn ?hE
  case F => assumption
  case k1 => exact rfl
  case N => exact news1 (by assumption)
  case hf => assumption
  case hE => first | passes_own | with_unfolding_all passes_own
  case hp => exact ⟨rfl, plus_len (by omega) (by omega)⟩
  case turn =>
    intro c u h tk hf hp F N
    obtain ⟨l, v, n, R⟩ := c
    dsimp only at F N hf hp
    obtain ⟨hp1, hp2⟩ := hp
    k_steps
    · refine' ksw_end ⟨_, _, _, List.take ((R.length : Int) - 1).toNat R⟩ (by assumption) (by assumption) ?hn ?hf (all1 ?k1) ?hr ?hp ?hm
      case k1 => exact rfl
      case hn => exact fun p hp => by rw [List.mem_singleton.mp hp]; exact .head _
      case hf => assumption
      case hr => (intro z h2 h3; simp at h2 h3; simp [kstB, h2, h3])
      case hp => exact ⟨(trim_step (by assumption) (by assumption)).trans hp1, by rw [List.length_take]; omega⟩
      case hm => dsimp only; rw [List.length_take]; omega
    · all_goals ((try dsimp only); (try (k_unfold; try dsimp only)); (try (k_unfold; try dsimp only)))
      exact leaveL hret (by assumption) (by assumption) (by assumption) (by k_mem) hf ((trim_end (by assumption) (by assumption)).symm.trans hp1)
    · all_goals ((try dsimp only); (try (k_unfold; try dsimp only)); (try (k_unfold; try dsimp only)))
      exact leaveL hret (by assumption) (by assumption) (by assumption) (by k_mem) hf ((trim_nil (by assumption)).symm.trans hp1)
end
section
theorem plusP_len (a b : List Int) (k : Int) : (plusP a b k).length ≤ max a.length b.length := by
  unfold plusP plusRow
  exact Nat.le_trans (ztrimP_len _) (by simp)
noncomputable def timesPre (b : List Int) : Nat → List Int → List Int → List Int
  | _, acc, [] => acc
  | i, acc, x :: xs => timesPre b (i + 1) (plusP acc (List.replicate i 0 ++ b) x) xs
noncomputable def timesP (a b : List Int) : List Int := timesPre b 0 [] a
theorem timesPre_snoc (b : List Int) (x : Int) : ∀ (xs : List Int) (i : Nat) (acc : List Int), timesPre b i acc (xs ++ [x]) = plusP (timesPre b i acc xs) (List.replicate (i + xs.length) 0 ++ b) x
  | [], i, acc => by simp [timesPre]
  | y :: ys, i, acc => by
    simp only [List.cons_append, timesPre, timesPre_snoc b x ys]
    rw [List.length_cons, show i + 1 + ys.length = i + (ys.length + 1) by omega]
theorem timesPre_len (b : List Int) (n : Nat) : ∀ (xs : List Int) (i : Nat) (acc : List Int), acc.length ≤ n + b.length → i + xs.length ≤ n → (timesPre b i acc xs).length ≤ n + b.length
  | [], i, acc, h, _ => h
  | y :: ys, i, acc, h, h2 => by
    rw [List.length_cons] at h2
    refine timesPre_len b n ys (i + 1) _ ?_ (by omega)
    have := plusP_len acc (List.replicate i 0 ++ b) y
    rw [List.length_append, List.length_replicate] at this
    omega
theorem timesP_len (a b : List Int) : (timesP a b).length ≤ a.length + b.length := timesPre_len b a.length a 0 [] (by simp) (by omega)
theorem flat_zero (n : Nat) : (List.replicate n [(0 : Int)]).flatten = List.replicate n 0 := by simp
theorem times_turn {ns1 ns2 pre post zs : List Int} {x : Int} (e : ns1 = pre ++ x :: post) (hz : zs = timesPre ns2 0 [] pre) (hzl : zs.length ≤ ns1.length + ns2.length) :
    plusP zs ((List.replicate ((pre.length : Nat) : Int).toNat [(0 : Int)]).flatten ++ ns2) x = timesPre ns2 0 [] (pre ++ [x]) ∧ (plusP zs ((List.replicate ((pre.length : Nat) : Int).toNat [(0 : Int)]).flatten ++ ns2) x).length ≤ ns1.length + ns2.length := by
  rw [flat_zero, Int.toNat_natCast]
  have hl := plusP_len zs (List.replicate pre.length 0 ++ ns2) x
  have hpre := split_len e
  rw [List.length_append, List.length_replicate] at hl
  refine ⟨?_, by omega⟩
  rw [timesPre_snoc, ← hz, Nat.zero_add]
theorem law_times_c (w : World) (mean : ExcName → Option Value) (mg mb : Str → Option Value) (l1 l2 : Addr) (vs1 vs2 : List Value) (ns1 ns2 : List Int) (hi1 : IntsAre vs1 ns1) (hl1 : ns1.length < 2 ^ 7) (hi2 : IntsAre vs2 ns2) (hl2 : ns2.length < 2 ^ 7) (hs : SmL ns1) :
    Tell PySem.Challenge.rw_sa0099_01.row.prog w (Mine.hd.heap_39 w.params) Mine.hd.view_39 (looseW Mine.hd.view_39 []) mean mg mb 196 [.ref l1, .ref l2] 13 (fun h => h.IsList l1 vs1.toArray ∧ h.IsList l2 vs2.toArray) (RetL (timesP ns1 ns2)) := by
  k_with_none
  k_with "my w1" => ((k_here; (with_reducible show wpAny _ _ (exec (Stmt.While _ _ _ _) _) _ _ _); k_extra "my while"))
  k_with "my w1" => ((k_here; (with_reducible show wpAny _ _ (exec (Stmt.For _ _ _ _ _) _) _ _ _); k_extra "my for"))
  k_with "pyIter ref" => ((k_here; k_extra "my iter"))
  k_with "call type:enumerate" => ((k_here; k_extra "my enum"))
  k_with "my fits" => (first | exact MulAll.ok (by assumption) _ (by assumption) | exact Sm.mulR (by assumption) | exact Sm.mulL (by assumption) | exact Sm.mulR (SmL.at (by assumption) (by assumption)) | exact Sm.mulL (SmL.at (by assumption) (by assumption)))
  k_with "binaryOp FloorDiv int int" => ((k_here; k_dflt ((refine floordiv_int ?kb ?_ (Or.inl (Sm.py ?kp))); (case kb => first | assumption | exact Nz.ne (by assumption) | omega | exact PowNz.ok (by assumption) _); (case kp => first | assumption | exact PowSm.ok (by assumption) _ (by omega)))))
  k_with "exec Raise some none" => ((exfalso; omega))
  k_with "call ref" => ((k_here; k_extra "my call"))
  k_with "my call" => (first | (k_dflt (refine' use_L (law_plus_c _ _ _ _ _ _ _ _ _ _ _ _ ?p0 ?p1 ?p2 ?p3 ?p4) ?kB ?kF ?kX ?kN ?kT ?kK ?kd ?ku ?kP ?kb ?_; (case kP => (first | exact trivial | (first | exact isl (by assumption) (by k_mem) | is_list) | (refine And.intro ?_ ?_ <;> (first | exact isl (by assumption) (by k_mem) | is_list)))); (case p0 => first | assumption | exact .nil | exact .cons _ _ .nil | exact .cons _ _ (.cons _ _ .nil) | exact .cons _ _ (.cons _ _ (.cons _ _ .nil)) | l_ints); (case p1 => first | assumption | exact Nat.lt_of_lt_of_le (by assumption) (by decide) | l_fit | omega | (simp only [List.length_cons, List.length_nil, List.length_append, List.length_map, List.length_replicate, List.length_reverse, rangeKs_length] at *; omega)); (case p2 => first | assumption | exact .nil | exact .cons _ _ .nil | exact .cons _ _ (.cons _ _ .nil) | exact .cons _ _ (.cons _ _ (.cons _ _ .nil)) | l_ints); (case p3 => first | assumption | exact Nat.lt_of_lt_of_le (by assumption) (by decide) | l_fit | omega | (simp only [List.length_cons, List.length_nil, List.length_append, List.length_map, List.length_replicate, List.length_reverse, rangeKs_length] at *; omega)); (case p4 => (first | assumption | exact SmL.at (by assumption) (by assumption))); (case kb => exact plusP_len _ _ _); (case kB => k_asm); (case kF => k_asm); (case kX => k_asm); (case kN => k_asm); (case kT => k_asm); (case kK => first | exact rfl | assumption); (case kd => first | exact roomK (by assumption) (by decide) | ((try simp only [depth_under_make, depth_under_kw, depth_in1, depth_deeper, depth_caller]); (try dsimp only [ktrTop]); first | exact roomK (by assumption) (by decide) | exact roomG rfl (by decide)) | ktr_room); (case ku => first | ((try simp only [units_in1, units_deeper, Around.mark_units, units_caller]); (try dsimp only [ktrTop]); first | exact unitsK (by assumption) (by decide) | exact unitsK64 (by assumption) (by decide) | exact unitsG rfl (by decide) | exact unitsG64 rfl) | ktr_units); intro l9 ys9 n9 h9 tk9 F9 N9 ne9 hi9 hb9; (have no9 := ne9); (clear ne9); (try dsimp only); (try k_sweep); (try k_fold))))
  k_fill
  unfold Tell
  intro dp un gd cn cs a ccd cl outer A₀ base h₀ L m s Q E B F X T hk hd hu hP hret
  refine wpAny_call ?_
  refine' code_defG (news := []) ?k1 ?k2 ?k3 (fun _ h => nomatch h) ?k5 ?kA ?kF ?kK ?k6 ?k7 ?k8 ?k9 ?kB ?_ ?c2 ?c3 ?c4 ?c5
  case kA => exact rfl
  case kF => exact rfl
  case kK => assumption
  case k1 => k_asm
  case k2 => k_asm
  case k3 => k_asm
  case k5 => k_asm
  case k6 => k_dflt k_is
  case k7 => k_dflt k_is
  case k8 => first | exact room0 (by assumption) | ((try simp only [depth_under_make, depth_under_kw, depth_in1, depth_deeper, depth_caller]); (try dsimp only [ktrTop]); exact room0 (by assumption)) | ktr_room
  case k9 => exact BindsTo.of_eq rfl
  case c5 => decide
  case kB => exact locs rfl
  case c2 => exact rfl
  case c3 => exact rfl
  case c4 => exact rfl
  intro g' L' h' FG' F' N' B' X' T' G'
  clear B F X T
  try dsimp only
  try k_fold
  obtain ⟨hP1, hP2⟩ := hP
  have hP1' := lift_list G' hP1
  have hP2' := lift_list G' hP2
  k_with "my for" => refine Stop.mk ?_
  k_with "my iter" => refine Stop.mk ?_
  k_with "my enum" => refine Stop.mk ?_
  k_steps
  (unfold Stop; refine wpAny_For ?_ (fun _ => by rfl); k_steps; unfold Stop)
  refine' lp_enum1 (L := L') "found" ["at", "number"] (fun pre zs => zs = timesPre ns2 0 [] pre ∧ zs.length ≤ ns1.length + ns2.length)
      (rest := []) (vs₀ := []) (zs₀ := []) ?hh ?hL ?hx ?hxx ?hpl ?hl hi1 ?hnl ?F ?N .nil ?hy ?hp ?hrd ?turn ?done ?hE
  (case hh => exact rfl); (case hL => exact rfl); (case hx => exact rfl); (case hpl => exact rfl); (case hE => first | passes_own | with_unfolding_all passes_own); (case F => assumption)
  case hxx => exact rfl
  case N => exact news1 (by assumption)
  case hl => is_list
  case hnl => exact fun p hp => ne_base (news1 (by assumption)) hp hP1'
  case hy => exact rfl
  case hp => exact ⟨rfl, Nat.zero_le _⟩
  case hrd => exact fun _ x => nomatch x
  case turn =>
    intro pre post x t ti D vs' n zs u h tk own e hf hp hd hro hrd F N
    obtain ⟨hz, hzl⟩ := hp
    have hpre := split_len e
    have hxs : Sm x := hs x (by rw [e]; simp)
    rw [List.nil_append] at N
    k_steps
    dsimp only [Lp1Post]
    exact lp1_end (by assumption) (by assumption) (.head _) (fun p hp => nomatch hp) (fun p hp => (by (repeat (first | exact hp | refine List.Mem.tail _ ?_)))) (fun p hp => (show ∀ q ∈ _, q.1 ≠ _ from by assumption) p (by (repeat (first | exact hp | refine List.Mem.tail _ ?_)))) (fun p hp => nomatch hp) (by assumption) rfl (fun z h1 h2 => by simp at h2; simp [h1, h2]) (times_turn e hz hzl)
  case done =>
    intro D vs' n zs u h tk hf hp hrd F N
    k_steps
    all_goals ((try dsimp only); (try (k_unfold; try dsimp only)); (try (k_unfold; try dsimp only)))
    exact leaveL hret (by assumption) (by assumption) (by assumption) (by k_mem) hf hp.1
end
section
noncomputable def normP (p r : List Int) (c : Int) : List Int := plusP (timesP p p) (timesP r r) (0 - c)
theorem normP_len (p r : List Int) (c : Int) : (normP p r c).length ≤ max (p.length + p.length) (r.length + r.length) := by
  unfold normP
  have h1 := plusP_len (timesP p p) (timesP r r) (0 - c)
  have h2 := timesP_len p p
  have h3 := timesP_len r r
  omega
theorem law_norm_c (w : World) (mean : ExcName → Option Value) (mg mb : Str → Option Value) (l1 l2 : Addr) (vs1 vs2 : List Value) (ns1 ns2 : List Int) (c : Int) (t : Tok) (hi1 : IntsAre vs1 ns1) (hl1 : ns1.length < 2 ^ 7) (hi2 : IntsAre vs2 ns2) (hl2 : ns2.length < 2 ^ 7) (hs1 : SmL ns1) (hs2 : SmL ns2) (hc : Sm (0 - c)) :
    Tell PySem.Challenge.rw_sa0099_01.row.prog w (Mine.hd.heap_39 w.params) Mine.hd.view_39 (looseW Mine.hd.view_39 []) mean mg mb 203 [.ref l1, .ref l2, .int c t] 14 (fun h => h.IsList l1 vs1.toArray ∧ h.IsList l2 vs2.toArray) (RetL (normP ns1 ns2 c)) := by
  k_with_none
  k_with "my w1" => ((k_here; (with_reducible show wpAny _ _ (exec (Stmt.While _ _ _ _) _) _ _ _); k_extra "my while"))
  k_with "my w1" => ((k_here; (with_reducible show wpAny _ _ (exec (Stmt.For _ _ _ _ _) _) _ _ _); k_extra "my for"))
  k_with "pyIter ref" => ((k_here; k_extra "my iter"))
  k_with "call type:enumerate" => ((k_here; k_extra "my enum"))
  k_with "my fits" => (first | exact MulAll.ok (by assumption) _ (by assumption) | exact Sm.mulR (by assumption) | exact Sm.mulL (by assumption) | exact Sm.mulR (SmL.at (by assumption) (by assumption)) | exact Sm.mulL (SmL.at (by assumption) (by assumption)))
  k_with "binaryOp FloorDiv int int" => ((k_here; k_dflt ((refine floordiv_int ?kb ?_ (Or.inl (Sm.py ?kp))); (case kb => first | assumption | exact Nz.ne (by assumption) | omega | exact PowNz.ok (by assumption) _); (case kp => first | assumption | exact PowSm.ok (by assumption) _ (by omega)))))
  k_with "exec Raise some none" => ((exfalso; omega))
  k_with "call ref" => ((k_here; k_extra "my call"))
  k_with "my call" => (first | (k_dflt (refine' use_L (law_times_c _ _ _ _ _ _ _ _ _ _ ?p0 ?p1 ?p2 ?p3 ?p4) ?kB ?kF ?kX ?kN ?kT ?kK ?kd ?ku ?kP ?kb ?_; (case kP => (first | exact trivial | (first | exact isl (by assumption) (by k_mem) | is_list) | (refine And.intro ?_ ?_ <;> (first | exact isl (by assumption) (by k_mem) | is_list)))); (case p0 => first | assumption | exact .nil | exact .cons _ _ .nil | exact .cons _ _ (.cons _ _ .nil) | exact .cons _ _ (.cons _ _ (.cons _ _ .nil)) | l_ints); (case p1 => first | assumption | exact Nat.lt_of_lt_of_le (by assumption) (by decide) | l_fit | omega | (simp only [List.length_cons, List.length_nil, List.length_append, List.length_map, List.length_replicate, List.length_reverse, rangeKs_length] at *; omega)); (case p2 => first | assumption | exact .nil | exact .cons _ _ .nil | exact .cons _ _ (.cons _ _ .nil) | exact .cons _ _ (.cons _ _ (.cons _ _ .nil)) | l_ints); (case p3 => first | assumption | exact Nat.lt_of_lt_of_le (by assumption) (by decide) | l_fit | omega | (simp only [List.length_cons, List.length_nil, List.length_append, List.length_map, List.length_replicate, List.length_reverse, rangeKs_length] at *; omega)); (case p4 => assumption); (case kb => exact timesP_len _ _); (case kB => k_asm); (case kF => k_asm); (case kX => k_asm); (case kN => k_asm); (case kT => k_asm); (case kK => first | exact rfl | assumption); (case kd => first | exact roomK (by assumption) (by decide) | ((try simp only [depth_under_make, depth_under_kw, depth_in1, depth_deeper, depth_caller]); (try dsimp only [ktrTop]); first | exact roomK (by assumption) (by decide) | exact roomG rfl (by decide)) | ktr_room); (case ku => first | ((try simp only [units_in1, units_deeper, Around.mark_units, units_caller]); (try dsimp only [ktrTop]); first | exact unitsK (by assumption) (by decide) | exact unitsK64 (by assumption) (by decide) | exact unitsG rfl (by decide) | exact unitsG64 rfl) | ktr_units); intro l9 ys9 n9 h9 tk9 F9 N9 ne9 hi9 hb9; (have no9 := ne9); (clear ne9); (try dsimp only); (try k_sweep); (try k_fold))) | (k_dflt (refine' use_L (law_plus_c _ _ _ _ _ _ _ _ _ _ _ _ ?p0 ?p1 ?p2 ?p3 ?p4) ?kB ?kF ?kX ?kN ?kT ?kK ?kd ?ku ?kP ?kb ?_; (case kP => (first | exact trivial | (first | exact isl (by assumption) (by k_mem) | is_list) | (refine And.intro ?_ ?_ <;> (first | exact isl (by assumption) (by k_mem) | is_list)))); (case p0 => first | assumption | exact .nil | exact .cons _ _ .nil | exact .cons _ _ (.cons _ _ .nil) | exact .cons _ _ (.cons _ _ (.cons _ _ .nil)) | l_ints); (case p1 => first | assumption | exact Nat.lt_of_lt_of_le (by assumption) (by decide) | l_fit | omega | (simp only [List.length_cons, List.length_nil, List.length_append, List.length_map, List.length_replicate, List.length_reverse, rangeKs_length] at *; omega)); (case p2 => first | assumption | exact .nil | exact .cons _ _ .nil | exact .cons _ _ (.cons _ _ .nil) | exact .cons _ _ (.cons _ _ (.cons _ _ .nil)) | l_ints); (case p3 => first | assumption | exact Nat.lt_of_lt_of_le (by assumption) (by decide) | l_fit | omega | (simp only [List.length_cons, List.length_nil, List.length_append, List.length_map, List.length_replicate, List.length_reverse, rangeKs_length] at *; omega)); (case p4 => (first | assumption | exact SmL.at (by assumption) (by assumption))); (case kb => exact plusP_len _ _ _); (case kB => k_asm); (case kF => k_asm); (case kX => k_asm); (case kN => k_asm); (case kT => k_asm); (case kK => first | exact rfl | assumption); (case kd => first | exact roomK (by assumption) (by decide) | ((try simp only [depth_under_make, depth_under_kw, depth_in1, depth_deeper, depth_caller]); (try dsimp only [ktrTop]); first | exact roomK (by assumption) (by decide) | exact roomG rfl (by decide)) | ktr_room); (case ku => first | ((try simp only [units_in1, units_deeper, Around.mark_units, units_caller]); (try dsimp only [ktrTop]); first | exact unitsK (by assumption) (by decide) | exact unitsK64 (by assumption) (by decide) | exact unitsG rfl (by decide) | exact unitsG64 rfl) | ktr_units); intro l9 ys9 n9 h9 tk9 F9 N9 ne9 hi9 hb9; (have no9 := ne9); (clear ne9); (try dsimp only); (try k_sweep); (try k_fold))))
  k_fill
  unfold Tell
  intro dp un gd cn cs a ccd cl outer A₀ base h₀ L m s Q E B F X T hk hd hu hP hret
  refine wpAny_call ?_
  refine' code_defG (news := []) ?k1 ?k2 ?k3 (fun _ h => nomatch h) ?k5 ?kA ?kF ?kK ?k6 ?k7 ?k8 ?k9 ?kB ?_ ?c2 ?c3 ?c4 ?c5
  case kA => exact rfl
  case kF => exact rfl
  case kK => assumption
  case k1 => k_asm
  case k2 => k_asm
  case k3 => k_asm
  case k5 => k_asm
  case k6 => k_dflt k_is
  case k7 => k_dflt k_is
  case k8 => first | exact room0 (by assumption) | ((try simp only [depth_under_make, depth_under_kw, depth_in1, depth_deeper, depth_caller]); (try dsimp only [ktrTop]); exact room0 (by assumption)) | ktr_room
  case k9 => exact BindsTo.of_eq rfl
  case c5 => decide
  case kB => exact locs rfl
  case c2 => exact rfl
  case c3 => exact rfl
  case c4 => exact rfl
  intro g' L' h' FG' F' N' B' X' T' G'
  clear B F X T
  try dsimp only
  try k_fold
  obtain ⟨hP1, hP2⟩ := hP
  have hP1' := lift_list G' hP1
  have hP2' := lift_list G' hP2
  k_steps
  all_goals ((try dsimp only); (try (k_unfold; try dsimp only)); (try (k_unfold; try dsimp only)))
  exact leaveL hret (by assumption) (by assumption) (by assumption) (.head _) (by assumption) rfl
end
section
abbrev tup2 (a b : Value) (n : Nat) : Obj := { cls := .type "tuple", data := .seq #[a, b] n }
/-- a new tuple of two new lists -/
abbrev RetQ (q r : List Int) (h : Heap) (v : Value) (h' : Heap) : Prop :=
  ∃ T lq lr vq vr n, v = .ref T ∧ h.get? T = none ∧ h.get? lq = none ∧ h.get? lr = none ∧ h'.get? T = some (tup2 (.ref lq) (.ref lr) n) ∧ h'.PlainList lq (List.toArray vq) ∧ h'.PlainList lr (List.toArray vr) ∧ IntsAre vq q ∧ IntsAre vr r ∧ lq ≠ lr
theorem leaveQ {h₀ g : Heap} {L L' : Addr} {m m' : Str → Option Value} {news' : List (Addr × Obj)} {h' : Heap} {s : Shared} {Q E : Value → Shared → Prop} {tk : Nat} {q r q' r' : List Int} {T lq lr : Addr} {vq vr : List Value} {n nq nr : Nat}
    (hret : ∀ v h' tk', (∀ b o, s.heap.get? b = some o → h'.get? b = some o) → RetQ q r s.heap v h' → Q v { s with heap := h', toks := tk' }) (F : Fr g L' h' m') (N : News g L' h' news') (G : GSub s.heap g [])
    (hT : (T, tup2 (.ref lq) (.ref lr) n) ∈ news') (hq : (lq, listOf vq.toArray nq) ∈ news') (hr : (lr, listOf vr.toArray nr) ∈ news') (iq : IntsAre vq q') (ir : IntsAre vr r') (eq : q' = q) (er : r' = r) (hne : lq ≠ lr) :
    LeaveK h₀ L m g (fun r s' => match r with | .ok (.ret v) => Q v s' | .ok _ => False | .error e => E e s') (.ref T) { s with heap := h', toks := tk } := by
  subst eq er
  exact leaveK_ F N fun _ _ => hret _ _ _ (end_keep F G) ⟨T, lq, lr, vq, vr, n, rfl, none_of N G hT, none_of N G hq, none_of N G hr, (N _ hT).1, ⟨nq, (N _ hq).1⟩, ⟨nr, (N _ hr).1⟩, iq, ir, hne⟩
section
variable {prog : Program} {w : World} {K : Frag} {p : Program} {loose : List Str} {mean : ExcName → Option Value} {mg mb : Str → Option Value} {f : Addr} {vs : List Value} {dep : Nat} {P : Heap → Prop}
  {dp un : Nat} {gd : Option (List Code)} {cn : Str} {cs : Scope} {a : Addr} {ccd : Value} {cl : List (Str × Addr)} {outer : List Env} {A₀ : Around} {base h₀ : Heap} {L : Addr} {m : Str → Option Value} {s : Shared} {news : List (Addr × Obj)} {Q E : Value → Shared → Prop}
theorem use_Q {q r : List Int} {bq br : Nat} (C : Tell prog w K p loose mean mg mb f vs dep P (RetQ q r)) (B : Below A₀ base outer h₀) (F : Fr h₀ L s.heap m) (X : K.In h₀) (N : News h₀ L s.heap news) (T : Top p loose mean mg mb h₀) (hk : cs.kind = .function)
    (hd : dp + dep < recursionLimit) (hu : un + 8 * dep < cLine) (hP : P s.heap) (hq : q.length ≤ bq) (hr : r.length ≤ br)
    (ret : ∀ T lq lr vq vr n nq nr h' tk', Fr h₀ L h' m → News h₀ L h' ((T, tup2 (.ref lq) (.ref lr) n) :: (lq, listOf (List.toArray vq) nq) :: (lr, listOf (List.toArray vr) nr) :: news) → (∀ p ∈ news, p.1 ≠ T) → (∀ p ∈ news, p.1 ≠ lq) → (∀ p ∈ news, p.1 ≠ lr) → lq ≠ lr →
      IntsAre vq q → IntsAre vr r → q.length ≤ bq → r.length ≤ br → Q (.ref T) { s with heap := h', toks := tk' }) :
    wpAny (model prog w) (ktrTop dp un gd cn cs L a ccd cl outer) (call (.ref f) vs) Q E s := by
  refine C _ _ _ _ _ _ _ _ _ _ _ _ _ _ _ _ _ B F X T hk hd hu hP fun v h' tk' kp hv => ?_
  obtain ⟨T, lq, lr, vq, vr, n, rfl, nT, nq, nr, hT, ⟨n1, hlq⟩, ⟨n2, hlr⟩, iq, ir, hqr⟩ := hv
  refine ret T lq lr vq vr n n1 n2 h' tk' (F.keeps kp) (fun x hx => ?_) (fun x hx e => ?_) (fun x hx e => ?_) (fun x hx e => ?_) hqr iq ir hq hr
  · rcases List.mem_cons.mp hx with rfl | hx
    · exact fresh_in F nT hT
    · rcases List.mem_cons.mp hx with rfl | hx
      · exact fresh_in F nq hlq
      · rcases List.mem_cons.mp hx with rfl | hx
        · exact fresh_in F nr hlr
        · exact (N.grown kp) x hx
  · rw [← e, (N x hx).1] at nT; cases nT
  · rw [← e, (N x hx).1] at nq; cases nq
  · rw [← e, (N x hx).1] at nr; cases nr
end
noncomputable def movedStep (c : Int) (s : List Int × List Int) (x : Int) : List Int × List Int := (plusP (plusP (0 :: s.1) s.2 c) [x] 1, plusP (0 :: s.2) s.1 1)
noncomputable def movedPre (c : Int) (pre : List Int) : List Int × List Int := pre.foldl (movedStep c) ([], [])
noncomputable def movedP (f : List Int) (c : Int) : List Int × List Int := movedPre c f.reverse
theorem movedPre_snoc (c : Int) (pre : List Int) (x : Int) : movedPre c (pre ++ [x]) = movedStep c (movedPre c pre) x := by
  unfold movedPre
  rw [List.foldl_append]; rfl
theorem movedPre_len (c : Int) (pre : List Int) : (movedPre c pre).1.length ≤ pre.length + 1 ∧ (movedPre c pre).2.length ≤ pre.length + 1 := by
  induction pre using snocInd with
  | h0 => simp [movedPre]
  | hs pre x ih =>
    rw [movedPre_snoc]
    obtain ⟨h1, h2⟩ := ih
    simp only [movedStep]
    have a := plusP_len (0 :: (movedPre c pre).1) (movedPre c pre).2 c
    have b := plusP_len (plusP (0 :: (movedPre c pre).1) (movedPre c pre).2 c) [x] 1
    have d := plusP_len (0 :: (movedPre c pre).2) (movedPre c pre).1 1
    simp only [List.length_cons, List.length_nil, List.length_append] at *
    exact ⟨Nat.le_trans b (Nat.max_le.mpr ⟨Nat.le_trans a (Nat.max_le.mpr ⟨Nat.succ_le_succ h1, Nat.le_succ_of_le h2⟩), Nat.succ_le_succ (Nat.zero_le _)⟩), Nat.le_trans d (Nat.max_le.mpr ⟨Nat.succ_le_succ h2, Nat.le_succ_of_le h1⟩)⟩
theorem own_ne2 {own : List (Addr × Obj)} {a1 a2 : Addr} {o1 o2 : Obj} (h1 : ∀ p ∈ own, p.1 ≠ a1) (h2 : ∀ p ∈ own, p.1 ≠ a2) : ∀ p ∈ own, ∀ q ∈ [(a1, o1), (a2, o2)], p.1 ≠ q.1 := by
  intro p hp q hq
  simp only [List.mem_cons, List.not_mem_nil, or_false] at hq
  rcases hq with rfl | rfl
  · exact h1 p hp
  · exact h2 p hp
structure MS where
  lp : Addr
  vp : List Value
  np : Nat
  P : List Int
  lr : Addr
  vr : List Value
  nr : Nat
  R : List Int
theorem law_moved_c (w : World) (mean : ExcName → Option Value) (mg mb : Str → Option Value) (l : Addr) (vs : List Value) (ns : List Int) (c : Int) (t : Tok) (hi : IntsAre vs ns) (hl : ns.length < 2 ^ 6) (hc : Sm c) :
    Tell PySem.Challenge.rw_sa0099_01.row.prog w (Mine.hd.heap_39 w.params) Mine.hd.view_39 (looseW Mine.hd.view_39 []) mean mg mb 210 [.ref l, .int c t] 13 (fun h => h.IsList l vs.toArray) (RetQ (movedP ns c).1 (movedP ns c).2) := by
  k_with_none
  k_with "my w1" => ((k_here; (with_reducible show wpAny _ _ (exec (Stmt.While _ _ _ _) _) _ _ _); k_extra "my while"))
  k_with "my w1" => ((k_here; (with_reducible show wpAny _ _ (exec (Stmt.For _ _ _ _ _) _) _ _ _); k_extra "my for"))
  k_with "pyIter ref" => ((k_here; k_extra "my iter"))
  k_with "call type:enumerate" => ((k_here; k_extra "my enum"))
  k_with "my fits" => (first | exact MulAll.ok (by assumption) _ (by assumption) | exact Sm.mulR (by assumption) | exact Sm.mulL (by assumption) | exact Sm.mulR (SmL.at (by assumption) (by assumption)) | exact Sm.mulL (SmL.at (by assumption) (by assumption)))
  k_with "binaryOp FloorDiv int int" => ((k_here; k_dflt ((refine floordiv_int ?kb ?_ (Or.inl (Sm.py ?kp))); (case kb => first | assumption | exact Nz.ne (by assumption) | omega | exact PowNz.ok (by assumption) _); (case kp => first | assumption | exact PowSm.ok (by assumption) _ (by omega)))))
  k_with "exec Raise some none" => ((exfalso; omega))
  k_with "call ref" => ((k_here; k_extra "my call"))
  k_with "my call" => (first | (k_dflt (refine' use_L (law_plus_c _ _ _ _ _ _ _ _ _ _ _ _ ?p0 ?p1 ?p2 ?p3 ?p4) ?kB ?kF ?kX ?kN ?kT ?kK ?kd ?ku ?kP ?kb ?_; (case kP => (first | exact trivial | (first | exact isl (by assumption) (by k_mem) | is_list) | (refine And.intro ?_ ?_ <;> (first | exact isl (by assumption) (by k_mem) | is_list)))); (case p0 => first | assumption | exact .nil | exact .cons _ _ .nil | exact .cons _ _ (.cons _ _ .nil) | exact .cons _ _ (.cons _ _ (.cons _ _ .nil)) | l_ints); (case p1 => first | assumption | exact Nat.lt_of_lt_of_le (by assumption) (by decide) | l_fit | omega | (simp only [List.length_cons, List.length_nil, List.length_append, List.length_map, List.length_replicate, List.length_reverse, rangeKs_length] at *; omega)); (case p2 => first | assumption | exact .nil | exact .cons _ _ .nil | exact .cons _ _ (.cons _ _ .nil) | exact .cons _ _ (.cons _ _ (.cons _ _ .nil)) | l_ints); (case p3 => first | assumption | exact Nat.lt_of_lt_of_le (by assumption) (by decide) | l_fit | omega | (simp only [List.length_cons, List.length_nil, List.length_append, List.length_map, List.length_replicate, List.length_reverse, rangeKs_length] at *; omega)); (case p4 => (first | assumption | exact SmL.at (by assumption) (by assumption))); (case kb => exact plusP_len _ _ _); (case kB => k_asm); (case kF => k_asm); (case kX => k_asm); (case kN => k_asm); (case kT => k_asm); (case kK => first | exact rfl | assumption); (case kd => first | exact roomK (by assumption) (by decide) | ((try simp only [depth_under_make, depth_under_kw, depth_in1, depth_deeper, depth_caller]); (try dsimp only [ktrTop]); first | exact roomK (by assumption) (by decide) | exact roomG rfl (by decide)) | ktr_room); (case ku => first | ((try simp only [units_in1, units_deeper, Around.mark_units, units_caller]); (try dsimp only [ktrTop]); first | exact unitsK (by assumption) (by decide) | exact unitsK64 (by assumption) (by decide) | exact unitsG rfl (by decide) | exact unitsG64 rfl) | ktr_units); intro l9 ys9 n9 h9 tk9 F9 N9 ne9 hi9 hb9; (have no9 := ne9); (clear ne9); (try dsimp only); (try k_sweep); (try k_fold))))
  k_fill
  unfold Tell
  intro dp un gd cn cs a ccd cl outer A₀ base h₀ L m s Q E B F X T hk hd hu hP hret
  refine wpAny_call ?_
  refine' code_defG (news := []) ?k1 ?k2 ?k3 (fun _ h => nomatch h) ?k5 ?kA ?kF ?kK ?k6 ?k7 ?k8 ?k9 ?kB ?_ ?c2 ?c3 ?c4 ?c5
  case kA => exact rfl
  case kF => exact rfl
  case kK => assumption
  case k1 => k_asm
  case k2 => k_asm
  case k3 => k_asm
  case k5 => k_asm
  case k6 => k_dflt k_is
  case k7 => k_dflt k_is
  case k8 => first | exact room0 (by assumption) | ((try simp only [depth_under_make, depth_under_kw, depth_in1, depth_deeper, depth_caller]); (try dsimp only [ktrTop]); exact room0 (by assumption)) | ktr_room
  case k9 => exact BindsTo.of_eq rfl
  case c5 => decide
  case kB => exact locs rfl
  case c2 => exact rfl
  case c3 => exact rfl
  case c4 => exact rfl
  intro g' L' h' FG' F' N' B' X' T' G'
  clear B F X T
  try dsimp only
  try k_fold
  have hP' := lift_list G' hP
  have hs1 := sm_one
  k_with "my for" => refine Stop.mk ?_
  k_with "my iter" => refine Stop.mk ?_
  k_with "my enum" => refine Stop.mk ?_
  k_steps
  (unfold Stop; refine wpAny_For ?_ (fun _ => by rfl); k_steps; unfold Stop)
  refine' lp_list (L := L') (σ := MS) (fun c => [(c.lp, listOf c.vp.toArray c.np), (c.lr, listOf c.vr.toArray c.nr)]) (fun c => [("plain", .ref c.lp), ("rooted", .ref c.lr)])
    (fun c => (IntsAre c.vp c.P ∧ IntsAre c.vr c.R) ∧ c.lp ≠ c.lr) ["number", "one", "other"] (fun pre q => (q.P, q.R) = movedPre c pre) ⟨?lp, [], ?np, [], ?lr, [], ?nr, []⟩
    (ns := ns.reverse) ?hh ?hL ?hx ?hpl ?hl (by assumption) ?hnl ?F ?N ?hf (all2 ?k1 ?k2) ?hp ?turn ?done ?hE
  case F => assumption
  case k1 => exact rfl
  case k2 => exact rfl
  case hh => exact rfl
  case hL => exact rfl
  case hx => exact rfl
  case hpl => exact rfl
  case hE => first | passes_own | with_unfolding_all passes_own
  case N => exact news_two (by assumption) (by k_mem) (by k_mem)
  case hl => is_list
  case hnl => (intro p hp; simp only [List.mem_cons, List.not_mem_nil, or_false] at hp; rcases hp with rfl | rfl <;> first | k_ne | (dsimp only; omega))
  case hf => exact ⟨⟨.nil, .nil⟩, by first | k_ne | (dsimp only; omega)⟩
  case hp => exact rfl
  case turn =>
    intro pre post x t q u h tk own e hf hp hd F N
    obtain ⟨lp, vp, np, PP, lr, vr, nr, RR⟩ := q
    dsimp only at hf hp hd F
    simp only [List.cons_append, List.nil_append] at N
    obtain ⟨⟨hvp, hvr⟩, hpr⟩ := hf
    have hlen := movedPre_len c pre
    rw [← hp] at hlen
    obtain ⟨e1, e2⟩ := hlen
    have hpre := split_len_rev e
    dsimp only at e1 e2
    have hPP : PP.length < 2 ^ 7 := by omega
    have hRR : RR.length < 2 ^ 7 := by omega
    k_steps
    dsimp only [LpPost]
    rename_i F9 N9
    refine' lp_end ⟨_, _, _, plusP (plusP ([0] ++ PP) RR c) [x] 1, _, _, _, plusP ([0] ++ RR) PP 1⟩ F9 N9 (mem_two (.tail _ (.tail _ (.head _))) (.tail _ (.head _))) ?eo ?ed ?ef ?ek ?er ?ep
    case eo => exact fun p hp => (by (repeat (first | exact hp | refine List.Mem.tail _ ?_)))
    case ek => (intro p hp; simp only [List.mem_cons, List.not_mem_nil, or_false] at hp; rcases hp with rfl | rfl <;> rfl)
    case er => (intro z h1 h2; have q1 := h1 _ (.head _); have q2 := h1 _ (.tail _ (.head _)); simp only at q1 q2; simp at h2; simp [q1, q2, h2, kstB])
    case ep => (show _ = movedPre c (pre ++ [x]); rw [movedPre_snoc, ← hp]; rfl)
    case ed => exact own_ne2 (fun p hp => (show ∀ q ∈ _, q.1 ≠ _ from by assumption) p (by (repeat (first | exact hp | refine List.Mem.tail _ ?_)))) (fun p hp => (show ∀ q ∈ _, q.1 ≠ _ from by assumption) p (by (repeat (first | exact hp | refine List.Mem.tail _ ?_))))
    case ef => exact ⟨⟨by assumption, by assumption⟩, Ne.symm (fresh_ne (by assumption) (.head _))⟩
  case done =>
    intro q u h tk hf hp F N
    obtain ⟨lp, vp, np, PP, lr, vr, nr, RR⟩ := q
    dsimp only at hf hp F N
    k_steps
    all_goals ((try dsimp only); (try (k_unfold; try dsimp only)); (try (k_unfold; try dsimp only)))
    exact leaveQ hret (by assumption) (by assumption) (by assumption) (.head _) (by k_mem) (by k_mem) hf.1.1 hf.1.2 (congrArg Prod.fst hp) (congrArg Prod.snd hp) hf.2
end
section
noncomputable def scI (n i : Nat) : Int := (n : Int) - 1 - (i : Int)
noncomputable def scE (n : Nat) (c : Int) (pre : List Int) : List Int := pre.mapIdx fun i x => if Int.fmod (scI n i) 2 = 0 then x * c ^ (Int.fdiv (scI n i) 2).toNat else 0
noncomputable def scO (n : Nat) (c : Int) (pre : List Int) : List Int := pre.mapIdx fun i x => if Int.fmod (scI n i) 2 = 1 then x * c ^ (Int.fdiv (scI n i) 2).toNat else 0
theorem scE_snoc (n : Nat) (c : Int) (pre : List Int) (x : Int) : scE n c (pre ++ [x]) = scE n c pre ++ [if Int.fmod (scI n pre.length) 2 = 0 then x * c ^ (Int.fdiv (scI n pre.length) 2).toNat else 0] := by
  unfold scE
  rw [List.mapIdx_append]
  simp
theorem scO_snoc (n : Nat) (c : Int) (pre : List Int) (x : Int) : scO n c (pre ++ [x]) = scO n c pre ++ [if Int.fmod (scI n pre.length) 2 = 1 then x * c ^ (Int.fdiv (scI n pre.length) 2).toNat else 0] := by
  unfold scO
  rw [List.mapIdx_append]
  simp
theorem scE_len (n : Nat) (c : Int) (pre : List Int) : (scE n c pre).length = pre.length := by unfold scE; simp
theorem scO_len (n : Nat) (c : Int) (pre : List Int) : (scO n c pre).length = pre.length := by unfold scO; simp
noncomputable def scaledP (f : List Int) (c : Int) : List Int × List Int := (plusP (scE f.length c f) [] 1, plusP (scO f.length c f) [] 1)
theorem scI_par {n i : Nat} (h : i < n) : 0 ≤ scI n i ∧ 0 ≤ Int.fdiv (scI n i) 2 ∧ (Int.fmod (scI n i) 2 = 0 ∨ Int.fmod (scI n i) 2 = 1) := by
  have h0 : 0 ≤ scI n i := by unfold scI; omega
  rw [Int.fdiv_eq_ediv_of_nonneg _ (by decide), Int.fmod_eq_emod_of_nonneg _ (by decide)]
  omega
theorem own_two {own : List (Addr × Obj)} {a1 a2 : Addr} {o1 o2 : Obj} (h : ∀ p ∈ own, ∀ q ∈ [(a1, o1), (a2, o2)], p.1 ≠ q.1) : OwnOff own [a1, a2] := by
  intro p hp b hb
  have := h p hp
  simp only [List.mem_cons, List.not_mem_nil, or_false] at hb
  rcases hb with rfl | rfl
  · exact this _ (.head _)
  · exact this _ (.tail _ (.head _))
theorem vlen_fit {vs : List Value} {ns : List Int} (h : IntsAre vs ns) (hl : ns.length < 2 ^ 7) : vs.toArray.size ≤ sizeLine := by
  have := h.length
  rw [PySem.sizeLine_eq, List.size_toArray]
  omega
theorem upd_fst {lp lr : Addr} {o o' o2 : Obj} {own : List (Addr × Obj)} (h : lp ≠ lr) (ho : OwnOff own [lp, lr]) : Upd lp o o' ((lp, o) :: (lr, o2) :: own) ((lp, o') :: (lr, o2) :: own) :=
  .head fun p hp => by
    rcases List.mem_cons.mp hp with rfl | hp
    · exact Ne.symm h
    · exact ho p hp lp (.head _)
theorem upd_snd {lp lr : Addr} {o o' o2 : Obj} {own : List (Addr × Obj)} (h : lp ≠ lr) (ho : OwnOff own [lp, lr]) : Upd lr o o' ((lp, o2) :: (lr, o) :: own) ((lp, o2) :: (lr, o') :: own) :=
  .tail h (.head fun p hp => ho p hp lr (.tail _ (.head _)))
theorem news_push {h₀ h : Heap} {L lp lr : Addr} {vp vr : List Value} {x y : Value} {n1 n2 : Nat} {own : List (Addr × Obj)} (N : News h₀ L h ((lp, listOf (vp.toArray.push x) n1) :: (lr, listOf (vr.toArray.push y) n2) :: own)) :
    News h₀ L h ((lp, listOf (vp ++ [x]).toArray n1) :: (lr, listOf (vr ++ [y]).toArray n2) :: own) := by simpa using N
theorem sm_two : Sm 2 := ⟨by decide⟩
theorem law_scaled_c (w : World) (mean : ExcName → Option Value) (mg mb : Str → Option Value) (l : Addr) (vs : List Value) (ns : List Int) (c : Int) (t : Tok) (hi : IntsAre vs ns) (hl : ns.length < 2 ^ 6) (hc : Sm c) (hs : SmL ns) :
    Tell PySem.Challenge.rw_sa0099_01.row.prog w (Mine.hd.heap_39 w.params) Mine.hd.view_39 (looseW Mine.hd.view_39 []) mean mg mb 217 [.ref l, .int c t] 13 (fun h => h.IsList l vs.toArray) (RetQ (scaledP ns c).1 (scaledP ns c).2) := by
  k_with_none
  k_with "my w1" => ((k_here; (with_reducible show wpAny _ _ (exec (Stmt.While _ _ _ _) _) _ _ _); k_extra "my while"))
  k_with "my w1" => ((k_here; (with_reducible show wpAny _ _ (exec (Stmt.For _ _ _ _ _) _) _ _ _); k_extra "my for"))
  k_with "pyIter ref" => ((k_here; k_extra "my iter"))
  k_with "call type:enumerate" => ((k_here; k_extra "my enum"))
  k_with "my fits" => (first | exact MulAll.ok (by assumption) _ (by assumption) | exact Sm.mulR (by assumption) | exact Sm.mulL (by assumption) | exact Sm.mulR (SmL.at (by assumption) (by assumption)) | exact Sm.mulL (SmL.at (by assumption) (by assumption)))
  k_with "binaryOp FloorDiv int int" => ((k_here; k_dflt ((refine floordiv_int ?kb ?_ (Or.inl (Sm.py ?kp))); (case kb => first | assumption | exact Nz.ne (by assumption) | omega | exact PowNz.ok (by assumption) _); (case kp => first | assumption | exact PowSm.ok (by assumption) _ (by omega)))))
  k_with "exec Raise some none" => ((exfalso; omega))
  k_with "call ref" => ((k_here; k_extra "my call"))
  k_with "my fits" => (k_dflt (first | exact Sm.mulR (by assumption) | exact Sm.mulL (by assumption) | exact Sm.mulR (PowSm.ok (by assumption) _ (by omega)) | exact Sm.mulL (PowSm.ok (by assumption) _ (by omega))))
  k_with "binaryOp Pow int int" => ((k_here; k_dflt ((refine pow_int_small ?kp1 ?kp2 ?kp3 ?_); (case kp1 => first | omega | l_fact); (case kp2 => first | omega | l_fact); (case kp3 => exact Sm.lt64 (by assumption)))))
  k_with "call builtin:list.append" => ((k_here; k_dflt ((refine' append_K ?k1 ?k2 ?k3 ?_ ?z); (case k1 => k_asm); (case k2 => k_asm); (case k3 => first | exact upd_fst (by assumption) (by assumption) | exact upd_snd (by assumption) (by assumption)); (case z => exact vlen_fit (by assumption) (by assumption))); intro h9 F9 N9; (try dsimp only); (try k_sweep); (try k_fold)))
  k_with "my call" => (first | (k_dflt (refine' use_L (law_plus_c _ _ _ _ _ _ _ _ _ _ _ _ ?p0 ?p1 ?p2 ?p3 ?p4) ?kB ?kF ?kX ?kN ?kT ?kK ?kd ?ku ?kP ?kb ?_; (case kP => (first | exact trivial | (first | exact isl (by assumption) (by k_mem) | is_list) | (refine And.intro ?_ ?_ <;> (first | exact isl (by assumption) (by k_mem) | is_list)))); (case p0 => first | assumption | exact .nil | exact .cons _ _ .nil | exact .cons _ _ (.cons _ _ .nil) | exact .cons _ _ (.cons _ _ (.cons _ _ .nil)) | l_ints); (case p1 => first | assumption | exact Nat.lt_of_lt_of_le (by assumption) (by decide) | l_fit | omega | (simp only [List.length_cons, List.length_nil, List.length_append, List.length_map, List.length_replicate, List.length_reverse, rangeKs_length] at *; omega)); (case p2 => first | assumption | exact .nil | exact .cons _ _ .nil | exact .cons _ _ (.cons _ _ .nil) | exact .cons _ _ (.cons _ _ (.cons _ _ .nil)) | l_ints); (case p3 => first | assumption | exact Nat.lt_of_lt_of_le (by assumption) (by decide) | l_fit | omega | (simp only [List.length_cons, List.length_nil, List.length_append, List.length_map, List.length_replicate, List.length_reverse, rangeKs_length] at *; omega)); (case p4 => (first | assumption | exact SmL.at (by assumption) (by assumption))); (case kb => exact plusP_len _ _ _); (case kB => k_asm); (case kF => k_asm); (case kX => k_asm); (case kN => k_asm); (case kT => k_asm); (case kK => first | exact rfl | assumption); (case kd => first | exact roomK (by assumption) (by decide) | ((try simp only [depth_under_make, depth_under_kw, depth_in1, depth_deeper, depth_caller]); (try dsimp only [ktrTop]); first | exact roomK (by assumption) (by decide) | exact roomG rfl (by decide)) | ktr_room); (case ku => first | ((try simp only [units_in1, units_deeper, Around.mark_units, units_caller]); (try dsimp only [ktrTop]); first | exact unitsK (by assumption) (by decide) | exact unitsK64 (by assumption) (by decide) | exact unitsG rfl (by decide) | exact unitsG64 rfl) | ktr_units); intro l9 ys9 n9 h9 tk9 F9 N9 ne9 hi9 hb9; (have no9 := ne9); (clear ne9); (try dsimp only); (try k_sweep); (try k_fold))))
  k_fill
  unfold Tell
  intro dp un gd cn cs a ccd cl outer A₀ base h₀ L m s Q E B F X T hk hd hu hP hret
  refine wpAny_call ?_
  refine' code_defG (news := []) ?k1 ?k2 ?k3 (fun _ h => nomatch h) ?k5 ?kA ?kF ?kK ?k6 ?k7 ?k8 ?k9 ?kB ?_ ?c2 ?c3 ?c4 ?c5
  case kA => exact rfl
  case kF => exact rfl
  case kK => assumption
  case k1 => k_asm
  case k2 => k_asm
  case k3 => k_asm
  case k5 => k_asm
  case k6 => k_dflt k_is
  case k7 => k_dflt k_is
  case k8 => first | exact room0 (by assumption) | ((try simp only [depth_under_make, depth_under_kw, depth_in1, depth_deeper, depth_caller]); (try dsimp only [ktrTop]); exact room0 (by assumption)) | ktr_room
  case k9 => exact BindsTo.of_eq rfl
  case c5 => decide
  case kB => exact locs rfl
  case c2 => exact rfl
  case c3 => exact rfl
  case c4 => exact rfl
  intro g' L' h' FG' F' N' B' X' T' G'
  clear B F X T
  try dsimp only
  try k_fold
  have hP' := lift_list G' hP
  have hs1 := sm_one
  have hs2 := sm_two
  k_with "my for" => refine Stop.mk ?_
  k_with "my iter" => refine Stop.mk ?_
  k_with "my enum" => refine Stop.mk ?_
  k_steps
  (unfold Stop; refine wpAny_For ?_ (fun _ => by rfl); k_steps; unfold Stop)
  refine' lp_enum (L := L') (σ := MS) (fun c => [(c.lp, listOf c.vp.toArray c.np), (c.lr, listOf c.vr.toArray c.nr)]) (fun c => [("plain", .ref c.lp), ("rooted", .ref c.lr)])
    (fun c => (IntsAre c.vp c.P ∧ IntsAre c.vr c.R) ∧ c.lp ≠ c.lr) ["at", "number", "many"] (fun pre q => q.P = scE ns.length c pre ∧ q.R = scO ns.length c pre) ⟨?lp, [], ?np, [], ?lr, [], ?nr, []⟩
    ?hh ?hL ?hx ?hxx ?hpl ?hl hi ?hnl ?F ?N ?hf (all2 ?k1 ?k2) ?hp ?turn ?done ?hE
  case F => assumption
  case k1 => exact rfl
  case k2 => exact rfl
  case hh => exact rfl
  case hL => exact rfl
  case hx => exact rfl
  case hxx => exact rfl
  case hpl => exact rfl
  case hE => first | passes_own | with_unfolding_all passes_own
  case N => exact news_two (by assumption) (by k_mem) (by k_mem)
  case hl => is_list
  case hnl => exact fun p hp => ne_base (news_two (by assumption) (by k_mem) (by k_mem)) hp hP'
  case hf => exact ⟨⟨.nil, .nil⟩, by first | k_ne | (dsimp only; omega)⟩
  case hp => exact ⟨rfl, rfl⟩
  case turn =>
    intro pre post x t ti q u h tk own e hf hp hd F N
    obtain ⟨lp, vp, np, PP, lr, vr, nr, RR⟩ := q
    dsimp only at hf hp hd F
    simp only [List.cons_append, List.nil_append] at N
    obtain ⟨⟨hvp, hvr⟩, hpr⟩ := hf
    have e1 : PP.length = pre.length := by rw [hp.1, scE_len]
    have e2 : RR.length = pre.length := by rw [hp.2, scO_len]
    have hpre := split_len e
    have hxs : Sm x := hs x (by rw [e]; simp)
    obtain ⟨q1, q2, q3⟩ := scI_par hpre
    have hPP : PP.length < 2 ^ 7 := by omega
    have hRR : RR.length < 2 ^ 7 := by omega
    unfold scI at q1 q2 q3
    have hoff : OwnOff own [lp, lr] := own_two hd
    have hvl : vp.length < 128 := by rw [hvp.length]; exact hPP
    have hvm : vr.length < 128 := by rw [hvr.length]; exact hRR
    k_steps
    all_goals first | (exfalso; omega) | skip
    all_goals
      dsimp only [LpPost]
      rename_i F9 N9
      have N8 := news_push N9
      refine' lp_end ⟨_, _, _, PP ++ [_], _, _, _, RR ++ [_]⟩ F9 N8 (mem_two (.head _) (.tail _ (.head _))) ?eo ?ed ⟨⟨hvp.append (.cons _ _ .nil), hvr.append (.cons _ _ .nil)⟩, hpr⟩ ?ek ?er ?ep
      case eo => exact fun p hp => .tail _ (.tail _ hp)
      case ek => (intro p hp; simp only [List.mem_cons, List.not_mem_nil, or_false] at hp; rcases hp with rfl | rfl <;> rfl)
      case er => (intro z h1 h2; have q1 := h1 _ (.head _); have q2 := h1 _ (.tail _ (.head _)); simp only at q1 q2; simp at h2; simp [q1, q2, h2, kstB])
      case ed => exact own_ne2 (fun p hp => hoff p hp lp (.head _)) (fun p hp => hoff p hp lr (.tail _ (.head _)))
      case ep =>
        dsimp only
        rw [scE_snoc, scO_snoc, ← hp.1, ← hp.2]
        unfold scI
        constructor
        · first | rw [if_pos (by assumption)] | rw [if_neg (by omega)]
        · first | rw [if_pos (by assumption)] | rw [if_neg (by omega)]
  case done =>
    intro q u h tk hf hp F N
    obtain ⟨lp, vp, np, PP, lr, vr, nr, RR⟩ := q
    dsimp only at hf hp F N
    obtain ⟨⟨hvp, hvr⟩, hpr⟩ := hf
    have e1 : PP.length = ns.length := by rw [hp.1, scE_len]
    have e2 : RR.length = ns.length := by rw [hp.2, scO_len]
    k_steps
    all_goals ((try dsimp only); (try (k_unfold; try dsimp only)); (try (k_unfold; try dsimp only)))
    exact leaveQ hret (by assumption) (by assumption) (by assumption) (.head _) (by k_mem) (by k_mem) (by assumption) (by assumption) (by rw [hp.1]; rfl) (by rw [hp.2]; rfl) (Ne.symm (fresh_ne (by assumption) (.tail _ (.head _))))
end
section
theorem upd_box {B R : Addr} {o o' o2 : Obj} (h : B ≠ R) : Upd B o o' [(B, o), (R, o2)] [(B, o'), (R, o2)] := .head fun p hp => by rw [List.mem_singleton.mp hp]; exact Ne.symm h
theorem fmod_in {x many : Int} (h : 0 < many) : 0 ≤ Int.fmod x many ∧ Int.fmod x many < many := by
  rw [Int.fmod_eq_emod_of_nonneg _ (Int.le_of_lt h)]
  exact ⟨Int.emod_nonneg _ (by omega), Int.emod_lt_of_pos _ h⟩
theorem leaveT {h₀ g : Heap} {L L' : Addr} {m m' : Str → Option Value} {h' : Heap} {s : Shared} {Q E : Value → Shared → Prop} {tk : Nat} {B R : Addr} {sv : List Value} {k many x : Int} {nB nR : Nat} {t tkk : Tok}
    (hret : ∀ r t h' tk' tkk', 0 ≤ r → r < many → Fr h₀ L h' m → News h₀ L h' [(B, listOf #[.ref R, .int (k + 1) tkk'] nB), (R, listOf sv.toArray nR)] → (∀ b o, s.heap.get? b = some o → b ≠ B → b ≠ R → h'.get? b = some o) → Q (.int r t) { s with heap := h', toks := tk' })
    (hm : 0 < many) (F : Fr g L' h' m') (N : News g L' h' [(B, listOf #[.ref R, .int (k + 1) tkk] nB), (R, listOf sv.toArray nR)]) (G : GSub s.heap g [B, R]) :
    LeaveK h₀ L m g (fun r s' => match r with | .ok (.ret v) => Q v s' | .ok _ => False | .error e => E e s') (.int (Int.fmod x many) t) { s with heap := h', toks := tk } :=
  leaveK_ F N fun Fh Nh => hret _ _ _ _ _ (fmod_in hm).1 (fmod_in hm).2 Fh Nh fun b o e n1 n2 => F.keep b o (G b o e (by simp [n1, n2]))
theorem take_c (w : World) (mean : ExcName → Option Value) (mg mb : Str → Option Value) (B R : Addr) (sv : List Value) (ns : List Int) (k many : Int) (tkk tm : Tok) (nB nR : Nat) (hi : IntsAre sv ns) (hl : ns.length < 2 ^ 7) (hk0 : 0 ≤ k) (hk1 : k < 64) (hm0 : 0 < many) (hm1 : many < 64) (hBR : B ≠ R)
    (dp un : Nat) (gd : Option (List Code)) (cn : Str) (cs : Scope) (a : Addr) (ccd : Value) (cl : List (Str × Addr)) (outer : List Env) (A₀ : Around) (base h₀ : Heap) (L : Addr) (m : Str → Option Value) (s : Shared) (Q E : Value → Shared → Prop)
    (Bw : Below A₀ base outer h₀) (F : Fr h₀ L s.heap m) (X : (Mine.hd.heap_39 w.params).In h₀) (T : Top Mine.hd.view_39 (looseW Mine.hd.view_39 []) mean mg mb h₀) (hk : cs.kind = .function) (hd : dp + 3 < recursionLimit) (hu : un + 8 * 3 < cLine)
    (N : News h₀ L s.heap [(B, listOf #[.ref R, .int k tkk] nB), (R, listOf sv.toArray nR)])
    (hret : ∀ r t h' tk' tkk', 0 ≤ r → r < many → Fr h₀ L h' m → News h₀ L h' [(B, listOf #[.ref R, .int (k + 1) tkk'] nB), (R, listOf sv.toArray nR)] → (∀ b o, s.heap.get? b = some o → b ≠ B → b ≠ R → h'.get? b = some o) → Q (.int r t) { s with heap := h', toks := tk' }) :
    wpAny (model PySem.Challenge.rw_sa0099_01.row.prog w) (ktrTop dp un gd cn cs L a ccd cl outer) (call (.ref 184) [.ref B, .int many tm]) Q E s := by
  k_with_none
  k_with "my w1" => ((k_here; (with_reducible show wpAny _ _ (exec (Stmt.While _ _ _ _) _) _ _ _); k_extra "my while"))
  k_with "my w1" => ((k_here; (with_reducible show wpAny _ _ (exec (Stmt.For _ _ _ _ _) _) _ _ _); k_extra "my for"))
  k_with "pyIter ref" => ((k_here; k_extra "my iter"))
  k_with "call type:enumerate" => ((k_here; k_extra "my enum"))
  k_with "my fits" => (first | exact MulAll.ok (by assumption) _ (by assumption) | exact Sm.mulR (by assumption) | exact Sm.mulL (by assumption) | exact Sm.mulR (SmL.at (by assumption) (by assumption)) | exact Sm.mulL (SmL.at (by assumption) (by assumption)))
  k_with "binaryOp FloorDiv int int" => ((k_here; k_dflt ((refine floordiv_int ?kb ?_ (Or.inl (Sm.py ?kp))); (case kb => first | assumption | exact Nz.ne (by assumption) | omega | exact PowNz.ok (by assumption) _); (case kp => first | assumption | exact PowSm.ok (by assumption) _ (by omega)))))
  k_with "exec Raise some none" => ((exfalso; omega))
  k_with "call ref" => ((k_here; k_extra "my call"))
  k_with "setItem ref int" => ((k_here; k_dflt ((refine' ki_set ?kF ?kN ?ka ?kb ?ke ?kU ?_); (case kF => k_asm); (case kN => k_asm); (case kU => exact upd_box (by assumption)); (case ka => decide); (case kb => decide); (case ke => exact rfl)); (intro h9 F9 N9); (try dsimp only); (try k_fold)))
  revert X
  k_fill
  intro X
  refine wpAny_call ?_
  refine' code_defG ?k1 ?k2 ?k3 N ?k5 ?kA ?kF ?kK ?k6 ?k7 ?k8 ?k9 ?kB ?_ ?c2 ?c3 ?c4 ?c5
  case kA => exact rfl
  case kF => exact rfl
  case kK => assumption
  case k1 => k_asm
  case k2 => k_asm
  case k3 => k_asm
  case k5 => exact T
  case k6 => k_dflt k_is
  case k7 => k_dflt k_is
  case k8 => first | exact room0 (by assumption) | ((try simp only [depth_under_make, depth_under_kw, depth_in1, depth_deeper, depth_caller]); (try dsimp only [ktrTop]); exact room0 (by assumption)) | ktr_room
  case k9 => exact BindsTo.of_eq rfl
  case c5 => decide
  case kB => exact locs rfl
  case c2 => exact rfl
  case c3 => exact rfl
  case c4 => exact rfl
  intro g' L' h' FG' F' N' B' X' T' G'
  clear Bw F X T
  try dsimp only
  try k_fold
  k_steps
  all_goals ((try dsimp only); (try (k_unfold; try dsimp only)); (try (k_unfold; try dsimp only)))
  all_goals exact leaveT hret hm0 (by assumption) (by assumption) G'
end
section
theorem use_T (w : World) (mean : ExcName → Option Value) (mg mb : Str → Option Value) {B R : Addr} {sv : List Value} {ns : List Int} {k many : Int} {tkk tm : Tok} {nB nR : Nat}
    {dp un : Nat} {gd : Option (List Code)} {cn : Str} {cs : Scope} {a : Addr} {ccd : Value} {cl : List (Str × Addr)} {outer : List Env} {A₀ : Around} {base h₀ : Heap} {L : Addr} {m : Str → Option Value} {s : Shared} {Q E : Value → Shared → Prop} {news : List (Addr × Obj)} {g : Obj → List (Addr × Obj)}
    (hi : IntsAre sv ns) (hl : ns.length < 2 ^ 7) (hk0 : 0 ≤ k) (hk1 : k < 64) (hm0 : 0 < many) (hm1 : many < 64)
    (Bw : Below A₀ base outer h₀) (F : Fr h₀ L s.heap m) (X : (Mine.hd.heap_39 w.params).In h₀) (T : Top Mine.hd.view_39 (looseW Mine.hd.view_39 []) mean mg mb h₀) (hk : cs.kind = .function) (hd : dp + 3 < recursionLimit) (hu : un + 8 * 3 < cLine)
    (N : News h₀ L s.heap news) (U : UpdF B (listOf #[.ref R, .int k tkk] nB) news g) (hR : (R, listOf sv.toArray nR) ∈ news) (hBR : B ≠ R)
    (hret : ∀ r t h' tk' tkk', 0 ≤ r → r < many → Fr h₀ L h' m → News h₀ L h' (g (listOf #[.ref R, .int (k + 1) tkk'] nB)) → Q (.int r t) { s with heap := h', toks := tk' }) :
    wpAny (model PySem.Challenge.rw_sa0099_01.row.prog w) (ktrTop dp un gd cn cs L a ccd cl outer) (call (.ref 184) [.ref B, .int many tm]) Q E s := by
  obtain ⟨pre, post, rfl, hg, a1, a2⟩ := U.split
  have hB : (B, listOf #[.ref R, .int k tkk] nB) ∈ pre ++ (B, listOf #[.ref R, .int k tkk] nB) :: post := List.mem_append.mpr (.inr (.head _))
  refine take_c w mean mg mb B R sv ns k many tkk tm nB nR hi hl hk0 hk1 hm0 hm1 hBR dp un gd cn cs a ccd cl outer A₀ base h₀ L m s Q E Bw F X T hk hd hu (news_two N hB hR) ?_
  intro r t h' tk' tkk' r0 r1 F' N' keep
  refine hret r t h' tk' tkk' r0 r1 F' ?_
  rw [hg]
  have side : ∀ p, p ∈ pre ++ (B, listOf #[.ref R, .int k tkk] nB) :: post → p.1 ≠ B → h'.get? p.1 = some p.2 ∧ p.1 ≠ L ∧ h₀.get? p.1 = none := fun p hp hne => by
    refine ⟨?_, (N p hp).2⟩
    by_cases hpR : p.1 = R
    · have e1 := (N p hp).1
      have e2 := (N _ hR).1
      have e3 := (N' _ (.tail _ (.head _))).1
      dsimp only at e2 e3
      rw [hpR] at e1 ⊢
      rw [e2] at e1
      rw [e3, e1]
    · exact keep _ _ (N p hp).1 hne hpR
  intro p hp
  rcases List.mem_append.mp hp with hp | hp
  · exact side p (List.mem_append.mpr (.inl hp)) (a1 p hp)
  · rcases List.mem_cons.mp hp with rfl | hp
    · exact N' _ (.head _)
    · exact side p (List.mem_append.mpr (.inr (.tail _ hp))) (a2 p hp)
theorem UpdF.again {d : Addr} {o : Obj} : ∀ {l : List (Addr × Obj)} {g : Obj → List (Addr × Obj)}, UpdF d o l g → ∀ o', UpdF d o' (g o') g
  | _, _, .head h, _ => .head h
  | _, _, .tail h r, o' => .tail h (UpdF.again r o')
theorem UpdF.fst {d : Addr} {o : Obj} : ∀ {l : List (Addr × Obj)} {g : Obj → List (Addr × Obj)}, UpdF d o l g → g o = l
  | _, _, .head _ => rfl
  | _, _, .tail _ r => by dsimp only; rw [UpdF.fst r]
theorem UpdF.memB {d : Addr} {o : Obj} {l : List (Addr × Obj)} {g : Obj → List (Addr × Obj)} (h : UpdF d o l g) (o' : Obj) : (d, o') ∈ g o' := by
  obtain ⟨pre, post, _, hg, _, _⟩ := h.split
  rw [hg]; exact List.mem_append.mpr (.inr (.head _))
theorem UpdF.off3 {I C D d : Addr} {o : Obj} : ∀ {l : List (Addr × Obj)} {g : Obj → List (Addr × Obj)}, UpdF d o l g → ∀ o1 o2, LCg.Off3 I C D (g o1) → LCg.Off3 I C D (g o2)
  | _, _, .head _, _, _, x => ⟨x.1, x.2⟩
  | _, _, .tail _ r, _, _, x => ⟨x.1, UpdF.off3 r _ _ x.2⟩
/-- an item of a written menu -/
structure Of (x : Int) (ns : List Int) : Prop where
  mem : x ∈ ns
theorem item_menu {prog : Program} {w : World} {A : Around} {E : Value → Shared → Prop} {s : Shared} {value slice : PySem.Expr} {l : Addr} {vs : List Value} {ns : List Int} {k : Int} {u : Tok} {Q : Value → Shared → Prop} (hl : s.heap.IsList l vs.toArray) (hi : IntsAre vs ns) (h0 : 0 ≤ k) (h1 : k < ns.length) (hf : k < 2 ^ 63)
    (h : ∀ x t, Of x ns → Q (.int x t) s)
    (hs : subscripted slice false (.ref l) (.int k u) = operate [.ref l, .int k u] (getItem (.ref l) (.int k u)) := by with_unfolding_all rfl) (hg : ∀ r, letTemporaryGo value (.ref l) r = pure () := by intro _; with_unfolding_all rfl) :
    wpAny (model prog w) A (subscriptTail value slice (.ref l) (.int k u)) Q E s := by
  refine item_list_ints hl hi h0 h1 hf (fun t => h _ t ⟨?_⟩) hs hg
  have hk : k.toNat < ns.length := by omega
  simp only [List.getD, List.getElem?_eq_getElem hk, Option.getD_some]
  exact List.getElem_mem hk
section
variable {prog : Program} {w : World} {A : Around} {h₀ : Heap} {L : Addr} {m : Str → Option Value} {env : Env} {B R : Addr} {nB : Nat} {g : Obj → List (Addr × Obj)}
abbrev boxO (R : Addr) (nB : Nat) (k : Int) (tkk : Tok) : Obj := listOf #[.ref R, .int k tkk] nB
/-- the draws of a block: each one turns the box once -/
noncomputable def Drawn (n : Nat) (g : Obj → List (Addr × Obj)) (R : Addr) (nB : Nat) (ys : List Value) (news : List (Addr × Obj)) : Prop :=
  ∃ zs k tkk, IntsAre ys zs ∧ zs.length = n ∧ (∀ z ∈ zs, -3 ≤ z ∧ z ≤ 3) ∧ 0 ≤ k ∧ k ≤ 20 ∧ news = g (boxO R nB k tkk)
theorem rest_take {ob : Obj} {news : List (Addr × Obj)} (U : UpdF B ob news g) {elt : PySem.Expr} {x : Str} {scope : Scope} {cl : List (Str × Addr)} {s : Shared} {P : Nat → Value → Prop} {Fin : List Value → List (Addr × Obj) → Prop} {n : Nat}
    (turn : ∀ k tkk I oI C oC D oD h tk (E' : Value → Shared → Prop), 0 ≤ k → k ≤ 19 → (@Ne Nat I B) → (@Ne Nat C B) → (@Ne Nat D B) → Fr h₀ L h m → News h₀ L h ((I, oI) :: (C, oC) :: (D, oD) :: g (boxO R nB k tkk)) → UpdF B (boxO R nB k tkk) ((I, oI) :: (C, oC) :: (D, oD) :: g (boxO R nB k tkk)) (fun o => (I, oI) :: (C, oC) :: (D, oD) :: g o) →
      wpAny (model prog w) A (eval elt (compEnvC scope cl C env)) (fun y s₃ => ∃ z t h' tk' tkk', y = .int z t ∧ (-3 ≤ z ∧ z ≤ 3) ∧ s₃ = { s with heap := h', toks := tk' } ∧ Fr h₀ L h' m ∧ News h₀ L h' ((I, oI) :: (C, oC) :: (D, oD) :: g (boxO R nB (k + 1) tkk'))) E' { s with heap := h, toks := tk })
    (fin : ∀ ys news, Drawn n g R nB ys news → Fin ys news) :
    ∀ (c i : Nat) (ys : List Value) (zs : List Int) (k : Int) (tkk : Tok), IntsAre ys zs → zs.length + c = n → (∀ z ∈ zs, -3 ≤ z ∧ z ≤ 3) → 0 ≤ k → k + c ≤ 20 →
      LCg.CompRest prog w A h₀ L m env elt x scope cl s (fun _ => True) P Fin c i ys (g (boxO R nB k tkk))
  | 0, i, ys, zs, k, tkk, hi, hn, hz, h0, h1 => LCg.CompRest.zero (fin _ _ ⟨zs, k, tkk, hi, by omega, hz, h0, by omega, rfl⟩)
  | c + 1, i, ys, zs, k, tkk, hi, hn, hz, h0, h1 => by
    refine LCg.CompRest.succ ?_
    intro v I oI C oC D m₂ h tk E' hv hC hx F N off ne
    have q := off.mem _ (UpdF.memB U (boxO R nB k tkk))
    have U' := UpdF.tail (p := (I, oI)) (Ne.symm q.1) (UpdF.tail (p := (C, oC)) (Ne.symm q.2.1) (UpdF.tail (p := (D, LCg.lst ys)) (Ne.symm q.2.2) (UpdF.again U (boxO R nB k tkk))))
    refine wpAny_mono (turn k tkk I oI C oC D (LCg.lst ys) h tk E' h0 (by omega) (Ne.symm q.1) (Ne.symm q.2.1) (Ne.symm q.2.2) F N U') (fun y s₃ hy => ?_) fun _ _ e => e
    obtain ⟨z, t, h', tk', tkk', rfl, hzb, rfl, F', N'⟩ := hy
    refine LCg.CompEnd.intro (s₁ := { s with heap := h, toks := tk }) F' N' (g (boxO R nB (k + 1) tkk')) (fun p hp => hp) (UpdF.off3 U _ _ off) trivial ?_
    refine rest_take U turn fin c (i + 1) (ys ++ [.int z t]) (zs ++ [z]) (k + 1) tkk' (hi.append (.cons _ _ .nil)) (by simp; omega) (fun a ha => ?_) (by omega) (by omega)
    rcases List.mem_append.mp ha with ha | ha
    · exact hz a ha
    · rw [List.mem_singleton.mp ha]; exact hzb
theorem src_take {s₁ : Shared} {news : List (Addr × Obj)} {k₀ : Int} {tk₀ : Tok} (U : UpdF B (boxO R nB k₀ tk₀) news g) {elt : PySem.Expr} {x : Str} {scope : Scope} {cl : List (Str × Addr)} {Q : Value → Shared → Prop} {n : Nat} {r : Addr} {b : Int} {t u v : Tok}
    (hh : A.handled = none) (F : Fr h₀ L s₁.heap m) (N : News h₀ L s₁.heap news) (hr : IsRange s₁.heap r 0 b 1 t u v) (hsm : Builtin.Range.small 0 b 1 = true) (hn : Builtin.Range.rangeSize 0 b 1 = ((n : Nat) : Int)) (hn3 : n ≤ 3) (h0 : 0 ≤ k₀) (h1 : k₀ ≤ 10)
    (turn : ∀ g₁ k tkk I oI C oC D oD h tk (E' : Value → Shared → Prop), 0 ≤ k → k ≤ 19 → (@Ne Nat I B) → (@Ne Nat C B) → (@Ne Nat D B) → Fr h₀ L h m → News h₀ L h ((I, oI) :: (C, oC) :: (D, oD) :: g (boxO R nB k tkk)) → UpdF B (boxO R nB k tkk) ((I, oI) :: (C, oC) :: (D, oD) :: g (boxO R nB k tkk)) (fun o => (I, oI) :: (C, oC) :: (D, oD) :: g o) →
      wpAny (model prog w) A (eval elt (compEnvC scope cl C env)) (fun y s₃ => ∃ z t h' tk' tkk', y = .int z t ∧ (-3 ≤ z ∧ z ≤ 3) ∧ s₃ = { ({ s₁ with heap := g₁ } : Shared) with heap := h', toks := tk' } ∧ Fr h₀ L h' m ∧ News h₀ L h' ((I, oI) :: (C, oC) :: (D, oD) :: g (boxO R nB (k + 1) tkk'))) E' { ({ s₁ with heap := g₁ } : Shared) with heap := h, toks := tk })
    (fin : ∀ g₁ ys zs k tkk D h tk, IntsAre ys zs → zs.length = n → (∀ z ∈ zs, -3 ≤ z ∧ z ≤ 3) → 0 ≤ k → k ≤ 20 → Fr h₀ L h m → News h₀ L h ((D, listOf ys.toArray ys.length) :: g (boxO R nB k tkk)) → LCg.Off1 D (g (boxO R nB k tkk)) → Q (.ref D) { ({ s₁ with heap := g₁ } : Shared) with heap := h, toks := tk }) :
    LCg.CompSrc prog w A h₀ L m env elt x scope cl (fun s₂ => LCg.FinE h₀ L m s₂ Q) (.ref r) s₁ := by
  refine .inr ⟨r, 0, b, t, u, v, n, news, rfl, hh, F, N, hr, hsm, hn, ?_, ?_⟩
  · rw [PySem.sizeLine_eq]; omega
  rintro s₂ ⟨g₁, rfl⟩
  have e := UpdF.fst U
  rw [← e]
  refine rest_take (n := n) U (fun k tkk I oI C oC D oD h tk E' a1 a2 a3 a4 a5 F N U => turn g₁ k tkk I oI C oC D oD h tk E' a1 a2 a3 a4 a5 F N U) ?_ n 0 [] [] k₀ tk₀ .nil (by simp) (fun _ x => nomatch x) h0 (by omega)
  rintro ys news' ⟨zs, k, tkk, hi, hl, hz, k0, k1, rfl⟩
  intro D h tk F' N' o1
  exact fin g₁ ys zs k tkk D h tk hi hl hz k0 k1 F' N' o1
end
end
section
theorem ints4 {a b c d : Int} {t1 t2 t3 t4 : Tok} : IntsAre [.int a t1, .int b t2, .int c t3, .int d t4] [a, b, c, d] := .cons _ _ (.cons _ _ (.cons _ _ (.cons _ _ .nil)))
theorem ints3 {a b c : Int} {t1 t2 t3 : Tok} : IntsAre [.int a t1, .int b t2, .int c t3] [a, b, c] := .cons _ _ (.cons _ _ (.cons _ _ .nil))
theorem ints6 {a b c d e f : Int} {t1 t2 t3 t4 t5 t6 : Tok} : IntsAre [.int a t1, .int b t2, .int c t3, .int d t4, .int e t5, .int f t6] [a, b, c, d, e, f] := .cons _ _ (.cons _ _ ints4)
theorem ints12 {a b c d e f a' b' c' d' e' f' : Int} {t1 t2 t3 t4 t5 t6 t7 t8 t9 t10 t11 t12 : Tok} :
    IntsAre [.int a t1, .int b t2, .int c t3, .int d t4, .int e t5, .int f t6, .int a' t7, .int b' t8, .int c' t9, .int d' t10, .int e' t11, .int f' t12] [a, b, c, d, e, f, a', b', c', d', e', f'] := .cons _ _ (.cons _ _ (.cons _ _ (.cons _ _ (.cons _ _ (.cons _ _ ints6)))))
theorem menu_mem {ns : List Int} {r : Int} (h0 : 0 ≤ r) (h1 : r < (ns.length : Int)) : ∃ x, ns.getD r.toNat 0 = x ∧ x ∈ ns := by
  refine ⟨_, rfl, ?_⟩
  have hk : r.toNat < ns.length := by omega
  simp only [List.getD, List.getElem?_eq_getElem hk, Option.getD_some]
  exact List.getElem_mem hk
theorem menu_size {r : Int} (h1 : r < 3) (h0 : 0 ≤ r) : ∃ x : Int, ([3, 1, 2] : List Int).getD r.toNat 0 = x ∧ (1 ≤ x ∧ x ≤ 3) := by
  obtain ⟨x, e, hx⟩ := menu_mem (ns := [3, 1, 2]) h0 h1
  exact ⟨x, e, (by decide : ∀ x ∈ [(3 : Int), 1, 2], 1 ≤ x ∧ x ≤ 3) x hx⟩
theorem menu_c {r : Int} (h1 : r < 12) (h0 : 0 ≤ r) : ∃ x : Int, ([5, 2, -1, 4, 3, -2, 1, 6, -3, -6, -4, -5] : List Int).getD r.toNat 0 = x ∧ (-6 ≤ x ∧ x ≤ 6) ∧ x ≠ 0 := by
  obtain ⟨x, e, hx⟩ := menu_mem (ns := [5, 2, -1, 4, 3, -2, 1, 6, -3, -6, -4, -5]) h0 h1
  exact ⟨x, e, (by decide : ∀ x ∈ [(5 : Int), 2, -1, 4, 3, -2, 1, 6, -3, -6, -4, -5], (-6 ≤ x ∧ x ≤ 6) ∧ x ≠ 0) x hx⟩
theorem menu_first {r : Int} (h1 : r < 6) (h0 : 0 ≤ r) : ∃ x : Int, ([1, -1, 2, -2, 3, -3] : List Int).getD r.toNat 0 = x ∧ (-3 ≤ x ∧ x ≤ 3) ∧ x ≠ 0 := by
  obtain ⟨x, e, hx⟩ := menu_mem (ns := [1, -1, 2, -2, 3, -3]) h0 h1
  exact ⟨x, e, (by decide : ∀ x ∈ [(1 : Int), -1, 2, -2, 3, -3], (-3 ≤ x ∧ x ≤ 3) ∧ x ≠ 0) x hx⟩
theorem menu_last {r : Int} (h1 : r < 4) (h0 : 0 ≤ r) : ∃ x : Int, ([1, 2, -1, 3] : List Int).getD r.toNat 0 = x ∧ (-3 ≤ x ∧ x ≤ 3) ∧ x ≠ 0 := by
  obtain ⟨x, e, hx⟩ := menu_mem (ns := [1, 2, -1, 3]) h0 h1
  exact ⟨x, e, (by decide : ∀ x ∈ [(1 : Int), 2, -1, 3], (-3 ≤ x ∧ x ≤ 3) ∧ x ≠ 0) x hx⟩
end
section
theorem movedP_len1 (f : List Int) (c : Int) : (movedP f c).1.length ≤ f.length + 1 := by
  have := (movedPre_len c f.reverse).1
  rwa [List.length_reverse] at this
theorem movedP_len2 (f : List Int) (c : Int) : (movedP f c).2.length ≤ f.length + 1 := by
  have := (movedPre_len c f.reverse).2
  rwa [List.length_reverse] at this
theorem scaledP_len1 (f : List Int) (c : Int) : (scaledP f c).1.length ≤ f.length := by
  have := plusP_len (scE f.length c f) [] 1
  rw [scE_len, List.length_nil] at this
  exact Nat.le_trans this (by omega)
theorem scaledP_len2 (f : List Int) (c : Int) : (scaledP f c).2.length ≤ f.length := by
  have := plusP_len (scO f.length c f) [] 1
  rw [scO_len, List.length_nil] at this
  exact Nat.le_trans this (by omega)
noncomputable def shiftPre (c : Int) (pre : List Int) : List Int := pre.foldl (fun acc x => plusP (timesP [0 - c, 1] acc) [x] 1) []
theorem shiftPre_snoc (c : Int) (pre : List Int) (x : Int) : shiftPre c (pre ++ [x]) = plusP (timesP [0 - c, 1] (shiftPre c pre)) [x] 1 := by
  unfold shiftPre
  rw [List.foldl_append, List.foldl_cons, List.foldl_nil]
structure PlainLaw (f : List Int) (c : Int) (n : Nat) : Prop where
  sc : Sm c
  sc0 : Sm (0 - c)
  sf : SmL f
  scl : SmL [0 - c, 1]
  len : f.length = n + 1
  n1 : n ≤ 3
  hN2 : ((f.length : Int) - 1) * ((([0 - c, 0, 1] : List Int).length : Int) - 1) = ((2 * n : Nat) : Int)
  hN1 : ((f.length : Int) - 1) * ((([0 - c, 1] : List Int).length : Int) - 1) = ((n : Nat) : Int)
  ok2 : ResAll f [0 - c, 0, 1] (2 * n)
  ok1 : ResAll f [0 - c, 1] n
  okp : ResAllP f [0 - c, 0, 1] (2 * n)
  hB2 : ∀ i, i < (sumVals f [0 - c, 0, 1] (2 * n)).length → SmL (tvPre (sumVals f [0 - c, 0, 1] (2 * n)) i).2.1
  hB1 : ∀ i, i < (sumVals f [0 - c, 1] n).length → SmL (tvPre (sumVals f [0 - c, 1] n) i).2.1
  hBp : ∀ i, i < (prodVals f [0 - c, 0, 1] (2 * n)).length → SmL (tvPre (prodVals f [0 - c, 0, 1] (2 * n)) i).2.1
  sm1 : SmL (movedP f c).1
  sm2 : SmL (movedP f c).2
  ss1 : SmL (scaledP f c).1
  ss2 : SmL (scaledP f c).2
  e1 : through_valuesP (sumVals f [0 - c, 0, 1] (2 * n)) = normP (movedP f c).1 (movedP f c).2 c
  e2 : zcomposeP (through_valuesP (prodVals f [0 - c, 0, 1] (2 * n))) [-1, 1] = normP (scaledP f c).1 (scaledP f c).2 c
  e3 : through_valuesP (sumVals f [0 - c, 1] n) = shiftPre c f.reverse
end
section
set_option maxRecDepth 4000
theorem getD_nil (i : Nat) : ([] : List Int).getD i 0 = 0 := by simp
theorem getD_snoc_zero (xs : List Int) (i : Nat) : (xs ++ [(0 : Int)]).getD i 0 = xs.getD i 0 := by
  simp only [List.getD]
  by_cases h : i < xs.length
  · rw [List.getElem?_append_left h]
  · rw [List.getElem?_append_right (by omega), List.getElem?_eq_none (l := xs) (by omega)]
    by_cases h2 : i - xs.length = 0
    · rw [h2]; rfl
    · rw [List.getElem?_eq_none (by simp; omega)]
theorem getD_trim (a : List Int) (i : Nat) : (ztrimP a).getD i 0 = a.getD i 0 := by
  induction a using snocInd with
  | h0 => rfl
  | hs xs x ih =>
    by_cases h : x = 0
    · subst h
      rw [ztrimP_snoc_zero, ih, getD_snoc_zero]
    · rw [ztrimP_snoc _ h]
noncomputable def Trim (a : List Int) : Prop := ztrimP a = a
theorem Trim.last {a : List Int} (h : Trim a) (h0 : 0 < a.length) : a.getD (a.length - 1) 0 ≠ 0 := by
  intro e
  have hne : a ≠ [] := List.length_pos_iff.mp h0
  have := getD_trim_last hne (by
    rw [List.getLast_eq_getElem]
    simpa [List.getD, List.getElem?_eq_getElem (show a.length - 1 < a.length by omega)] using e)
  rw [show ztrimP a = a from h] at this
  omega
theorem trimP_len_le {a b : List Int} (ha : Trim a) (h : ∀ i, a.getD i 0 = b.getD i 0) : a.length ≤ b.length := by
  by_cases h0 : 0 < a.length
  · have h1 := ha.last h0
    rw [h] at h1
    by_cases h2 : a.length ≤ b.length
    · exact h2
    · exact absurd (by simp only [List.getD]; rw [List.getElem?_eq_none (by omega)]; rfl) h1
  · omega
theorem getD_ext {a b : List Int} (hl : a.length = b.length) (h : ∀ i, a.getD i 0 = b.getD i 0) : a = b := by
  refine List.ext_getElem hl fun i h1 h2 => ?_
  have := h i
  simpa [List.getD, List.getElem?_eq_getElem h1, List.getElem?_eq_getElem h2] using this
theorem Trim.ext {a b : List Int} (ha : Trim a) (hb : Trim b) (h : ∀ i, a.getD i 0 = b.getD i 0) : a = b :=
  getD_ext (Nat.le_antisymm (trimP_len_le ha h) (trimP_len_le hb fun i => (h i).symm)) h
theorem snoc_cases (a : List Int) : a = [] ∨ ∃ xs x, a = xs ++ [x] := by
  by_cases h : a = []
  · exact .inl h
  · exact .inr ⟨a.dropLast, a.getLast h, (List.dropLast_concat_getLast h).symm⟩
theorem trim_trim (a : List Int) : Trim (ztrimP a) := by
  induction a using snocInd with
  | h0 => rfl
  | hs xs x ih =>
    by_cases h : x = 0
    · subst h
      rw [ztrimP_snoc_zero]; exact ih
    · rw [ztrimP_snoc _ h]; exact ztrimP_snoc _ h
theorem trim_ext {a b : List Int} (h : ∀ i, a.getD i 0 = b.getD i 0) : ztrimP a = ztrimP b :=
  (trim_trim a).ext (trim_trim b) fun i => by rw [getD_trim, getD_trim, h]
theorem trim_of_last {a : List Int} {x : Int} (h : x ≠ 0) : Trim (a ++ [x]) := ztrimP_snoc _ h
theorem getD_of_le {a : List Int} {i : Nat} (h : a.length ≤ i) : a.getD i 0 = 0 := by
  simp only [List.getD]; rw [List.getElem?_eq_none h]; rfl
theorem map_range_getD (f : Nat → Int) (n i : Nat) : ((List.range n).map f).getD i 0 = if i < n then f i else 0 := by
  split
  · rename_i h
    simp [List.getD, h]
  · rename_i h
    exact getD_of_le (by simp; omega)
theorem zadd_getD (a b : List Int) (i : Nat) : (zaddP a b).getD i 0 = a.getD i 0 + b.getD i 0 := by
  unfold zaddP
  rw [getD_trim, map_range_getD]
  split
  · rfl
  · rw [getD_of_le (by omega), getD_of_le (by omega)]; rfl
theorem zadd_trim (a b : List Int) : Trim (zaddP a b) := trim_trim _
theorem zsub_getD (a b : List Int) (i : Nat) : (zsubP a b).getD i 0 = a.getD i 0 - b.getD i 0 := by
  unfold zsubP
  rw [zadd_getD, zneg_getD]; omega
theorem zscale_trim {a : List Int} (h : Trim a) (k : Int) : Trim (zscaleP a k) := by
  unfold zscaleP
  split
  · rename_i hk
    rcases snoc_cases a with rfl | ⟨xs, x, rfl⟩
    · rfl
    · rw [List.map_append]
      refine trim_of_last (Int.mul_ne_zero ?_ hk)
      have := h.last (by simp)
      intro e
      subst e
      rw [getD_snoc_zero] at this
      exact this (getD_of_le (by simp))
  · rfl
theorem pstep_getD {b r : List Int} {k : Nat} (hk : r.length = b.length + k) (i : Nat) :
    (pstep b r).getD i 0 = r.getD i 0 * zleadP b - (if i < k then 0 else b.getD (i - k) 0 * zleadP r) := by
  unfold pstep
  rw [zsub_getD, zscale_getD, zraise_getD, zscale_getD, show r.length - b.length = k by omega]
noncomputable def fstp (b : List Int) (k : Nat) (c : Nat → Int) : Nat → Int := fun i => c i * zleadP b - (if i < k then 0 else b.getD (i - k) 0 * c (b.length - 1 + k))
/-- k formal steps of a division by b -/
noncomputable def fml (b : List Int) : Nat → (Nat → Int) → (Nat → Int)
  | 0, c => c
  | k + 1, c => fml b k (fstp b k c)
theorem fstp_smul (b : List Int) (k : Nat) (c : Nat → Int) (m : Int) : fstp b k (fun i => c i * m) = fun i => fstp b k c i * m := by
  funext i
  unfold fstp
  split
  · grind
  · grind
theorem fml_smul (b : List Int) (m : Int) : ∀ (k : Nat) (c : Nat → Int) (i : Nat), fml b k (fun i => c i * m) i = fml b k c i * m
  | 0, _, _ => rfl
  | k + 1, c, i => by
    show fml b k (fstp b k fun i => c i * m) i = fml b k (fstp b k c) i * m
    rw [fstp_smul, fml_smul b m k]
theorem prun_shift (b : List Int) (d : Int) : ∀ (n : Nat) (r f : List Int) (l : Int), prun b n r f (l + d) = ((prun b n r f l).1, (prun b n r f l).2.1, (prun b n r f l).2.2 + d)
  | 0, _, _, _ => rfl
  | n + 1, r, f, l => by
    simp only [prun]
    split
    · rfl
    · rw [show l + d - 1 = (l - 1) + d by omega]; exact prun_shift b d n _ _ _
theorem prun_lt {b : List Int} (hb : 0 < b.length) : ∀ (n : Nat) (r f : List Int) (l : Int), r.length < n → (prun b n r f l).1.length < b.length
  | 0, _, _, _, h => absurd h (Nat.not_lt_zero _)
  | n + 1, r, f, l, h => by
    simp only [prun]
    split
    · rename_i hc; exact hc
    · rename_i hc
      have := pstep_len hb hc
      exact prun_lt hb n _ _ _ (by omega)
theorem prun_trim {b : List Int} : ∀ (n : Nat) (r f : List Int) (l : Int), Trim r → Trim (prun b n r f l).1
  | 0, _, _, _, h => h
  | n + 1, r, f, l, h => by
    simp only [prun]
    split
    · exact h
    · exact prun_trim n _ _ _ (zadd_trim _ _)
theorem prun_fml {b : List Int} (hb : 0 < b.length) : ∀ (k n : Nat) (r f : List Int), r.length ≤ b.length - 1 + k → r.length < n →
    (∀ i, (zscaleP (prun b n r f (k : Int)).1 (zleadP b ^ (prun b n r f (k : Int)).2.2.toNat)).getD i 0 = fml b k (fun i => r.getD i 0) i) ∧ 0 ≤ (prun b n r f (k : Int)).2.2
  | 0, n, r, f, h, hn => by
    rw [prun_done n (by omega)]
    refine ⟨fun i => ?_, Int.le_refl _⟩
    rw [zscale_getD]
    show _ * zleadP b ^ 0 = r.getD i 0
    simp
  | k + 1, n, r, f, h, hn => by
    by_cases hk : r.length = b.length + k
    · obtain ⟨n, rfl⟩ : ∃ m, n = m + 1 := ⟨n - 1, by omega⟩
      have hlt := pstep_len (rest := r) hb (by omega)
      have ih := prun_fml hb k n (pstep b r) (fstep b r f) (by omega) (by omega)
      have e : prun b (n + 1) r f ((k + 1 : Nat) : Int) = prun b n (pstep b r) (fstep b r f) (k : Int) := by
        simp only [prun]
        rw [if_neg (by omega)]
        congr 1
        omega
      rw [e]
      refine ⟨fun i => ?_, ih.2⟩
      rw [ih.1]
      show _ = fml b k (fstp b k fun i => r.getD i 0) i
      congr 1
      funext i
      rw [pstep_getD hk]
      unfold fstp
      rw [zlead_getD r, hk, show b.length + k - 1 = b.length - 1 + k by omega]
    · have ih := prun_fml hb k n r f (by omega) hn
      have e : prun b n r f ((k + 1 : Nat) : Int) = ((prun b n r f (k : Int)).1, (prun b n r f (k : Int)).2.1, (prun b n r f (k : Int)).2.2 + 1) := prun_shift b 1 n r f k
      rw [e]
      refine ⟨fun i => ?_, by have := ih.2; show 0 ≤ _ + 1; omega⟩
      have ih1 := ih.1 i
      rw [zscale_getD] at ih1 ⊢
      dsimp only
      rw [show ((prun b n r f (k : Int)).2.2 + 1).toNat = (prun b n r f (k : Int)).2.2.toNat + 1 by have := ih.2; omega, Int.pow_succ, ← Int.mul_assoc, ih1]
      show _ = fml b k (fstp b k fun i => r.getD i 0) i
      rw [← fml_smul]
      congr 1
      funext j
      show r.getD j 0 * zleadP b = r.getD j 0 * zleadP b - (if j < k then 0 else b.getD (j - k) 0 * r.getD (b.length - 1 + k) 0)
      rw [getD_of_le (a := r) (i := b.length - 1 + k) (by omega)]
      simp
theorem rest_getD {a b : List Int} (hb : 0 < b.length) (hl : b.length ≤ a.length + 1) (i : Nat) : (restP a b).getD i 0 = fml b (a.length + 1 - b.length) (fun i => a.getD i 0) i := by
  unfold restP pseudoP
  exact (prun_fml hb (a.length + 1 - b.length) (a.length + 1) a [] (by omega) (by omega)).1 i
theorem rest_lt {a b : List Int} (hb : 0 < b.length) : (restP a b).length < b.length := by
  unfold restP pseudoP
  exact Nat.lt_of_le_of_lt (zscaleP_len _ _) (prun_lt hb _ _ _ _ (by omega))
theorem rest_trim {a b : List Int} (ha : Trim a) : Trim (restP a b) := zscale_trim (prun_trim _ _ _ _ ha) _
end
section
set_option maxRecDepth 4000
theorem pow1 (x : Int) : x ^ 1 = x := by rw [Int.pow_succ, Int.pow_zero, Int.one_mul]
theorem rowS_no {a b : List Int} {s : Int} (x y : Int) (ha : (a.length : Int) - 1 = x) (hb : (b.length : Int) - 1 = y) (h : ¬ (Int.fmod x 2 = 1 ∧ Int.fmod y 2 = 1)) : rowS a b s = s := by
  subst ha hb; unfold rowS; rw [if_neg h]
theorem rowS_yes' {a b : List Int} {s : Int} (x y : Int) (ha : (a.length : Int) - 1 = x) (hb : (b.length : Int) - 1 = y) (h : Int.fmod x 2 = 1 ∧ Int.fmod y 2 = 1) : rowS a b s = -s := by
  subst ha hb; unfold rowS; rw [if_pos h]
theorem trim1 (x : Int) : ztrimP [x] = if x = 0 then [] else [x] := by
  split
  · rename_i h; subst h; rfl
  · rename_i h; exact ztrimP_snoc [] h
theorem trim2 (x y : Int) : ztrimP [x, y] = if y = 0 then ztrimP [x] else [x, y] := by
  split
  · rename_i h; subst h; exact ztrimP_snoc_zero [x]
  · rename_i h; exact ztrimP_snoc [x] h
theorem lead2 (x y : Int) : zleadP [x, y] = y := rfl
theorem lead3 (x y z : Int) : zleadP [x, y, z] = z := rfl
theorem lead4 (x y z w : Int) : zleadP [x, y, z, w] = w := rfl
theorem tr2 {x y : Int} (h : y ≠ 0) : Trim [x, y] := ztrimP_snoc [x] h
theorem tr3 {x y z : Int} (h : z ≠ 0) : Trim [x, y, z] := ztrimP_snoc [x, y] h
theorem tr4 {x y z w : Int} (h : w ≠ 0) : Trim [x, y, z, w] := ztrimP_snoc [x, y, z] h
theorem rest_eq {a b c : List Int} (ha : Trim a) (hb : 0 < b.length) (hl : b.length ≤ a.length + 1) (hc : c.length = b.length - 1)
    (h : ∀ i, i < b.length - 1 → fml b (a.length + 1 - b.length) (fun i => a.getD i 0) i = c.getD i 0) : restP a b = ztrimP c := by
  refine (rest_trim ha).ext (trim_trim c) fun i => ?_
  rw [getD_trim]
  by_cases hi : i < b.length - 1
  · rw [rest_getD hb hl, h i hi]
  · rw [getD_of_le (a := c) (by omega), getD_of_le]
    have := rest_lt (a := a) hb
    omega
theorem two_cases {P : Nat → Prop} (h0 : P 0) (h1 : P 1) : ∀ i, i < 2 → P i := fun i hi => by
  rcases (by omega : i = 0 ∨ i = 1) with rfl | rfl
  · exact h0
  · exact h1
theorem rest43 (a0 a1 a2 a3 b0 b1 b2 : Int) (ha : a3 ≠ 0) :
    restP [a0, a1, a2, a3] [b0, b1, b2] = ztrimP [b2 * b2 * a0 - (b2 * a2 - a3 * b1) * b0, b2 * (b2 * a1 - a3 * b0) - (b2 * a2 - a3 * b1) * b1] := by
  refine rest_eq (tr4 ha) (by simp) (by simp) rfl (two_cases ?_ ?_)
  · show (a0 * b2 - 0) * b2 - b0 * (a2 * b2 - b1 * a3) = _
    show _ = b2 * b2 * a0 - (b2 * a2 - a3 * b1) * b0
    grind
  · show (a1 * b2 - b0 * a3) * b2 - b1 * (a2 * b2 - b1 * a3) = b2 * (b2 * a1 - a3 * b0) - (b2 * a2 - a3 * b1) * b1
    grind
theorem rest33 (a0 a1 a2 b0 b1 b2 : Int) (ha : a2 ≠ 0) : restP [a0, a1, a2] [b0, b1, b2] = ztrimP [b2 * a0 - a2 * b0, b2 * a1 - a2 * b1] := by
  refine rest_eq (tr3 ha) (by simp) (by simp) rfl (two_cases ?_ ?_)
  · show a0 * b2 - b0 * a2 = b2 * a0 - a2 * b0
    grind
  · show a1 * b2 - b1 * a2 = b2 * a1 - a2 * b1
    grind
theorem rest32 (a0 a1 a2 b0 b1 : Int) (ha : a2 ≠ 0) : restP [a0, a1, a2] [b0, b1] = ztrimP [a2 * b0 * b0 - a1 * b0 * b1 + a0 * b1 * b1] := by
  refine rest_eq (tr3 ha) (by simp) (by simp) rfl fun i hi => ?_
  rw [show i = 0 by simp at hi; omega]
  show (a0 * b1 - 0) * b1 - b0 * (a1 * b1 - b0 * a2) = a2 * b0 * b0 - a1 * b0 * b1 + a0 * b1 * b1
  grind
theorem rest42 (a0 a1 a2 a3 b0 b1 : Int) (ha : a3 ≠ 0) : restP [a0, a1, a2, a3] [b0, b1] = ztrimP [a0 * b1 * b1 * b1 - a1 * b0 * b1 * b1 + a2 * b0 * b0 * b1 - a3 * b0 * b0 * b0] := by
  refine rest_eq (tr4 ha) (by simp) (by simp) rfl fun i hi => ?_
  rw [show i = 0 by simp at hi; omega]
  show ((a0 * b1 - 0) * b1 - 0) * b1 - b0 * ((a1 * b1 - 0) * b1 - b0 * (a2 * b1 - b0 * a3)) = a0 * b1 * b1 * b1 - a1 * b0 * b1 * b1 + a2 * b0 * b0 * b1 - a3 * b0 * b0 * b0
  grind
theorem rest22 (a0 a1 b0 b1 : Int) (ha : a1 ≠ 0) : restP [a0, a1] [b0, b1] = ztrimP [a0 * b1 - a1 * b0] := by
  refine rest_eq (tr2 ha) (by simp) (by simp) rfl fun i hi => ?_
  rw [show i = 0 by simp at hi; omega]
  show a0 * b1 - b0 * a1 = a0 * b1 - a1 * b0
  grind
theorem divided_one (a : List Int) : dividedP a 1 = a := by
  unfold dividedP
  have : (fun x : Int => Int.fdiv x 1) = id := by funext x; simp
  rw [this, List.map_id]
theorem fdiv_mul {D R x : Int} (hD : D ≠ 0) (h : D * R = x) : Int.fdiv x D = R := by
  rw [← h]; exact Int.mul_fdiv_cancel_left R hD
/-- the second division of a quadratic by a remainder, and the end -/
theorem row_quad {b0 b1 b2 r0 r1 H s R : Int} (hb : b2 ≠ 0) (hH : H ≠ 0) (h : b2 * H * R = b2 * r0 * r0 - b1 * r0 * r1 + b0 * r1 * r1) :
    rowP 3 [b0, b1, b2] (ztrimP [r0, r1]) b2 H s = s * R := by
  have hD : b2 * H ≠ 0 := Int.mul_ne_zero hb hH
  rw [trim2]
  split
  · rename_i h1
    subst h1
    have e : r0 * r0 = H * R := by
      have : b2 * (r0 * r0) = b2 * (H * R) := by grind
      exact Int.eq_of_mul_eq_mul_left hb this
    rw [trim1]
    split
    · rename_i h0
      subst h0
      have : R = 0 := by
        have : H * R = 0 := by rw [← e]; rfl
        exact (Int.mul_eq_zero.mp this).resolve_left hH
      subst this
      rw [rowP_stop (by simp)]
      simp [rowEnd]
    · rw [rowP_stop (by simp)]
      show s * Int.fdiv (r0 ^ 2) (H ^ 1) = s * R
      rw [show r0 ^ 2 = r0 * r0 by grind, pow1 H, fdiv_mul hH e.symm]
  · rename_i h1
    rw [rowP_turn (by simp)]
    have e1 : rowB [b0, b1, b2] [r0, r1] b2 H = dividedP (ztrimP [b2 * r0 * r0 - b1 * r0 * r1 + b0 * r1 * r1]) (b2 * H) := by
      unfold rowB
      rw [rest32 _ _ _ _ _ hb]
      show dividedP _ (b2 * H ^ 1) = _
      rw [pow1 H]
    have e2 : rowH [b0, b1, b2] [r0, r1] H = r1 := by
      show Int.fdiv (r1 ^ 1) (H ^ 0) = r1
      rw [pow1]; simp
    have e3 : rowS [b0, b1, b2] [r0, r1] s = s := rowS_no 2 1 rfl rfl (by decide)
    rw [e1, e2, e3, ← h, trim1]
    split
    · rename_i h0
      have : R = 0 := (Int.mul_eq_zero.mp h0).resolve_left hD
      subst this
      show rowP (1 + 1) [r0, r1] [] _ _ s = _
      rw [rowP_stop (by simp)]
      simp [rowEnd]
    · show rowP (1 + 1) [r0, r1] [Int.fdiv (b2 * H * R) (b2 * H)] _ _ s = _
      rw [rowP_stop (by simp), fdiv_mul hD rfl]
      show s * Int.fdiv (R ^ 1) (r1 ^ 0) = s * R
      rw [pow1]; simp
theorem row_first {a b : List Int} {s : Int} (hb : ¬ b.length ≤ 1) : rowP 4 a b 1 1 s = rowP 3 b (restP a b) (zleadP b) (rowH a b 1) (rowS a b s) := by
  rw [rowP_turn hb]
  have : rowB a b 1 1 = restP a b := by
    unfold rowB
    rw [Int.one_pow, Int.one_mul, divided_one]
  rw [this]
theorem row43 {a0 a1 a2 a3 b0 b1 b2 r0 r1 R : Int} (ha : a3 ≠ 0) (hb : b2 ≠ 0) (h0 : r0 = b2 * b2 * a0 - (b2 * a2 - a3 * b1) * b0) (h1 : r1 = b2 * (b2 * a1 - a3 * b0) - (b2 * a2 - a3 * b1) * b1)
    (h : b2 * b2 * R = b2 * r0 * r0 - b1 * r0 * r1 + b0 * r1 * r1) : rowP 4 [a0, a1, a2, a3] [b0, b1, b2] 1 1 1 = R := by
  rw [row_first (by simp), rest43 _ _ _ _ _ _ _ ha, ← h0, ← h1]
  have e2 : rowH [a0, a1, a2, a3] [b0, b1, b2] 1 = b2 := by
    show Int.fdiv (b2 ^ 1) (1 ^ 0) = b2
    rw [pow1]; simp
  have e3 : rowS [a0, a1, a2, a3] [b0, b1, b2] 1 = 1 := rowS_no 3 2 rfl rfl (by decide)
  rw [e2, e3]
  show rowP 3 [b0, b1, b2] (ztrimP [r0, r1]) b2 b2 1 = R
  rw [row_quad hb hb h, Int.one_mul]
theorem row33 {a0 a1 a2 b0 b1 b2 r0 r1 R : Int} (ha : a2 ≠ 0) (hb : b2 ≠ 0) (h0 : r0 = b2 * a0 - a2 * b0) (h1 : r1 = b2 * a1 - a2 * b1)
    (h : b2 * R = b2 * r0 * r0 - b1 * r0 * r1 + b0 * r1 * r1) : rowP 4 [a0, a1, a2] [b0, b1, b2] 1 1 1 = R := by
  rw [row_first (by simp), rest33 _ _ _ _ _ _ ha, ← h0, ← h1]
  have e2 : rowH [a0, a1, a2] [b0, b1, b2] 1 = 1 := rfl
  have e3 : rowS [a0, a1, a2] [b0, b1, b2] 1 = 1 := rowS_no 2 2 rfl rfl (by decide)
  rw [e2, e3]
  show rowP 3 [b0, b1, b2] (ztrimP [r0, r1]) b2 1 1 = R
  rw [row_quad (R := R) hb (by decide) (by rw [Int.mul_one]; exact h), Int.one_mul]
/-- the end behind one division by a linear one -/
theorem row_lin {b0 b1 g H s ρ : Int} : rowP 3 [b0, b1] (ztrimP [ρ]) g H s = s * ρ := by
  rw [trim1]
  split
  · rename_i h
    subst h
    rw [rowP_stop (by simp)]
    simp [rowEnd]
  · rw [rowP_stop (by simp)]
    show s * Int.fdiv (ρ ^ 1) (H ^ 0) = s * ρ
    rw [pow1]; simp
theorem row32 {a0 a1 a2 b0 b1 : Int} (ha : a2 ≠ 0) : rowP 4 [a0, a1, a2] [b0, b1] 1 1 1 = a2 * b0 * b0 - a1 * b0 * b1 + a0 * b1 * b1 := by
  rw [row_first (by simp), rest32 _ _ _ _ _ ha, row_lin]
  have e3 : rowS [a0, a1, a2] [b0, b1] 1 = 1 := rowS_no 2 1 rfl rfl (by decide)
  rw [e3, Int.one_mul]
theorem row42 {a0 a1 a2 a3 b0 b1 : Int} (ha : a3 ≠ 0) : rowP 4 [a0, a1, a2, a3] [b0, b1] 1 1 1 = - (a0 * b1 * b1 * b1 - a1 * b0 * b1 * b1 + a2 * b0 * b0 * b1 - a3 * b0 * b0 * b0) := by
  rw [row_first (by simp), rest42 _ _ _ _ _ _ ha, row_lin]
  have e3 : rowS [a0, a1, a2, a3] [b0, b1] 1 = -1 := rowS_yes' 3 1 rfl rfl (by decide)
  rw [e3]; omega
theorem row22 {a0 a1 b0 b1 : Int} (ha : a1 ≠ 0) : rowP 4 [a0, a1] [b0, b1] 1 1 1 = - (a0 * b1 - a1 * b0) := by
  rw [row_first (by simp), rest22 _ _ _ _ ha, row_lin]
  have e3 : rowS [a0, a1] [b0, b1] 1 = -1 := rowS_yes' 1 1 rfl rfl (by decide)
  rw [e3]; omega
end
section
set_option maxRecDepth 4000
theorem foldg (a : List Int) : ∀ g : Int, (a.foldl (fun g x => (Int.gcd g x : Int)) g ∣ g) ∧ ∀ x ∈ a, a.foldl (fun g x => (Int.gcd g x : Int)) g ∣ x := by
  induction a with
  | nil => intro g; exact ⟨Int.dvd_refl _, fun x hx => absurd hx List.not_mem_nil⟩
  | cons y ys ih =>
    intro g
    obtain ⟨h1, h2⟩ := ih (Int.gcd g y : Int)
    rw [List.foldl_cons]
    refine ⟨Int.dvd_trans h1 (Int.gcd_dvd_left ..), fun x hx => ?_⟩
    rcases List.mem_cons.mp hx with rfl | hx
    · exact Int.dvd_trans h1 (Int.gcd_dvd_right ..)
    · exact h2 x hx
theorem gcdAll_dvd {a : List Int} {x : Int} (hx : x ∈ a) : gcdAllP a ∣ x := (foldg a 0).2 x hx
theorem gcdAll_ne {a : List Int} {x : Int} (hx : x ∈ a) (h : x ≠ 0) : gcdAllP a ≠ 0 := fun e => h (Int.zero_dvd.mp (e ▸ gcdAll_dvd hx))
theorem gcdAll_le {a : List Int} {x : Int} {B : Nat} (hx : x ∈ a) (h : x ≠ 0) (hB : x.natAbs ≤ B) : (gcdAllP a).natAbs ≤ B :=
  Nat.le_trans (Nat.le_of_dvd (by omega) (Int.natAbs_dvd_natAbs.mpr (gcdAll_dvd hx))) hB
theorem part_le {g x : Int} {B : Nat} (hg : g ≠ 0) (h : (g * x).natAbs ≤ B) : x.natAbs ≤ B := by
  rw [Int.natAbs_mul] at h
  have : 1 * x.natAbs ≤ g.natAbs * x.natAbs := Nat.mul_le_mul_right _ (by omega)
  omega
theorem part_ne {g x : Int} (h : g * x ≠ 0) : x ≠ 0 := fun e => h (by rw [e, Int.mul_zero])
theorem div_cons {g x : Int} {xs : List Int} (hg : g ≠ 0) : dividedP (g * x :: xs) g = x :: dividedP xs g := by
  unfold dividedP
  rw [List.map_cons, Int.mul_fdiv_cancel_left x hg]
theorem div_nil {g : Int} : dividedP [] g = [] := rfl
/-- a list by its content -/
theorem content4 {a0 a1 a2 a3 : Int} (ha : a3 ≠ 0) {P : Int → List Int → Int → Int → Int → Int → Prop}
    (h : ∀ g a0 a1 a2 a3 : Int, g ≠ 0 → gcdAllP [g * a0, g * a1, g * a2, g * a3] = g → dividedP [g * a0, g * a1, g * a2, g * a3] g = [a0, a1, a2, a3] → g * a3 ≠ 0 → P g [a0, a1, a2, a3] (g * a0) (g * a1) (g * a2) (g * a3)) :
    P (gcdAllP [a0, a1, a2, a3]) (dividedP [a0, a1, a2, a3] (gcdAllP [a0, a1, a2, a3])) a0 a1 a2 a3 := by
  have d0 : gcdAllP [a0, a1, a2, a3] ∣ a0 := gcdAll_dvd (by simp)
  have d1 : gcdAllP [a0, a1, a2, a3] ∣ a1 := gcdAll_dvd (by simp)
  have d2 : gcdAllP [a0, a1, a2, a3] ∣ a2 := gcdAll_dvd (by simp)
  have d3 : gcdAllP [a0, a1, a2, a3] ∣ a3 := gcdAll_dvd (by simp)
  have hg : gcdAllP [a0, a1, a2, a3] ≠ 0 := gcdAll_ne (x := a3) (by simp) ha
  generalize e : gcdAllP [a0, a1, a2, a3] = g at *
  obtain ⟨x0, rfl⟩ := d0
  obtain ⟨x1, rfl⟩ := d1
  obtain ⟨x2, rfl⟩ := d2
  obtain ⟨x3, rfl⟩ := d3
  have ed : dividedP [g * x0, g * x1, g * x2, g * x3] g = [x0, x1, x2, x3] := by simp only [div_cons hg, div_nil]
  have := h g x0 x1 x2 x3 hg e ed ha
  rwa [← ed] at this
theorem content3 {a0 a1 a2 : Int} (ha : a2 ≠ 0) {P : Int → List Int → Int → Int → Int → Prop}
    (h : ∀ g a0 a1 a2 : Int, g ≠ 0 → gcdAllP [g * a0, g * a1, g * a2] = g → dividedP [g * a0, g * a1, g * a2] g = [a0, a1, a2] → g * a2 ≠ 0 → P g [a0, a1, a2] (g * a0) (g * a1) (g * a2)) :
    P (gcdAllP [a0, a1, a2]) (dividedP [a0, a1, a2] (gcdAllP [a0, a1, a2])) a0 a1 a2 := by
  have d0 : gcdAllP [a0, a1, a2] ∣ a0 := gcdAll_dvd (by simp)
  have d1 : gcdAllP [a0, a1, a2] ∣ a1 := gcdAll_dvd (by simp)
  have d2 : gcdAllP [a0, a1, a2] ∣ a2 := gcdAll_dvd (by simp)
  have hg : gcdAllP [a0, a1, a2] ≠ 0 := gcdAll_ne (x := a2) (by simp) ha
  generalize e : gcdAllP [a0, a1, a2] = g at *
  obtain ⟨x0, rfl⟩ := d0
  obtain ⟨x1, rfl⟩ := d1
  obtain ⟨x2, rfl⟩ := d2
  have ed : dividedP [g * x0, g * x1, g * x2] g = [x0, x1, x2] := by simp only [div_cons hg, div_nil]
  have := h g x0 x1 x2 hg e ed ha
  rwa [← ed] at this
theorem content2 {a0 a1 : Int} (ha : a1 ≠ 0) {P : Int → List Int → Int → Int → Prop}
    (h : ∀ g a0 a1 : Int, g ≠ 0 → gcdAllP [g * a0, g * a1] = g → dividedP [g * a0, g * a1] g = [a0, a1] → g * a1 ≠ 0 → P g [a0, a1] (g * a0) (g * a1)) :
    P (gcdAllP [a0, a1]) (dividedP [a0, a1] (gcdAllP [a0, a1])) a0 a1 := by
  have d0 : gcdAllP [a0, a1] ∣ a0 := gcdAll_dvd (by simp)
  have d1 : gcdAllP [a0, a1] ∣ a1 := gcdAll_dvd (by simp)
  have hg : gcdAllP [a0, a1] ≠ 0 := gcdAll_ne (x := a1) (by simp) ha
  generalize e : gcdAllP [a0, a1] = g at *
  obtain ⟨x0, rfl⟩ := d0
  obtain ⟨x1, rfl⟩ := d1
  have ed : dividedP [g * x0, g * x1] g = [x0, x1] := by simp only [div_cons hg, div_nil]
  have := h g x0 x1 hg e ed ha
  rwa [← ed] at this
noncomputable def S43 (a0 a1 a2 a3 b0 b1 b2 : Int) : Int :=
  b0 * (b2 * a2 - a3 * b1) * (b0 * a2 - b1 * a1) + (b2 * a2 - a3 * b1) * a0 * (b1 * b1 - 2 * b2 * b0) + b2 * b2 * b2 * a0 * a0 - b1 * b2 * a0 * (b2 * a1 - a3 * b0) + b0 * (b2 * a1 - a3 * b0) * (b2 * a1 - a3 * b0)
noncomputable def S33 (a0 a1 a2 b0 b1 b2 : Int) : Int := (a0 * b2 - a2 * b0) * (a0 * b2 - a2 * b0) - (a0 * b1 - a1 * b0) * (a1 * b2 - a2 * b1)
noncomputable def S32 (a0 a1 a2 b0 b1 : Int) : Int := a2 * b0 * b0 - a1 * b0 * b1 + a0 * b1 * b1
noncomputable def S42 (a0 a1 a2 a3 b0 b1 : Int) : Int := - (a0 * b1 * b1 * b1 - a1 * b0 * b1 * b1 + a2 * b0 * b0 * b1 - a3 * b0 * b0 * b0)
noncomputable def S22 (a0 a1 b0 b1 : Int) : Int := - (a0 * b1 - a1 * b0)
theorem core43 {a0 a1 a2 a3 b0 b1 b2 : Int} (ha : a3 ≠ 0) (hb : b2 ≠ 0) : coreP [a0, a1, a2, a3] [b0, b1, b2] 1 = S43 a0 a1 a2 a3 b0 b1 b2 := by
  show gcdAllP _ ^ 2 * gcdAllP _ ^ 3 * rowP 4 (dividedP _ (gcdAllP _)) (dividedP _ (gcdAllP _)) 1 1 1 = _
  refine content4 (P := fun g a' a0 a1 a2 a3 => g ^ 2 * gcdAllP [b0, b1, b2] ^ 3 * rowP 4 a' (dividedP [b0, b1, b2] (gcdAllP [b0, b1, b2])) 1 1 1 = S43 a0 a1 a2 a3 b0 b1 b2) ha ?_
  intro g a0 a1 a2 a3 hg _ _ ha
  refine content3 (P := fun d b' b0 b1 b2 => g ^ 2 * d ^ 3 * rowP 4 [a0, a1, a2, a3] b' 1 1 1 = S43 (g * a0) (g * a1) (g * a2) (g * a3) b0 b1 b2) hb ?_
  intro d b0 b1 b2 hd _ _ hb
  rw [row43 (R := S43 a0 a1 a2 a3 b0 b1 b2) (part_ne ha) (part_ne hb) rfl rfl (by unfold S43; grind)]
  unfold S43
  grind
theorem core33 {a0 a1 a2 b0 b1 b2 : Int} (ha : a2 ≠ 0) (hb : b2 ≠ 0) : coreP [a0, a1, a2] [b0, b1, b2] 1 = S33 a0 a1 a2 b0 b1 b2 := by
  show gcdAllP _ ^ 2 * gcdAllP _ ^ 2 * rowP 4 (dividedP _ (gcdAllP _)) (dividedP _ (gcdAllP _)) 1 1 1 = _
  refine content3 (P := fun g a' a0 a1 a2 => g ^ 2 * gcdAllP [b0, b1, b2] ^ 2 * rowP 4 a' (dividedP [b0, b1, b2] (gcdAllP [b0, b1, b2])) 1 1 1 = S33 a0 a1 a2 b0 b1 b2) ha ?_
  intro g a0 a1 a2 hg _ _ ha
  refine content3 (P := fun d b' b0 b1 b2 => g ^ 2 * d ^ 2 * rowP 4 [a0, a1, a2] b' 1 1 1 = S33 (g * a0) (g * a1) (g * a2) b0 b1 b2) hb ?_
  intro d b0 b1 b2 hd _ _ hb
  rw [row33 (R := S33 a0 a1 a2 b0 b1 b2) (part_ne ha) (part_ne hb) rfl rfl (by unfold S33; grind)]
  unfold S33
  grind
theorem core32 {a0 a1 a2 b0 b1 : Int} (ha : a2 ≠ 0) (hb : b1 ≠ 0) : coreP [a0, a1, a2] [b0, b1] 1 = S32 a0 a1 a2 b0 b1 := by
  show gcdAllP _ ^ 1 * gcdAllP _ ^ 2 * rowP 4 (dividedP _ (gcdAllP _)) (dividedP _ (gcdAllP _)) 1 1 1 = _
  refine content3 (P := fun g a' a0 a1 a2 => g ^ 1 * gcdAllP [b0, b1] ^ 2 * rowP 4 a' (dividedP [b0, b1] (gcdAllP [b0, b1])) 1 1 1 = S32 a0 a1 a2 b0 b1) ha ?_
  intro g a0 a1 a2 hg _ _ ha
  refine content2 (P := fun d b' b0 b1 => g ^ 1 * d ^ 2 * rowP 4 [a0, a1, a2] b' 1 1 1 = S32 (g * a0) (g * a1) (g * a2) b0 b1) hb ?_
  intro d b0 b1 hd _ _ hb
  rw [row32 (part_ne ha)]
  unfold S32
  grind
theorem core42 {a0 a1 a2 a3 b0 b1 : Int} (ha : a3 ≠ 0) (hb : b1 ≠ 0) : coreP [a0, a1, a2, a3] [b0, b1] 1 = S42 a0 a1 a2 a3 b0 b1 := by
  show gcdAllP _ ^ 1 * gcdAllP _ ^ 3 * rowP 4 (dividedP _ (gcdAllP _)) (dividedP _ (gcdAllP _)) 1 1 1 = _
  refine content4 (P := fun g a' a0 a1 a2 a3 => g ^ 1 * gcdAllP [b0, b1] ^ 3 * rowP 4 a' (dividedP [b0, b1] (gcdAllP [b0, b1])) 1 1 1 = S42 a0 a1 a2 a3 b0 b1) ha ?_
  intro g a0 a1 a2 a3 hg _ _ ha
  refine content2 (P := fun d b' b0 b1 => g ^ 1 * d ^ 3 * rowP 4 [a0, a1, a2, a3] b' 1 1 1 = S42 (g * a0) (g * a1) (g * a2) (g * a3) b0 b1) hb ?_
  intro d b0 b1 hd _ _ hb
  rw [row42 (part_ne ha)]
  unfold S42
  grind
theorem core22 {a0 a1 b0 b1 : Int} (ha : a1 ≠ 0) (hb : b1 ≠ 0) : coreP [a0, a1] [b0, b1] 1 = S22 a0 a1 b0 b1 := by
  show gcdAllP _ ^ 1 * gcdAllP _ ^ 1 * rowP 4 (dividedP _ (gcdAllP _)) (dividedP _ (gcdAllP _)) 1 1 1 = _
  refine content2 (P := fun g a' a0 a1 => g ^ 1 * gcdAllP [b0, b1] ^ 1 * rowP 4 a' (dividedP [b0, b1] (gcdAllP [b0, b1])) 1 1 1 = S22 a0 a1 b0 b1) ha ?_
  intro g a0 a1 hg _ _ ha
  refine content2 (P := fun d b' b0 b1 => g ^ 1 * d ^ 1 * rowP 4 [a0, a1] b' 1 1 1 = S22 (g * a0) (g * a1) b0 b1) hb ?_
  intro d b0 b1 hd _ _ hb
  rw [row22 (part_ne ha)]
  unfold S22
  grind
theorem res43 {a0 a1 a2 a3 b0 b1 b2 : Int} (ha : a3 ≠ 0) (hb : b2 ≠ 0) : resultantP [a0, a1, a2, a3] [b0, b1, b2] = S43 a0 a1 a2 a3 b0 b1 b2 := by
  unfold resultantP
  rw [if_neg (by simp), core43 ha hb]
theorem res33 {a0 a1 a2 b0 b1 b2 : Int} (ha : a2 ≠ 0) (hb : b2 ≠ 0) : resultantP [a0, a1, a2] [b0, b1, b2] = S33 a0 a1 a2 b0 b1 b2 := by
  unfold resultantP
  rw [if_neg (by simp), core33 ha hb]
theorem res23 {a0 a1 b0 b1 b2 : Int} (ha : a1 ≠ 0) (hb : b2 ≠ 0) : resultantP [a0, a1] [b0, b1, b2] = S32 b0 b1 b2 a0 a1 := by
  unfold resultantP
  rw [if_pos (by simp)]
  have e : signP [b0, b1, b2] [a0, a1] = 1 := by
    show (if Int.fmod 2 2 = 1 ∧ Int.fmod 1 2 = 1 then (-1 : Int) else 1) = 1
    decide
  rw [e, core32 hb ha]
theorem res42 {a0 a1 a2 a3 b0 b1 : Int} (ha : a3 ≠ 0) (hb : b1 ≠ 0) : resultantP [a0, a1, a2, a3] [b0, b1] = S42 a0 a1 a2 a3 b0 b1 := by
  unfold resultantP
  rw [if_neg (by simp), core42 ha hb]
theorem res32 {a0 a1 a2 b0 b1 : Int} (ha : a2 ≠ 0) (hb : b1 ≠ 0) : resultantP [a0, a1, a2] [b0, b1] = S32 a0 a1 a2 b0 b1 := by
  unfold resultantP
  rw [if_neg (by simp), core32 ha hb]
theorem res22 {a0 a1 b0 b1 : Int} (ha : a1 ≠ 0) (hb : b1 ≠ 0) : resultantP [a0, a1] [b0, b1] = S22 a0 a1 b0 b1 := by
  unfold resultantP
  rw [if_neg (by simp), core22 ha hb]
end
section
set_option maxRecDepth 4000
/-- size bounds -/
noncomputable def Bd (x : Int) (B : Nat) : Prop := x.natAbs ≤ B
theorem Bd.mono {x : Int} {A B : Nat} (h : Bd x A) (hAB : A ≤ B) : Bd x B := Nat.le_trans h hAB
theorem Bd.mul {x y : Int} {A B : Nat} (hx : Bd x A) (hy : Bd y B) : Bd (x * y) (A * B) := by
  unfold Bd; rw [Int.natAbs_mul]; exact Nat.mul_le_mul hx hy
theorem Bd.add {x y : Int} {A B : Nat} (hx : Bd x A) (hy : Bd y B) : Bd (x + y) (A + B) := by unfold Bd at *; omega
theorem Bd.sub {x y : Int} {A B : Nat} (hx : Bd x A) (hy : Bd y B) : Bd (x - y) (A + B) := by unfold Bd at *; omega
theorem Bd.neg {x : Int} {A : Nat} (hx : Bd x A) : Bd (-x) A := by unfold Bd at *; omega
theorem Bd.pow {x : Int} {A : Nat} (hx : Bd x A) : ∀ k : Nat, Bd (x ^ k) (A ^ k)
  | 0 => by unfold Bd; simp
  | k + 1 => by rw [Int.pow_succ, Nat.pow_succ]; exact (Bd.pow hx k).mul hx
theorem Bd.sm {x : Int} {A : Nat} (hx : Bd x A) (h : A < 2 ^ 62) : Sm x := ⟨Nat.lt_of_le_of_lt hx h⟩
theorem Bd.powSm {x : Int} {A N : Nat} (hx : Bd x A) (h0 : 0 < A) (h : A ^ N < 2 ^ 62) : PowSm x N :=
  ⟨fun k hk => (Bd.pow hx k).sm (Nat.lt_of_le_of_lt (Nat.pow_le_pow_right h0 hk) h)⟩
theorem bd0 {B : Nat} : Bd 0 B := Nat.zero_le _
theorem bd1 {B : Nat} (h : 1 ≤ B) : Bd 1 B := h
theorem sml2 {x y : Int} (h1 : Sm x) (h2 : Sm y) : SmL [x, y] := fun z hz => by
  rcases List.mem_cons.mp hz with rfl | hz
  · exact h1
  · rw [List.mem_singleton.mp hz]; exact h2
theorem sml3 {x y z : Int} (h1 : Sm x) (h2 : Sm y) (h3 : Sm z) : SmL [x, y, z] := fun w hw => by
  rcases List.mem_cons.mp hw with rfl | hw
  · exact h1
  · exact sml2 h2 h3 w hw
theorem getD_nil0 : ([] : List Int).getD 0 0 = 0 := rfl
theorem getD_one (x : Int) : [x].getD 0 0 = x := rfl
theorem stop_of {a b : List Int} {n : Nat} {g h : Int} (hb : b.length ≤ 1) (la : a.length < 2 ^ 9) (sb : Sm (b.getD 0 0)) (sh : Sm h) (ph : PowSm h a.length) (h0 : h ≠ 0) : RowOk (n + 1) a b g h := by
  simp only [RowOk, if_pos hb]; exact ⟨la, sb, sh, ph, h0⟩
theorem turn_of {a b : List Int} {n : Nat} {g h : Int} (hb : ¬ b.length ≤ 1) (t : RowTurn a b g h) (r : RowOk n b (rowB a b g h) (zleadP b) (rowH a b h)) : RowOk (n + 1) a b g h := by
  simp only [RowOk, if_neg hb]; exact ⟨t, r⟩
theorem trim1_sm {x : Int} (h : Sm x) : (ztrimP [x]).length ≤ 1 ∧ Sm ((ztrimP [x]).getD 0 0) := by
  rw [trim1]
  split
  · exact ⟨by simp, ⟨by decide⟩⟩
  · exact ⟨by simp, h⟩
theorem quad_ok {b0 b1 b2 r0 r1 H R : Int} (k0 : Bd b0 64) (k1 : Bd b1 64) (k2 : Bd b2 64) (kH : Bd H 64) (q0 : Bd r0 (2 ^ 20)) (q1 : Bd r1 (2 ^ 20)) (hb : b2 ≠ 0) (hH : H ≠ 0) (h : b2 * H * R = b2 * r0 * r0 - b1 * r0 * r1 + b0 * r1 * r1) :
    RowOk 3 [b0, b1, b2] (ztrimP [r0, r1]) b2 H := by
  have hD : b2 * H ≠ 0 := Int.mul_ne_zero hb hH
  rw [trim2]
  split
  · have x := trim1_sm (q0.sm (by decide))
    exact stop_of x.1 (by simp only [List.length_cons, List.length_nil]; decide) x.2 (kH.sm (by decide)) (kH.powSm (by decide) (by simp only [List.length_cons, List.length_nil]; decide)) hH
  · rename_i h1
    have eH : H ^ 1 = H := pow1 H
    have e2 : rowH [b0, b1, b2] [r0, r1] H = r1 := by
      show Int.fdiv (r1 ^ 1) (H ^ 0) = r1
      rw [pow1]; simp
    have e1 : rowB [b0, b1, b2] [r0, r1] b2 H = dividedP (ztrimP [b2 * H * R]) (b2 * H) := by
      unfold rowB
      rw [rest32 _ _ _ _ _ hb, ← h]
      show dividedP _ (b2 * H ^ 1) = _
      rw [eH]
    have bR : Bd R (2 ^ 50) := by
      refine part_le hD ?_
      rw [h]
      exact ((((k2.mul q0).mul q0).sub ((k1.mul q0).mul q1)).add ((k0.mul q1).mul q1)).mono (by decide)
    refine turn_of (by simp) ⟨by simp, by simp, sml2 (q0.sm (by decide)) (q1.sm (by decide)), q1.sm (by decide), q1.powSm (by decide) (by simp only [List.length_cons, List.length_nil]; decide), k2.sm (by decide), kH.sm (by decide), kH.powSm (by decide) (by simp only [List.length_cons, List.length_nil]; decide), ⟨?_⟩, ?_, hH⟩ ?_
    · show b2 * H ^ 1 ≠ 0
      rw [eH]; exact hD
    · show Sm (b2 * H ^ 1)
      rw [eH]; exact (k2.mul kH).sm (by decide)
    · rw [e1, e2]
      have x : (dividedP (ztrimP [b2 * H * R]) (b2 * H)).length ≤ 1 ∧ Sm ((dividedP (ztrimP [b2 * H * R]) (b2 * H)).getD 0 0) := by
        rw [trim1]
        split
        · exact ⟨by simp [dividedP], ⟨by simp [dividedP]⟩⟩
        · rw [div_cons hD, div_nil]
          exact ⟨by simp, bR.sm (by decide)⟩
      exact stop_of x.1 (by simp only [List.length_cons, List.length_nil]; decide) x.2 (q1.sm (by decide)) (q1.powSm (by decide) (by simp only [List.length_cons, List.length_nil]; decide)) h1
theorem lin_ok {b0 b1 ρ g H : Int} (kH : Bd H (2 ^ 20)) (q : Bd ρ (2 ^ 50)) (hH : H ≠ 0) : RowOk 3 [b0, b1] (ztrimP [ρ]) g H := by
  have x := trim1_sm (q.sm (by decide))
  exact stop_of x.1 (by simp only [List.length_cons, List.length_nil]; decide) x.2 (kH.sm (by decide)) (kH.powSm (by decide) (by simp only [List.length_cons, List.length_nil]; decide)) hH
theorem first_ok {a b : List Int} (hb : ¬ b.length ≤ 1) (hl : b.length ≤ a.length) (ha : a.length ≤ 4) (sb : SmL b) (kz : Bd (zleadP b) 64) (r : RowOk 3 b (restP a b) (zleadP b) (rowH a b 1)) : RowOk 4 a b 1 1 := by
  have e : (1 : Int) * 1 ^ (gapI a b).toNat = 1 := by rw [Int.one_pow, Int.one_mul]
  refine turn_of hb ⟨by omega, hl, sb, kz.sm (by decide), ?_, sm_one, sm_one, ?_, ⟨by rw [e]; decide⟩, by rw [e]; exact sm_one, by decide⟩ ?_
  · exact ⟨fun k hk => (Bd.pow kz k).sm (Nat.lt_of_le_of_lt (Nat.pow_le_pow_right (by decide) (Nat.le_trans hk ha)) (by decide))⟩
  · exact ⟨fun k _ => by rw [Int.one_pow]; exact sm_one⟩
  · have : rowB a b 1 1 = restP a b := by
      unfold rowB
      rw [e, divided_one]
    rw [this]; exact r
theorem ok43 {a0 a1 a2 a3 b0 b1 b2 : Int} (ha : a3 ≠ 0) (hb : b2 ≠ 0) (m0 : Bd a0 64) (m1 : Bd a1 64) (m2 : Bd a2 64) (m3 : Bd a3 64) (k0 : Bd b0 64) (k1 : Bd b1 64) (k2 : Bd b2 64) : RowOk 4 [a0, a1, a2, a3] [b0, b1, b2] 1 1 := by
  refine first_ok (by simp) (by simp) (by simp) (sml3 (k0.sm (by decide)) (k1.sm (by decide)) (k2.sm (by decide))) k2 ?_
  rw [rest43 _ _ _ _ _ _ _ ha]
  have e2 : rowH [a0, a1, a2, a3] [b0, b1, b2] 1 = b2 := by
    show Int.fdiv (b2 ^ 1) (1 ^ 0) = b2
    rw [pow1]; simp
  rw [e2]
  refine quad_ok (R := S43 a0 a1 a2 a3 b0 b1 b2) k0 k1 k2 k2 ?_ ?_ hb hb (by unfold S43; grind)
  · exact (((k2.mul k2).mul m0).sub (((k2.mul m2).sub (m3.mul k1)).mul k0)).mono (by decide)
  · exact ((k2.mul ((k2.mul m1).sub (m3.mul k0))).sub (((k2.mul m2).sub (m3.mul k1)).mul k1)).mono (by decide)
theorem ok33 {a0 a1 a2 b0 b1 b2 : Int} (ha : a2 ≠ 0) (hb : b2 ≠ 0) (m0 : Bd a0 64) (m1 : Bd a1 64) (m2 : Bd a2 64) (k0 : Bd b0 64) (k1 : Bd b1 64) (k2 : Bd b2 64) : RowOk 4 [a0, a1, a2] [b0, b1, b2] 1 1 := by
  refine first_ok (by simp) (by simp) (by simp) (sml3 (k0.sm (by decide)) (k1.sm (by decide)) (k2.sm (by decide))) k2 ?_
  rw [rest33 _ _ _ _ _ _ ha]
  have e2 : rowH [a0, a1, a2] [b0, b1, b2] 1 = 1 := rfl
  rw [e2]
  refine quad_ok (R := S33 a0 a1 a2 b0 b1 b2) k0 k1 k2 (bd1 (by decide)) ?_ ?_ hb (by decide) (by unfold S33; grind)
  · exact ((k2.mul m0).sub (m2.mul k0)).mono (by decide)
  · exact ((k2.mul m1).sub (m2.mul k1)).mono (by decide)
theorem ok32 {a0 a1 a2 b0 b1 : Int} (ha : a2 ≠ 0) (hb : b1 ≠ 0) (m0 : Bd a0 64) (m1 : Bd a1 64) (m2 : Bd a2 64) (k0 : Bd b0 64) (k1 : Bd b1 64) : RowOk 4 [a0, a1, a2] [b0, b1] 1 1 := by
  refine first_ok (by simp) (by simp) (by simp) (sml2 (k0.sm (by decide)) (k1.sm (by decide))) k1 ?_
  rw [rest32 _ _ _ _ _ ha]
  have e2 : rowH [a0, a1, a2] [b0, b1] 1 = b1 := by
    show Int.fdiv (b1 ^ 1) (1 ^ 0) = b1
    rw [pow1]; simp
  rw [e2]
  exact lin_ok (k1.mono (by decide)) (((((m2.mul k0).mul k0).sub ((m1.mul k0).mul k1)).add ((m0.mul k1).mul k1)).mono (by decide)) hb
theorem ok42 {a0 a1 a2 a3 b0 b1 : Int} (ha : a3 ≠ 0) (hb : b1 ≠ 0) (m0 : Bd a0 64) (m1 : Bd a1 64) (m2 : Bd a2 64) (m3 : Bd a3 64) (k0 : Bd b0 64) (k1 : Bd b1 64) : RowOk 4 [a0, a1, a2, a3] [b0, b1] 1 1 := by
  refine first_ok (by simp) (by simp) (by simp) (sml2 (k0.sm (by decide)) (k1.sm (by decide))) k1 ?_
  rw [rest42 _ _ _ _ _ _ ha]
  have e2 : rowH [a0, a1, a2, a3] [b0, b1] 1 = b1 * b1 := by
    show Int.fdiv (b1 ^ 2) (1 ^ 1) = b1 * b1
    rw [show b1 ^ 2 = b1 * b1 by grind, pow1]; simp
  rw [e2]
  exact lin_ok ((k1.mul k1).mono (by decide)) (((((((m0.mul k1).mul k1).mul k1).sub (((m1.mul k0).mul k1).mul k1)).add (((m2.mul k0).mul k0).mul k1)).sub (((m3.mul k0).mul k0).mul k0)).mono (by decide)) (Int.mul_ne_zero hb hb)
theorem ok22 {a0 a1 b0 b1 : Int} (ha : a1 ≠ 0) (_hb : b1 ≠ 0) (m0 : Bd a0 64) (m1 : Bd a1 64) (k0 : Bd b0 64) (k1 : Bd b1 64) : RowOk 4 [a0, a1] [b0, b1] 1 1 := by
  refine first_ok (by simp) (by simp) (by simp) (sml2 (k0.sm (by decide)) (k1.sm (by decide))) k1 ?_
  rw [rest22 _ _ _ _ ha]
  have e2 : rowH [a0, a1] [b0, b1] 1 = 1 := rfl
  rw [e2]
  exact lin_ok (bd1 (by decide)) (((m0.mul k1).sub (m1.mul k0)).mono (by decide)) (by decide)
end
section
set_option maxRecDepth 4000
theorem parts4 {a0 a1 a2 a3 : Int} (ha : a3 ≠ 0) (m0 : Bd a0 64) (m1 : Bd a1 64) (m2 : Bd a2 64) (m3 : Bd a3 64) :
    ∃ x0 x1 x2 x3, dividedP [a0, a1, a2, a3] (gcdAllP [a0, a1, a2, a3]) = [x0, x1, x2, x3] ∧ x3 ≠ 0 ∧ Bd x0 64 ∧ Bd x1 64 ∧ Bd x2 64 ∧ Bd x3 64 := by
  refine content4 (P := fun _ a' a0 a1 a2 a3 => Bd a0 64 → Bd a1 64 → Bd a2 64 → Bd a3 64 → ∃ x0 x1 x2 x3, a' = [x0, x1, x2, x3] ∧ x3 ≠ 0 ∧ Bd x0 64 ∧ Bd x1 64 ∧ Bd x2 64 ∧ Bd x3 64) ha ?_ m0 m1 m2 m3
  intro g x0 x1 x2 x3 hg _ _ ha n0 n1 n2 n3
  exact ⟨x0, x1, x2, x3, rfl, part_ne ha, part_le hg n0, part_le hg n1, part_le hg n2, part_le hg n3⟩
theorem parts3 {a0 a1 a2 : Int} (ha : a2 ≠ 0) (m0 : Bd a0 64) (m1 : Bd a1 64) (m2 : Bd a2 64) :
    ∃ x0 x1 x2, dividedP [a0, a1, a2] (gcdAllP [a0, a1, a2]) = [x0, x1, x2] ∧ x2 ≠ 0 ∧ Bd x0 64 ∧ Bd x1 64 ∧ Bd x2 64 := by
  refine content3 (P := fun _ a' a0 a1 a2 => Bd a0 64 → Bd a1 64 → Bd a2 64 → ∃ x0 x1 x2, a' = [x0, x1, x2] ∧ x2 ≠ 0 ∧ Bd x0 64 ∧ Bd x1 64 ∧ Bd x2 64) ha ?_ m0 m1 m2
  intro g x0 x1 x2 hg _ _ ha n0 n1 n2
  exact ⟨x0, x1, x2, rfl, part_ne ha, part_le hg n0, part_le hg n1, part_le hg n2⟩
theorem parts2 {a0 a1 : Int} (ha : a1 ≠ 0) (m0 : Bd a0 64) (m1 : Bd a1 64) :
    ∃ x0 x1, dividedP [a0, a1] (gcdAllP [a0, a1]) = [x0, x1] ∧ x1 ≠ 0 ∧ Bd x0 64 ∧ Bd x1 64 := by
  refine content2 (P := fun _ a' a0 a1 => Bd a0 64 → Bd a1 64 → ∃ x0 x1, a' = [x0, x1] ∧ x1 ≠ 0 ∧ Bd x0 64 ∧ Bd x1 64) ha ?_ m0 m1
  intro g x0 x1 hg _ _ ha n0 n1
  exact ⟨x0, x1, rfl, part_ne ha, part_le hg n0, part_le hg n1⟩
theorem core_ok {a b : List Int} {x y : Int} (la : 0 < a.length ∧ a.length ≤ 4) (lb : 0 < b.length ∧ b.length ≤ 4) (hx : x ∈ a) (hx0 : x ≠ 0) (bx : Bd x 64) (hy : y ∈ b) (hy0 : y ≠ 0) (by' : Bd y 64)
    (ok : RowOk 4 (dividedP a (gcdAllP a)) (dividedP b (gcdAllP b)) 1 1) : CoreOk a b := by
  have ga : Bd (gcdAllP a) 64 := gcdAll_le hx hx0 bx
  have gb : Bd (gcdAllP b) 64 := gcdAll_le hy hy0 by'
  have pw : ∀ {g : Int} {k : Nat}, Bd g 64 → k ≤ 4 → Bd (g ^ k) (2 ^ 24) := fun hg hk => (Bd.pow hg _).mono (Nat.le_trans (Nat.pow_le_pow_right (by decide) hk) (by decide))
  refine ⟨⟨la.1, by omega⟩, ⟨lb.1, by omega⟩, ⟨gcdAll_ne hx hx0⟩, ⟨gcdAll_ne hy hy0⟩, ga.sm (by decide), gb.sm (by decide), ⟨fun k hk => (pw ga (by omega)).sm (by decide)⟩, ⟨fun k hk => (pw gb (by omega)).sm (by decide)⟩, ?_, ok⟩
  exact ((pw ga (by omega)).mul (pw gb (by omega))).sm (by decide)
theorem resok43 {a0 a1 a2 a3 b0 b1 b2 : Int} (ha : a3 ≠ 0) (hb : b2 ≠ 0) (m0 : Bd a0 64) (m1 : Bd a1 64) (m2 : Bd a2 64) (m3 : Bd a3 64) (k0 : Bd b0 64) (k1 : Bd b1 64) (k2 : Bd b2 64) : ResOk [a0, a1, a2, a3] [b0, b1, b2] := by
  unfold ResOk
  rw [if_neg (by simp)]
  refine core_ok (x := a3) (y := b2) (by simp) (by simp) (by simp) ha m3 (by simp) hb k2 ?_
  obtain ⟨x0, x1, x2, x3, e, hx, n0, n1, n2, n3⟩ := parts4 ha m0 m1 m2 m3
  obtain ⟨y0, y1, y2, e', hy, j0, j1, j2⟩ := parts3 hb k0 k1 k2
  rw [e, e']
  exact ok43 hx hy n0 n1 n2 n3 j0 j1 j2
theorem resok33 {a0 a1 a2 b0 b1 b2 : Int} (ha : a2 ≠ 0) (hb : b2 ≠ 0) (m0 : Bd a0 64) (m1 : Bd a1 64) (m2 : Bd a2 64) (k0 : Bd b0 64) (k1 : Bd b1 64) (k2 : Bd b2 64) : ResOk [a0, a1, a2] [b0, b1, b2] := by
  unfold ResOk
  rw [if_neg (by simp)]
  refine core_ok (x := a2) (y := b2) (by simp) (by simp) (by simp) ha m2 (by simp) hb k2 ?_
  obtain ⟨x0, x1, x2, e, hx, n0, n1, n2⟩ := parts3 ha m0 m1 m2
  obtain ⟨y0, y1, y2, e', hy, j0, j1, j2⟩ := parts3 hb k0 k1 k2
  rw [e, e']
  exact ok33 hx hy n0 n1 n2 j0 j1 j2
theorem resok23 {a0 a1 b0 b1 b2 : Int} (ha : a1 ≠ 0) (hb : b2 ≠ 0) (m0 : Bd a0 64) (m1 : Bd a1 64) (k0 : Bd b0 64) (k1 : Bd b1 64) (k2 : Bd b2 64) : ResOk [a0, a1] [b0, b1, b2] := by
  unfold ResOk
  rw [if_pos (by simp)]
  refine core_ok (x := b2) (y := a1) (by simp) (by simp) (by simp) hb k2 (by simp) ha m1 ?_
  obtain ⟨x0, x1, e, hx, n0, n1⟩ := parts2 ha m0 m1
  obtain ⟨y0, y1, y2, e', hy, j0, j1, j2⟩ := parts3 hb k0 k1 k2
  rw [e, e']
  exact ok32 hy hx j0 j1 j2 n0 n1
theorem resok42 {a0 a1 a2 a3 b0 b1 : Int} (ha : a3 ≠ 0) (hb : b1 ≠ 0) (m0 : Bd a0 64) (m1 : Bd a1 64) (m2 : Bd a2 64) (m3 : Bd a3 64) (k0 : Bd b0 64) (k1 : Bd b1 64) : ResOk [a0, a1, a2, a3] [b0, b1] := by
  unfold ResOk
  rw [if_neg (by simp)]
  refine core_ok (x := a3) (y := b1) (by simp) (by simp) (by simp) ha m3 (by simp) hb k1 ?_
  obtain ⟨x0, x1, x2, x3, e, hx, n0, n1, n2, n3⟩ := parts4 ha m0 m1 m2 m3
  obtain ⟨y0, y1, e', hy, j0, j1⟩ := parts2 hb k0 k1
  rw [e, e']
  exact ok42 hx hy n0 n1 n2 n3 j0 j1
theorem resok32 {a0 a1 a2 b0 b1 : Int} (ha : a2 ≠ 0) (hb : b1 ≠ 0) (m0 : Bd a0 64) (m1 : Bd a1 64) (m2 : Bd a2 64) (k0 : Bd b0 64) (k1 : Bd b1 64) : ResOk [a0, a1, a2] [b0, b1] := by
  unfold ResOk
  rw [if_neg (by simp)]
  refine core_ok (x := a2) (y := b1) (by simp) (by simp) (by simp) ha m2 (by simp) hb k1 ?_
  obtain ⟨x0, x1, x2, e, hx, n0, n1, n2⟩ := parts3 ha m0 m1 m2
  obtain ⟨y0, y1, e', hy, j0, j1⟩ := parts2 hb k0 k1
  rw [e, e']
  exact ok32 hx hy n0 n1 n2 j0 j1
theorem resok22 {a0 a1 b0 b1 : Int} (ha : a1 ≠ 0) (hb : b1 ≠ 0) (m0 : Bd a0 64) (m1 : Bd a1 64) (k0 : Bd b0 64) (k1 : Bd b1 64) : ResOk [a0, a1] [b0, b1] := by
  unfold ResOk
  rw [if_neg (by simp)]
  refine core_ok (x := a1) (y := b1) (by simp) (by simp) (by simp) ha m1 (by simp) hb k1 ?_
  obtain ⟨x0, x1, e, hx, n0, n1⟩ := parts2 ha m0 m1
  obtain ⟨y0, y1, e', hy, j0, j1⟩ := parts2 hb k0 k1
  rw [e, e']
  exact ok22 hx hy n0 n1 j0 j1
end
section
set_option maxRecDepth 4000
theorem tvRow_one (k x : Int) : tvRow k [x] = [] := rfl
theorem tvRow_two (k x y : Int) (r : List Int) : tvRow k (x :: y :: r) = Int.fdiv (y - x) (k + 1) :: tvRow k (y :: r) := by
  unfold tvRow
  show (List.range (r.length + 1)).map _ = _ :: (List.range r.length).map _
  rw [List.range_succ_eq_map, List.map_cons, List.map_map]
  rfl
theorem row_cons {k x y z : Int} {r r' : List Int} (h0 : k + 1 ≠ 0) (h : (k + 1) * z = y - x) (h' : tvRow k (y :: r) = r') : tvRow k (x :: y :: r) = z :: r' := by
  rw [tvRow_two, fdiv_mul h0 h, h']
theorem tv_step {ns : List Int} {i : Nat} {F B R B' R' : List Int} (h : tvPre ns i = (F, B, R)) (hB : zmulP B [-(i : Int), 1] = B') (hR : tvRow i R = R') : tvPre ns (i + 1) = (zaddP F (zscaleP B (R.getD 0 0)), B', R') := by
  show tvStep i (tvPre ns i) = _
  rw [h]
  unfold tvStep
  rw [← hB, ← hR]
theorem spn {i n : Nat} (h : n ≤ i) : i = n ∨ n + 1 ≤ i := (Nat.eq_or_lt_of_le h).imp Eq.symm id
theorem sp1 (i : Nat) : i = 0 ∨ 1 ≤ i := spn (Nat.zero_le i)
theorem sp2 (i : Nat) : i = 0 ∨ i = 1 ∨ 2 ≤ i := spn (Nat.zero_le i) |>.imp_right fun h =>  spn h
theorem sp3 (i : Nat) : i = 0 ∨ i = 1 ∨ i = 2 ∨ 3 ≤ i := spn (Nat.zero_le i) |>.imp_right fun h => (spn h).imp_right fun h => spn h
theorem sp4 (i : Nat) : i = 0 ∨ i = 1 ∨ i = 2 ∨ i = 3 ∨ 4 ≤ i := spn (Nat.zero_le i) |>.imp_right fun h => (spn h).imp_right fun h => (spn h).imp_right fun h => spn h
theorem sp5 (i : Nat) : i = 0 ∨ i = 1 ∨ i = 2 ∨ i = 3 ∨ i = 4 ∨ 5 ≤ i := spn (Nat.zero_le i) |>.imp_right fun h => (spn h).imp_right fun h => (spn h).imp_right fun h => (spn h).imp_right fun h => spn h
theorem sp6 (i : Nat) : i = 0 ∨ i = 1 ∨ i = 2 ∨ i = 3 ∨ i = 4 ∨ i = 5 ∨ 6 ≤ i := spn (Nat.zero_le i) |>.imp_right fun h => (spn h).imp_right fun h => (spn h).imp_right fun h => (spn h).imp_right fun h => (spn h).imp_right fun h => spn h
theorem sp7 (i : Nat) : i = 0 ∨ i = 1 ∨ i = 2 ∨ i = 3 ∨ i = 4 ∨ i = 5 ∨ i = 6 ∨ 7 ≤ i := spn (Nat.zero_le i) |>.imp_right fun h => (spn h).imp_right fun h => (spn h).imp_right fun h => (spn h).imp_right fun h => (spn h).imp_right fun h => (spn h).imp_right fun h => spn h
theorem tv2 (n0 n1 : Int) : through_valuesP [n0, n0 + n1] = ztrimP [n0, n1] := by
  have s0 : tvPre [n0, n0 + n1] 0 = ([], [1], [n0, n0 + n1]) := rfl
  have s1 := tv_step (B' := [0, 1]) (R' := [n1]) s0 (by decide) (by
    repeat (first | exact rfl | refine row_cons (by decide) (by grind) ?_))
  have s2 := tv_step (B' := [0, -1, 1]) (R' := []) s1 (by decide) (by
    repeat (first | exact rfl | refine row_cons (by decide) (by grind) ?_))
  unfold through_valuesP
  show (tvPre _ 2).1 = _
  rw [s2]
  dsimp only
  refine Trim.ext (zadd_trim _ _) (trim_trim _) fun i => ?_
  simp only [zadd_getD, zscale_getD, getD_trim]
  rcases (sp2 i : i = 0 ∨ i = 1 ∨ 2 ≤ i) with rfl | rfl | hi
  · simp only [List.getD_cons_zero, List.getD_cons_succ, List.getD_nil]
    grind
  · simp only [List.getD_cons_zero, List.getD_cons_succ, List.getD_nil]
    grind
  · simp only [getD_of_le (a := []) (Nat.zero_le _), getD_of_le (a := [1]) (show 1 ≤ i from Nat.le_trans (by decide) hi), getD_of_le (a := [0, 1]) (show 2 ≤ i from Nat.le_trans (by decide) hi), getD_of_le (a := [n0, n1]) (show 2 ≤ i from Nat.le_trans (by decide) hi)]
    simp only [Int.zero_mul, Int.zero_add, Int.add_zero]
theorem tv3 (n0 n1 n2 : Int) : through_valuesP [n0, n0 + n1 + n2, n0 + 2 * n1 + 4 * n2] = ztrimP [n0, n1, n2] := by
  have s0 : tvPre [n0, n0 + n1 + n2, n0 + 2 * n1 + 4 * n2] 0 = ([], [1], [n0, n0 + n1 + n2, n0 + 2 * n1 + 4 * n2]) := rfl
  have s1 := tv_step (B' := [0, 1]) (R' := [n1 + n2, n1 + 3 * n2]) s0 (by decide) (by
    repeat (first | exact rfl | refine row_cons (by decide) (by grind) ?_))
  have s2 := tv_step (B' := [0, -1, 1]) (R' := [n2]) s1 (by decide) (by
    repeat (first | exact rfl | refine row_cons (by decide) (by grind) ?_))
  have s3 := tv_step (B' := [0, 2, -3, 1]) (R' := []) s2 (by decide) (by
    repeat (first | exact rfl | refine row_cons (by decide) (by grind) ?_))
  unfold through_valuesP
  show (tvPre _ 3).1 = _
  rw [s3]
  dsimp only
  refine Trim.ext (zadd_trim _ _) (trim_trim _) fun i => ?_
  simp only [zadd_getD, zscale_getD, getD_trim]
  rcases (sp3 i : i = 0 ∨ i = 1 ∨ i = 2 ∨ 3 ≤ i) with rfl | rfl | rfl | hi
  · simp only [List.getD_cons_zero, List.getD_cons_succ, List.getD_nil]
    grind
  · simp only [List.getD_cons_zero, List.getD_cons_succ, List.getD_nil]
    grind
  · simp only [List.getD_cons_zero, List.getD_cons_succ, List.getD_nil]
    grind
  · simp only [getD_of_le (a := []) (Nat.zero_le _), getD_of_le (a := [1]) (show 1 ≤ i from Nat.le_trans (by decide) hi), getD_of_le (a := [0, 1]) (show 2 ≤ i from Nat.le_trans (by decide) hi), getD_of_le (a := [0, -1, 1]) (show 3 ≤ i from Nat.le_trans (by decide) hi), getD_of_le (a := [n0, n1, n2]) (show 3 ≤ i from Nat.le_trans (by decide) hi)]
    simp only [Int.zero_mul, Int.zero_add, Int.add_zero]
theorem tv4 (n0 n1 n2 n3 : Int) : through_valuesP [n0, n0 + n1 + n2 + n3, n0 + 2 * n1 + 4 * n2 + 8 * n3, n0 + 3 * n1 + 9 * n2 + 27 * n3] = ztrimP [n0, n1, n2, n3] := by
  have s0 : tvPre [n0, n0 + n1 + n2 + n3, n0 + 2 * n1 + 4 * n2 + 8 * n3, n0 + 3 * n1 + 9 * n2 + 27 * n3] 0 = ([], [1], [n0, n0 + n1 + n2 + n3, n0 + 2 * n1 + 4 * n2 + 8 * n3, n0 + 3 * n1 + 9 * n2 + 27 * n3]) := rfl
  have s1 := tv_step (B' := [0, 1]) (R' := [n1 + n2 + n3, n1 + 3 * n2 + 7 * n3, n1 + 5 * n2 + 19 * n3]) s0 (by decide) (by
    repeat (first | exact rfl | refine row_cons (by decide) (by grind) ?_))
  have s2 := tv_step (B' := [0, -1, 1]) (R' := [n2 + 3 * n3, n2 + 6 * n3]) s1 (by decide) (by
    repeat (first | exact rfl | refine row_cons (by decide) (by grind) ?_))
  have s3 := tv_step (B' := [0, 2, -3, 1]) (R' := [n3]) s2 (by decide) (by
    repeat (first | exact rfl | refine row_cons (by decide) (by grind) ?_))
  have s4 := tv_step (B' := [0, -6, 11, -6, 1]) (R' := []) s3 (by decide) (by
    repeat (first | exact rfl | refine row_cons (by decide) (by grind) ?_))
  unfold through_valuesP
  show (tvPre _ 4).1 = _
  rw [s4]
  dsimp only
  refine Trim.ext (zadd_trim _ _) (trim_trim _) fun i => ?_
  simp only [zadd_getD, zscale_getD, getD_trim]
  rcases (sp4 i : i = 0 ∨ i = 1 ∨ i = 2 ∨ i = 3 ∨ 4 ≤ i) with rfl | rfl | rfl | rfl | hi
  · simp only [List.getD_cons_zero, List.getD_cons_succ, List.getD_nil]
    grind
  · simp only [List.getD_cons_zero, List.getD_cons_succ, List.getD_nil]
    grind
  · simp only [List.getD_cons_zero, List.getD_cons_succ, List.getD_nil]
    grind
  · simp only [List.getD_cons_zero, List.getD_cons_succ, List.getD_nil]
    grind
  · simp only [getD_of_le (a := []) (Nat.zero_le _), getD_of_le (a := [1]) (show 1 ≤ i from Nat.le_trans (by decide) hi), getD_of_le (a := [0, 1]) (show 2 ≤ i from Nat.le_trans (by decide) hi), getD_of_le (a := [0, -1, 1]) (show 3 ≤ i from Nat.le_trans (by decide) hi), getD_of_le (a := [0, 2, -3, 1]) (show 4 ≤ i from Nat.le_trans (by decide) hi), getD_of_le (a := [n0, n1, n2, n3]) (show 4 ≤ i from Nat.le_trans (by decide) hi)]
    simp only [Int.zero_mul, Int.zero_add, Int.add_zero]
theorem tv5 (n0 n1 n2 n3 n4 : Int) : through_valuesP [n0, n0 + n1 + n2 + n3 + n4, n0 + 2 * n1 + 4 * n2 + 8 * n3 + 16 * n4, n0 + 3 * n1 + 9 * n2 + 27 * n3 + 81 * n4, n0 + 4 * n1 + 16 * n2 + 64 * n3 + 256 * n4] = ztrimP [n0, n1, n2, n3, n4] := by
  have s0 : tvPre [n0, n0 + n1 + n2 + n3 + n4, n0 + 2 * n1 + 4 * n2 + 8 * n3 + 16 * n4, n0 + 3 * n1 + 9 * n2 + 27 * n3 + 81 * n4, n0 + 4 * n1 + 16 * n2 + 64 * n3 + 256 * n4] 0 = ([], [1], [n0, n0 + n1 + n2 + n3 + n4, n0 + 2 * n1 + 4 * n2 + 8 * n3 + 16 * n4, n0 + 3 * n1 + 9 * n2 + 27 * n3 + 81 * n4, n0 + 4 * n1 + 16 * n2 + 64 * n3 + 256 * n4]) := rfl
  have s1 := tv_step (B' := [0, 1]) (R' := [n1 + n2 + n3 + n4, n1 + 3 * n2 + 7 * n3 + 15 * n4, n1 + 5 * n2 + 19 * n3 + 65 * n4, n1 + 7 * n2 + 37 * n3 + 175 * n4]) s0 (by decide) (by
    repeat (first | exact rfl | refine row_cons (by decide) (by grind) ?_))
  have s2 := tv_step (B' := [0, -1, 1]) (R' := [n2 + 3 * n3 + 7 * n4, n2 + 6 * n3 + 25 * n4, n2 + 9 * n3 + 55 * n4]) s1 (by decide) (by
    repeat (first | exact rfl | refine row_cons (by decide) (by grind) ?_))
  have s3 := tv_step (B' := [0, 2, -3, 1]) (R' := [n3 + 6 * n4, n3 + 10 * n4]) s2 (by decide) (by
    repeat (first | exact rfl | refine row_cons (by decide) (by grind) ?_))
  have s4 := tv_step (B' := [0, -6, 11, -6, 1]) (R' := [n4]) s3 (by decide) (by
    repeat (first | exact rfl | refine row_cons (by decide) (by grind) ?_))
  have s5 := tv_step (B' := [0, 24, -50, 35, -10, 1]) (R' := []) s4 (by decide) (by
    repeat (first | exact rfl | refine row_cons (by decide) (by grind) ?_))
  unfold through_valuesP
  show (tvPre _ 5).1 = _
  rw [s5]
  dsimp only
  refine Trim.ext (zadd_trim _ _) (trim_trim _) fun i => ?_
  simp only [zadd_getD, zscale_getD, getD_trim]
  rcases (sp5 i : i = 0 ∨ i = 1 ∨ i = 2 ∨ i = 3 ∨ i = 4 ∨ 5 ≤ i) with rfl | rfl | rfl | rfl | rfl | hi
  · simp only [List.getD_cons_zero, List.getD_cons_succ, List.getD_nil]
    grind
  · simp only [List.getD_cons_zero, List.getD_cons_succ, List.getD_nil]
    grind
  · simp only [List.getD_cons_zero, List.getD_cons_succ, List.getD_nil]
    grind
  · simp only [List.getD_cons_zero, List.getD_cons_succ, List.getD_nil]
    grind
  · simp only [List.getD_cons_zero, List.getD_cons_succ, List.getD_nil]
    grind
  · simp only [getD_of_le (a := []) (Nat.zero_le _), getD_of_le (a := [1]) (show 1 ≤ i from Nat.le_trans (by decide) hi), getD_of_le (a := [0, 1]) (show 2 ≤ i from Nat.le_trans (by decide) hi), getD_of_le (a := [0, -1, 1]) (show 3 ≤ i from Nat.le_trans (by decide) hi), getD_of_le (a := [0, 2, -3, 1]) (show 4 ≤ i from Nat.le_trans (by decide) hi), getD_of_le (a := [0, -6, 11, -6, 1]) (show 5 ≤ i from Nat.le_trans (by decide) hi), getD_of_le (a := [n0, n1, n2, n3, n4]) (show 5 ≤ i from Nat.le_trans (by decide) hi)]
    simp only [Int.zero_mul, Int.zero_add, Int.add_zero]
theorem tv7 (n0 n1 n2 n3 n4 n5 n6 : Int) : through_valuesP [n0, n0 + n1 + n2 + n3 + n4 + n5 + n6, n0 + 2 * n1 + 4 * n2 + 8 * n3 + 16 * n4 + 32 * n5 + 64 * n6, n0 + 3 * n1 + 9 * n2 + 27 * n3 + 81 * n4 + 243 * n5 + 729 * n6, n0 + 4 * n1 + 16 * n2 + 64 * n3 + 256 * n4 + 1024 * n5 + 4096 * n6, n0 + 5 * n1 + 25 * n2 + 125 * n3 + 625 * n4 + 3125 * n5 + 15625 * n6, n0 + 6 * n1 + 36 * n2 + 216 * n3 + 1296 * n4 + 7776 * n5 + 46656 * n6] = ztrimP [n0, n1, n2, n3, n4, n5, n6] := by
  have s0 : tvPre [n0, n0 + n1 + n2 + n3 + n4 + n5 + n6, n0 + 2 * n1 + 4 * n2 + 8 * n3 + 16 * n4 + 32 * n5 + 64 * n6, n0 + 3 * n1 + 9 * n2 + 27 * n3 + 81 * n4 + 243 * n5 + 729 * n6, n0 + 4 * n1 + 16 * n2 + 64 * n3 + 256 * n4 + 1024 * n5 + 4096 * n6, n0 + 5 * n1 + 25 * n2 + 125 * n3 + 625 * n4 + 3125 * n5 + 15625 * n6, n0 + 6 * n1 + 36 * n2 + 216 * n3 + 1296 * n4 + 7776 * n5 + 46656 * n6] 0 = ([], [1], [n0, n0 + n1 + n2 + n3 + n4 + n5 + n6, n0 + 2 * n1 + 4 * n2 + 8 * n3 + 16 * n4 + 32 * n5 + 64 * n6, n0 + 3 * n1 + 9 * n2 + 27 * n3 + 81 * n4 + 243 * n5 + 729 * n6, n0 + 4 * n1 + 16 * n2 + 64 * n3 + 256 * n4 + 1024 * n5 + 4096 * n6, n0 + 5 * n1 + 25 * n2 + 125 * n3 + 625 * n4 + 3125 * n5 + 15625 * n6, n0 + 6 * n1 + 36 * n2 + 216 * n3 + 1296 * n4 + 7776 * n5 + 46656 * n6]) := rfl
  have s1 := tv_step (B' := [0, 1]) (R' := [n1 + n2 + n3 + n4 + n5 + n6, n1 + 3 * n2 + 7 * n3 + 15 * n4 + 31 * n5 + 63 * n6, n1 + 5 * n2 + 19 * n3 + 65 * n4 + 211 * n5 + 665 * n6, n1 + 7 * n2 + 37 * n3 + 175 * n4 + 781 * n5 + 3367 * n6, n1 + 9 * n2 + 61 * n3 + 369 * n4 + 2101 * n5 + 11529 * n6, n1 + 11 * n2 + 91 * n3 + 671 * n4 + 4651 * n5 + 31031 * n6]) s0 (by decide) (by
    repeat (first | exact rfl | refine row_cons (by decide) (by grind) ?_))
  have s2 := tv_step (B' := [0, -1, 1]) (R' := [n2 + 3 * n3 + 7 * n4 + 15 * n5 + 31 * n6, n2 + 6 * n3 + 25 * n4 + 90 * n5 + 301 * n6, n2 + 9 * n3 + 55 * n4 + 285 * n5 + 1351 * n6, n2 + 12 * n3 + 97 * n4 + 660 * n5 + 4081 * n6, n2 + 15 * n3 + 151 * n4 + 1275 * n5 + 9751 * n6]) s1 (by decide) (by
    repeat (first | exact rfl | refine row_cons (by decide) (by grind) ?_))
  have s3 := tv_step (B' := [0, 2, -3, 1]) (R' := [n3 + 6 * n4 + 25 * n5 + 90 * n6, n3 + 10 * n4 + 65 * n5 + 350 * n6, n3 + 14 * n4 + 125 * n5 + 910 * n6, n3 + 18 * n4 + 205 * n5 + 1890 * n6]) s2 (by decide) (by
    repeat (first | exact rfl | refine row_cons (by decide) (by grind) ?_))
  have s4 := tv_step (B' := [0, -6, 11, -6, 1]) (R' := [n4 + 10 * n5 + 65 * n6, n4 + 15 * n5 + 140 * n6, n4 + 20 * n5 + 245 * n6]) s3 (by decide) (by
    repeat (first | exact rfl | refine row_cons (by decide) (by grind) ?_))
  have s5 := tv_step (B' := [0, 24, -50, 35, -10, 1]) (R' := [n5 + 15 * n6, n5 + 21 * n6]) s4 (by decide) (by
    repeat (first | exact rfl | refine row_cons (by decide) (by grind) ?_))
  have s6 := tv_step (B' := [0, -120, 274, -225, 85, -15, 1]) (R' := [n6]) s5 (by decide) (by
    repeat (first | exact rfl | refine row_cons (by decide) (by grind) ?_))
  have s7 := tv_step (B' := [0, 720, -1764, 1624, -735, 175, -21, 1]) (R' := []) s6 (by decide) (by
    repeat (first | exact rfl | refine row_cons (by decide) (by grind) ?_))
  unfold through_valuesP
  show (tvPre _ 7).1 = _
  rw [s7]
  dsimp only
  refine Trim.ext (zadd_trim _ _) (trim_trim _) fun i => ?_
  simp only [zadd_getD, zscale_getD, getD_trim]
  rcases (sp7 i : i = 0 ∨ i = 1 ∨ i = 2 ∨ i = 3 ∨ i = 4 ∨ i = 5 ∨ i = 6 ∨ 7 ≤ i) with rfl | rfl | rfl | rfl | rfl | rfl | rfl | hi
  · simp only [List.getD_cons_zero, List.getD_cons_succ, List.getD_nil]
    grind
  · simp only [List.getD_cons_zero, List.getD_cons_succ, List.getD_nil]
    grind
  · simp only [List.getD_cons_zero, List.getD_cons_succ, List.getD_nil]
    grind
  · simp only [List.getD_cons_zero, List.getD_cons_succ, List.getD_nil]
    grind
  · simp only [List.getD_cons_zero, List.getD_cons_succ, List.getD_nil]
    grind
  · simp only [List.getD_cons_zero, List.getD_cons_succ, List.getD_nil]
    grind
  · simp only [List.getD_cons_zero, List.getD_cons_succ, List.getD_nil]
    grind
  · simp only [getD_of_le (a := []) (Nat.zero_le _), getD_of_le (a := [1]) (show 1 ≤ i from Nat.le_trans (by decide) hi), getD_of_le (a := [0, 1]) (show 2 ≤ i from Nat.le_trans (by decide) hi), getD_of_le (a := [0, -1, 1]) (show 3 ≤ i from Nat.le_trans (by decide) hi), getD_of_le (a := [0, 2, -3, 1]) (show 4 ≤ i from Nat.le_trans (by decide) hi), getD_of_le (a := [0, -6, 11, -6, 1]) (show 5 ≤ i from Nat.le_trans (by decide) hi), getD_of_le (a := [0, 24, -50, 35, -10, 1]) (show 6 ≤ i from Nat.le_trans (by decide) hi), getD_of_le (a := [0, -120, 274, -225, 85, -15, 1]) (show 7 ≤ i from Nat.le_trans (by decide) hi), getD_of_le (a := [n0, n1, n2, n3, n4, n5, n6]) (show 7 ≤ i from Nat.le_trans (by decide) hi)]
    simp only [Int.zero_mul, Int.zero_add, Int.add_zero]
theorem base_of (ns ms : List Int) : ∀ i, (tvPre ns i).2.1 = (tvPre ms i).2.1
  | 0 => rfl
  | i + 1 => by
    show zmulP (tvPre ns i).2.1 _ = zmulP (tvPre ms i).2.1 _
    rw [base_of ns ms i]
theorem base_sm (ns : List Int) (h : ns.length ≤ 7) : ∀ i, i < ns.length → SmL (tvPre ns i).2.1 := by
  intro i hi
  rw [base_of ns [] i]
  have q := (by decide +kernel : ∀ j : Fin 7, ∀ x ∈ (tvPre [] j.val).2.1, x.natAbs < 2 ^ 62) ⟨i, by omega⟩
  exact fun x hx => ⟨q x hx⟩
end
section
set_option maxRecDepth 4000
theorem plus_getD (a b : List Int) (k : Int) (i : Nat) : (plusP a b k).getD i 0 = a.getD i 0 + k * b.getD i 0 := by
  unfold plusP plusRow
  rw [getD_trim, map_range_getD]
  split
  · rfl
  · rw [getD_of_le (a := a) (by omega), getD_of_le (a := b) (by omega)]; simp
theorem plus_trim (a b : List Int) (k : Int) : Trim (plusP a b k) := trim_trim _
noncomputable def sh (b : List Int) (i k : Nat) : Int := if k < i then 0 else b.getD (k - i) 0
theorem sh_getD (b : List Int) (i k : Nat) : (List.replicate i (0 : Int) ++ b).getD k 0 = sh b i k := by
  unfold sh
  simp only [List.getD]
  split
  · rename_i h
    rw [List.getElem?_append_left (by simpa using h)]
    simp [h]
  · rename_i h
    rw [List.getElem?_append_right (by simpa using h)]
    simp
noncomputable def sumc (b : List Int) : Nat → List Int → Nat → Int
  | _, [], _ => 0
  | i, x :: xs, k => x * sh b i k + sumc b (i + 1) xs k
theorem timesPre_getD (b : List Int) (k : Nat) : ∀ (xs : List Int) (i : Nat) (acc : List Int), (timesPre b i acc xs).getD k 0 = acc.getD k 0 + sumc b i xs k
  | [], _, _ => by simp [timesPre, sumc]
  | x :: xs, i, acc => by
    rw [timesPre, timesPre_getD b k xs, plus_getD, sh_getD, sumc]
    omega
theorem times_getD (a b : List Int) (k : Nat) : (timesP a b).getD k 0 = sumc b 0 a k := by
  unfold timesP
  rw [timesPre_getD]; simp
theorem sumc4 (b : List Int) (k : Nat) {a : List Int} (h : a.length ≤ 4) : sumc b 0 a k = a.getD 0 0 * sh b 0 k + a.getD 1 0 * sh b 1 k + a.getD 2 0 * sh b 2 k + a.getD 3 0 * sh b 3 k := by
  rcases a with _ | ⟨x, _ | ⟨y, _ | ⟨z, _ | ⟨w, _ | ⟨v, r⟩⟩⟩⟩⟩
  · simp [sumc]
  · simp [sumc]
  · simp [sumc]
  · simp [sumc]; omega
  · simp [sumc]; omega
  · simp at h
theorem times_trim (a b : List Int) (h : 0 < a.length) : Trim (timesP a b) := by
  rcases snoc_cases a with rfl | ⟨xs, x, rfl⟩
  · simp at h
  · unfold timesP
    rw [timesPre_snoc]
    exact plus_trim _ _ _
noncomputable def nrm (p0 p1 p2 p3 r0 r1 r2 r3 c : Int) : List Int :=
  [p0 * p0 - c * (r0 * r0), 2 * (p0 * p1) - c * (2 * (r0 * r1)), 2 * (p0 * p2) + p1 * p1 - c * (2 * (r0 * r2) + r1 * r1), 2 * (p0 * p3) + 2 * (p1 * p2) - c * (2 * (r0 * r3) + 2 * (r1 * r2)),
    2 * (p1 * p3) + p2 * p2 - c * (2 * (r1 * r3) + r2 * r2), 2 * (p2 * p3) - c * (2 * (r2 * r3)), p3 * p3 - c * (r3 * r3)]
theorem cases7 {P : Nat → Prop} (h0 : P 0) (h1 : P 1) (h2 : P 2) (h3 : P 3) (h4 : P 4) (h5 : P 5) (h6 : P 6) (h : ∀ j, P (j + 7)) : ∀ i, P i
  | 0 => h0 | 1 => h1 | 2 => h2 | 3 => h3 | 4 => h4 | 5 => h5 | 6 => h6 | j + 7 => h j
theorem sh_big {b : List Int} {i k : Nat} (hb : b.length ≤ 4) (hk : i + 4 ≤ k) : sh b i k = 0 := by
  unfold sh
  rw [if_neg (by omega), getD_of_le (by omega)]
theorem norm7 {P R : List Int} {c p0 p1 p2 p3 r0 r1 r2 r3 : Int} (hP : P.length ≤ 4) (hR : R.length ≤ 4) (e0 : P.getD 0 0 = p0) (e1 : P.getD 1 0 = p1) (e2 : P.getD 2 0 = p2) (e3 : P.getD 3 0 = p3)
    (q0 : R.getD 0 0 = r0) (q1 : R.getD 1 0 = r1) (q2 : R.getD 2 0 = r2) (q3 : R.getD 3 0 = r3) : normP P R c = ztrimP (nrm p0 p1 p2 p3 r0 r1 r2 r3 c) := by
  have e4 : P.getD 4 0 = 0 := getD_of_le hP
  have e5 : P.getD 5 0 = 0 := getD_of_le (by omega)
  have e6 : P.getD 6 0 = 0 := getD_of_le (by omega)
  have q4 : R.getD 4 0 = 0 := getD_of_le hR
  have q5 : R.getD 5 0 = 0 := getD_of_le (by omega)
  have q6 : R.getD 6 0 = 0 := getD_of_le (by omega)
  refine Trim.ext (plus_trim _ _ _) (trim_trim _) fun i => ?_
  unfold nrm normP
  rw [getD_trim, plus_getD, times_getD, times_getD, sumc4 _ _ hP, sumc4 _ _ hR, e0, e1, e2, e3, q0, q1, q2, q3]
  revert i
  refine cases7 ?_ ?_ ?_ ?_ ?_ ?_ ?_ ?_
  · simp only [sh, List.getD_cons_zero, List.getD_cons_succ, Nat.lt_irrefl, if_true, if_false, Nat.sub_self, Nat.sub_zero, Nat.reduceLT, Nat.reduceSub, e0, e1, e2, e3, e4, e5, e6, q0, q1, q2, q3, q4, q5, q6]
    grind
  · simp only [sh, List.getD_cons_zero, List.getD_cons_succ, Nat.lt_irrefl, if_true, if_false, Nat.sub_self, Nat.sub_zero, Nat.reduceLT, Nat.reduceSub, e0, e1, e2, e3, e4, e5, e6, q0, q1, q2, q3, q4, q5, q6]
    grind
  · simp only [sh, List.getD_cons_zero, List.getD_cons_succ, Nat.lt_irrefl, if_true, if_false, Nat.sub_self, Nat.sub_zero, Nat.reduceLT, Nat.reduceSub, e0, e1, e2, e3, e4, e5, e6, q0, q1, q2, q3, q4, q5, q6]
    grind
  · simp only [sh, List.getD_cons_zero, List.getD_cons_succ, Nat.lt_irrefl, if_true, if_false, Nat.sub_self, Nat.sub_zero, Nat.reduceLT, Nat.reduceSub, e0, e1, e2, e3, e4, e5, e6, q0, q1, q2, q3, q4, q5, q6]
    grind
  · simp only [sh, List.getD_cons_zero, List.getD_cons_succ, Nat.lt_irrefl, if_true, if_false, Nat.sub_self, Nat.sub_zero, Nat.reduceLT, Nat.reduceSub, e0, e1, e2, e3, e4, e5, e6, q0, q1, q2, q3, q4, q5, q6]
    grind
  · simp only [sh, List.getD_cons_zero, List.getD_cons_succ, Nat.lt_irrefl, if_true, if_false, Nat.sub_self, Nat.sub_zero, Nat.reduceLT, Nat.reduceSub, e0, e1, e2, e3, e4, e5, e6, q0, q1, q2, q3, q4, q5, q6]
    grind
  · simp only [sh, List.getD_cons_zero, List.getD_cons_succ, Nat.lt_irrefl, if_true, if_false, Nat.sub_self, Nat.sub_zero, Nat.reduceLT, Nat.reduceSub, e0, e1, e2, e3, e4, e5, e6, q0, q1, q2, q3, q4, q5, q6]
    grind
  · intro j
    rw [sh_big hP (by omega), sh_big hP (by omega), sh_big hP (by omega), sh_big hP (by omega), sh_big hR (by omega), sh_big hR (by omega), sh_big hR (by omega), sh_big hR (by omega), getD_of_le (by simp)]
    simp
end
section
set_option maxRecDepth 4000
theorem cons_eq {a b : Int} {l m : List Int} (h : a = b) (h' : l = m) : a :: l = b :: m := by rw [h, h']
-- the second argument's shapes
theorem zmul1_two (x s : Int) : zmulP [1] [x, s] = [x, s] := by
  unfold zmulP zmulPre zmulRow
  simp
theorem zmul2_two (x s : Int) (hs : s ≠ 0) : zmulP [x, s] [x, s] = [x * x, x * s + s * x, s * s] := by
  unfold zmulP zmulPre zmulRow
  by_cases hx : x = 0
  · subst hx
    simp [hs]
  · simp [hs, hx]
theorem quad_shift (x c : Int) : zcomposeP [0 - c, 0, 1] [x, -1] = [x * x - c, -2 * x, 1] := by
  unfold zcomposeP zcomposePre
  simp only [List.reverse_cons, List.reverse_nil, List.nil_append, List.cons_append, List.foldl_cons, List.foldl_nil]
  have e1 : zaddP (zmulP [] [x, -1]) (ztrimP [1]) = [1] := by
    have : zmulP [] [x, -1] = [] := rfl
    rw [this]; decide
  rw [e1, zmul1_two]
  have e2 : zaddP [x, -1] (ztrimP [0]) = [x, -1] := by
    refine Trim.ext (zadd_trim _ _) (tr2 (by decide)) fun i => ?_
    rw [zadd_getD, getD_trim]
    rcases i with _ | j
    · simp
    · simp
  rw [e2, zmul2_two _ _ (by decide)]
  refine Trim.ext (zadd_trim _ _) (tr3 (by decide)) fun i => ?_
  rw [zadd_getD, getD_trim]
  rcases i with _ | _ | _ | j
  · simp only [List.getD_cons_zero]; omega
  · simp only [List.getD_cons_zero, List.getD_cons_succ, List.getD_nil]; omega
  · simp only [List.getD_cons_zero, List.getD_cons_succ, List.getD_nil]; omega
  · simp only [List.getD_cons_succ, List.getD_nil]; omega
theorem lin_shift (x c : Int) : zcomposeP [0 - c, 1] [x, -1] = [x - c, -1] := by
  unfold zcomposeP zcomposePre
  simp only [List.reverse_cons, List.reverse_nil, List.nil_append, List.cons_append, List.foldl_cons, List.foldl_nil]
  have e1 : zaddP (zmulP [] [x, -1]) (ztrimP [1]) = [1] := by
    have : zmulP [] [x, -1] = [] := rfl
    rw [this]; decide
  rw [e1, zmul1_two]
  refine Trim.ext (zadd_trim _ _) (tr2 (by decide)) fun i => ?_
  rw [zadd_getD, getD_trim]
  rcases i with _ | _ | j
  · simp only [List.getD_cons_zero]; omega
  · simp only [List.getD_cons_zero, List.getD_cons_succ, List.getD_nil]; omega
  · simp only [List.getD_cons_succ, List.getD_nil]; omega
theorem scaled_quad (x c : Int) : scaled_forP [0 - c, 0, 1] x = [x * x, 0, 0 - c] := by
  show [1 * x ^ 2, 0 * x ^ 1, (0 - c) * x ^ 0] = _
  refine cons_eq (by grind) (cons_eq (by simp) (cons_eq (by simp) rfl))
-- values at 0, 1, ..
theorem vals3 (v : Nat → Int) (n0 n1 n2 : Int) (h : ∀ x : Nat, v x = n0 + (x : Int) * (n1 + (x : Int) * n2)) : through_valuesP ((List.range 3).map v) = ztrimP [n0, n1, n2] := by
  rw [← tv3]
  congr 1
  show [v 0, v 1, v 2] = _
  simp only [h]
  refine cons_eq (by simp) (cons_eq (by simp <;> grind) (cons_eq (by simp <;> grind) rfl))
theorem vals5 (v : Nat → Int) (n0 n1 n2 n3 n4 : Int) (h : ∀ x : Nat, v x = n0 + (x : Int) * (n1 + (x : Int) * (n2 + (x : Int) * (n3 + (x : Int) * n4)))) : through_valuesP ((List.range 5).map v) = ztrimP [n0, n1, n2, n3, n4] := by
  rw [← tv5]
  congr 1
  show [v 0, v 1, v 2, v 3, v 4] = _
  simp only [h]
  refine cons_eq (by simp) (cons_eq (by simp <;> grind) (cons_eq (by simp <;> grind) (cons_eq (by simp <;> grind) (cons_eq (by simp <;> grind) rfl))))
theorem vals7 (v : Nat → Int) (n0 n1 n2 n3 n4 n5 n6 : Int) (h : ∀ x : Nat, v x = n0 + (x : Int) * (n1 + (x : Int) * (n2 + (x : Int) * (n3 + (x : Int) * (n4 + (x : Int) * (n5 + (x : Int) * n6)))))) :
    through_valuesP ((List.range 7).map v) = ztrimP [n0, n1, n2, n3, n4, n5, n6] := by
  rw [← tv7]
  congr 1
  show [v 0, v 1, v 2, v 3, v 4, v 5, v 6] = _
  simp only [h]
  refine cons_eq (by simp) (cons_eq (by simp <;> grind) (cons_eq (by simp <;> grind) (cons_eq (by simp <;> grind) (cons_eq (by simp <;> grind) (cons_eq (by simp <;> grind) (cons_eq (by simp <;> grind) rfl))))))
theorem vals2 (v : Nat → Int) (n0 n1 : Int) (h : ∀ x : Nat, v x = n0 + (x : Int) * n1) : through_valuesP ((List.range 2).map v) = ztrimP [n0, n1] := by
  rw [← tv2]
  congr 1
  show [v 0, v 1] = _
  simp only [h]
  refine cons_eq (by simp) (cons_eq (by simp) rfl)
theorem vals4 (v : Nat → Int) (n0 n1 n2 n3 : Int) (h : ∀ x : Nat, v x = n0 + (x : Int) * (n1 + (x : Int) * (n2 + (x : Int) * n3))) : through_valuesP ((List.range 4).map v) = ztrimP [n0, n1, n2, n3] := by
  rw [← tv4]
  congr 1
  show [v 0, v 1, v 2, v 3] = _
  simp only [h]
  refine cons_eq (by simp) (cons_eq (by simp <;> grind) (cons_eq (by simp <;> grind) (cons_eq (by simp <;> grind) rfl)))
-- the moved halves
theorem mstep1 (c : Int) (s : List Int × List Int) (x : Int) (i : Nat) : (movedStep c s x).1.getD i 0 = (0 :: s.1).getD i 0 + c * s.2.getD i 0 + 1 * [x].getD i 0 := by
  unfold movedStep
  rw [plus_getD, plus_getD]
theorem mstep2 (c : Int) (s : List Int × List Int) (x : Int) (i : Nat) : (movedStep c s x).2.getD i 0 = (0 :: s.2).getD i 0 + 1 * s.1.getD i 0 := by
  unfold movedStep
  rw [plus_getD]
theorem mtrim1 (c : Int) (s : List Int × List Int) (x : Int) : Trim (movedStep c s x).1 := plus_trim _ _ _
theorem mtrim2 (c : Int) (s : List Int × List Int) (x : Int) : Trim (movedStep c s x).2 := plus_trim _ _ _
theorem moved4 {a0 a1 a2 a3 c : Int} (ha : a3 ≠ 0) : movedP [a0, a1, a2, a3] c = ([a0 + c * a2, a1 + 3 * (c * a3), a2, a3], [a1 + c * a3, 2 * a2, 3 * a3]) := by
  unfold movedP movedPre
  simp only [List.reverse_cons, List.reverse_nil, List.nil_append, List.cons_append, List.foldl_cons, List.foldl_nil]
  refine Prod.ext (Trim.ext (mtrim1 _ _ _) (tr4 ha) fun i => ?_) (Trim.ext (mtrim2 _ _ _) (tr3 (by omega)) fun i => ?_)
  · rcases i with _ | _ | _ | _ | j <;>
      (simp only [mstep1, mstep2, List.getD_cons_zero, List.getD_cons_succ, List.getD_nil]; grind)
  · rcases i with _ | _ | _ | j <;>
      (simp only [mstep1, mstep2, List.getD_cons_zero, List.getD_cons_succ, List.getD_nil]; grind)
theorem moved3 {a0 a1 a2 c : Int} (ha : a2 ≠ 0) : movedP [a0, a1, a2] c = ([a0 + c * a2, a1, a2], [a1, 2 * a2]) := by
  unfold movedP movedPre
  simp only [List.reverse_cons, List.reverse_nil, List.nil_append, List.cons_append, List.foldl_cons, List.foldl_nil]
  refine Prod.ext (Trim.ext (mtrim1 _ _ _) (tr3 ha) fun i => ?_) (Trim.ext (mtrim2 _ _ _) (tr2 (by omega)) fun i => ?_)
  · rcases i with _ | _ | _ | j <;>
      (simp only [mstep1, mstep2, List.getD_cons_zero, List.getD_cons_succ, List.getD_nil]; grind)
  · rcases i with _ | _ | j <;>
      (simp only [mstep1, mstep2, List.getD_cons_zero, List.getD_cons_succ, List.getD_nil]; grind)
theorem moved2 {a0 a1 c : Int} (ha : a1 ≠ 0) : movedP [a0, a1] c = ([a0, a1], [a1]) := by
  unfold movedP movedPre
  simp only [List.reverse_cons, List.reverse_nil, List.nil_append, List.cons_append, List.foldl_cons, List.foldl_nil]
  refine Prod.ext (Trim.ext (mtrim1 _ _ _) (tr2 ha) fun i => ?_) (Trim.ext (mtrim2 _ _ _) (ztrimP_snoc [] ha) fun i => ?_)
  · rcases i with _ | _ | j <;>
      (simp only [mstep1, mstep2, List.getD_cons_zero, List.getD_cons_succ, List.getD_nil]; grind)
  · rcases i with _ | j <;>
      (simp only [mstep1, mstep2, List.getD_cons_zero, List.getD_cons_succ, List.getD_nil]; grind)
end
section
set_option maxRecDepth 4000
theorem getD_set (l : List Int) (n i : Nat) (v : Int) : (l.set n v).getD i 0 = if i = n ∧ n < l.length then v else l.getD i 0 := by
  simp only [List.getD, List.getElem?_set]
  by_cases h : n = i
  · subst h
    by_cases h2 : n < l.length
    · simp [h2]
    · simp [h2]
  · rw [if_neg h, if_neg (fun q => h q.1.symm)]
theorem getD_snoc (l : List Int) (x : Int) (i : Nat) : (l ++ [x]).getD i 0 = if i = l.length then x else l.getD i 0 := by
  simp only [List.getD]
  by_cases h : i < l.length
  · rw [List.getElem?_append_left h, if_neg (by omega)]
  · rw [List.getElem?_append_right (by omega)]
    by_cases h2 : i = l.length
    · subst h2; simp
    · rw [if_neg h2, List.getElem?_eq_none (l := l) (by omega), List.getElem?_eq_none (by simp; omega)]
theorem zmulPre_lin (s t : Int) (z : List Int) (i : Nat) : ∀ a : List Int, a.length + 1 ≤ z.length → (zmulPre z a [s, t]).getD i 0 = z.getD i 0 + a.getD i 0 * s + (if i = 0 then 0 else a.getD (i - 1) 0 * t) := by
  refine snocInd ?_ ?_
  · intro _
    show z.getD i 0 = _
    simp
  · intro a x ih h
    rw [List.length_append, List.length_singleton] at h
    have ih := ih (by omega)
    have hW : (zmulPre z a [s, t]).length = z.length := zmulPre_len _ _ _
    have e : zmulRow (zmulPre z a [s, t]) a.length x [s, t] = ((zmulPre z a [s, t]).set a.length ((zmulPre z a [s, t]).getD a.length 0 + x * s)).set (a.length + 1) (((zmulPre z a [s, t]).set a.length ((zmulPre z a [s, t]).getD a.length 0 + x * s)).getD (a.length + 1) 0 + x * t) := rfl
    have ha : a.getD a.length 0 = 0 := getD_of_le (Nat.le_refl _)
    have ha1 : a.getD (a.length + 1) 0 = 0 := getD_of_le (Nat.le_succ _)
    rw [zmulPre_snoc]
    split
    · rw [e, getD_set, List.length_set, getD_set, getD_set, hW, getD_snoc, getD_snoc, if_neg (show ¬ (a.length + 1 = a.length ∧ a.length < z.length) by omega)]
      by_cases h1 : i = a.length + 1
      · subst h1
        rw [if_pos ⟨rfl, by omega⟩, ih, if_neg (by omega), if_neg (by omega), if_neg (by omega), if_pos (by omega)]
        simp only [Nat.add_sub_cancel, ha, ha1]
        grind
      · rw [if_neg (fun q => h1 q.1)]
        by_cases h2 : i = a.length
        · subst h2
          rw [if_pos ⟨rfl, by omega⟩, if_pos rfl, ih, ha]
          by_cases h3 : a.length = 0
          · rw [if_pos h3, if_pos h3]; grind
          · rw [if_neg h3, if_neg h3, if_neg (by omega)]; grind
        · rw [if_neg (fun q => h2 q.1), if_neg h2, ih]
          by_cases h3 : i = 0
          · rw [if_pos h3, if_pos h3]
          · rw [if_neg h3, if_neg h3, if_neg (by omega)]
    · rename_i hx
      have hx : x = 0 := Decidable.not_not.mp hx
      subst hx
      rw [ih, getD_snoc_zero, getD_snoc_zero]
theorem zmul_lin (s t : Int) (a : List Int) (i : Nat) : (zmulP a [s, t]).getD i 0 = a.getD i 0 * s + (if i = 0 then 0 else a.getD (i - 1) 0 * t) := by
  unfold zmulP
  split
  · rename_i h
    have : a = [] := by
      rcases h with h | h
      · exact List.length_eq_zero_iff.mp h
      · simp at h
    subst this
    simp
  · rw [zmulPre_lin _ _ _ _ _ (by simp)]
    have : (List.replicate (a.length + [s, t].length - 1) (0 : Int)).getD i 0 = 0 := by
      simp only [List.getD, List.getElem?_replicate]
      split <;> rfl
    rw [this]; omega
theorem zmul_lin0 (s t : Int) (a : List Int) : (zmulP a [s, t]).getD 0 0 = a.getD 0 0 * s := by
  rw [zmul_lin, if_pos rfl]; omega
theorem zmul_linS (s t : Int) (a : List Int) (i : Nat) : (zmulP a [s, t]).getD (i + 1) 0 = a.getD (i + 1) 0 * s + a.getD i 0 * t := by
  rw [zmul_lin, if_neg (by omega)]; rfl
theorem compose_zero (b q : List Int) : zcomposeP (q ++ [0]) b = zcomposeP q b := by
  unfold zcomposeP zcomposePre
  rw [List.reverse_append, List.reverse_singleton, List.singleton_append, List.foldl_cons]
  rfl
theorem compose_trim (b q : List Int) : zcomposeP (ztrimP q) b = zcomposeP q b := by
  induction q using snocInd with
  | h0 => rfl
  | hs xs x ih =>
    by_cases h : x = 0
    · subst h
      rw [ztrimP_snoc_zero, ih, compose_zero]
    · rw [ztrimP_snoc _ h]
/-- one turn of the composing -/
noncomputable def cst (F : List Int) (x : Int) : List Int := zaddP (zmulP F [-1, 1]) (ztrimP [x])
theorem cst_trim (F : List Int) (x : Int) : Trim (cst F x) := zadd_trim _ _
theorem cst0 (F : List Int) (x : Int) : (cst F x).getD 0 0 = F.getD 0 0 * -1 + x := by
  unfold cst
  rw [zadd_getD, zmul_lin0, getD_trim]; rfl
theorem cstS (F : List Int) (x : Int) (i : Nat) : (cst F x).getD (i + 1) 0 = F.getD (i + 1) 0 * -1 + F.getD i 0 := by
  unfold cst
  rw [zadd_getD, zmul_linS, getD_trim, List.getD_cons_succ, List.getD_nil]; omega
theorem comp3 (q0 q1 q2 : Int) : zcomposeP [q0, q1, q2] [-1, 1] = ztrimP [q0 + (-1) * q1 + q2, q1 + (-2) * q2, q2] := by
  unfold zcomposeP zcomposePre
  simp only [List.reverse_cons, List.reverse_nil, List.nil_append, List.cons_append, List.foldl_cons, List.foldl_nil]
  show (cst (cst (cst [] q2) q1) q0) = _
  refine Trim.ext (cst_trim _ _) (trim_trim _) fun i => ?_
  rw [getD_trim]
  rcases i with _ | _ | _ | j <;>
    (simp only [cst0, cstS, List.getD_cons_zero, List.getD_cons_succ, List.getD_nil]; grind)
theorem prod3 (v : Nat → Int) (m0 m1 m2 : Int) (h : ∀ x : Nat, v x = m0 + ((x : Int) + 1) * (m1 + ((x : Int) + 1) * (m2))) : zcomposeP (through_valuesP ((List.range 3).map v)) [-1, 1] = ztrimP [m0, m1, m2] := by
  rw [vals3 v (m0 + m1 + m2) (m1 + (2) * m2) (m2) (fun x => by rw [h x]; grind), compose_trim, comp3]
  congr 1
  exact cons_eq (by grind) (cons_eq (by grind) (cons_eq (by grind) (rfl)))
theorem comp5 (q0 q1 q2 q3 q4 : Int) : zcomposeP [q0, q1, q2, q3, q4] [-1, 1] = ztrimP [q0 + (-1) * q1 + q2 + (-1) * q3 + q4, q1 + (-2) * q2 + (3) * q3 + (-4) * q4, q2 + (-3) * q3 + (6) * q4, q3 + (-4) * q4, q4] := by
  unfold zcomposeP zcomposePre
  simp only [List.reverse_cons, List.reverse_nil, List.nil_append, List.cons_append, List.foldl_cons, List.foldl_nil]
  show (cst (cst (cst (cst (cst [] q4) q3) q2) q1) q0) = _
  refine Trim.ext (cst_trim _ _) (trim_trim _) fun i => ?_
  rw [getD_trim]
  rcases i with _ | _ | _ | _ | _ | j <;>
    (simp only [cst0, cstS, List.getD_cons_zero, List.getD_cons_succ, List.getD_nil]; grind)
theorem prod5 (v : Nat → Int) (m0 m1 m2 m3 m4 : Int) (h : ∀ x : Nat, v x = m0 + ((x : Int) + 1) * (m1 + ((x : Int) + 1) * (m2 + ((x : Int) + 1) * (m3 + ((x : Int) + 1) * (m4))))) : zcomposeP (through_valuesP ((List.range 5).map v)) [-1, 1] = ztrimP [m0, m1, m2, m3, m4] := by
  rw [vals5 v (m0 + m1 + m2 + m3 + m4) (m1 + (2) * m2 + (3) * m3 + (4) * m4) (m2 + (3) * m3 + (6) * m4) (m3 + (4) * m4) (m4) (fun x => by rw [h x]; grind), compose_trim, comp5]
  congr 1
  exact cons_eq (by grind) (cons_eq (by grind) (cons_eq (by grind) (cons_eq (by grind) (cons_eq (by grind) (rfl)))))
theorem comp7 (q0 q1 q2 q3 q4 q5 q6 : Int) : zcomposeP [q0, q1, q2, q3, q4, q5, q6] [-1, 1] = ztrimP [q0 + (-1) * q1 + q2 + (-1) * q3 + q4 + (-1) * q5 + q6, q1 + (-2) * q2 + (3) * q3 + (-4) * q4 + (5) * q5 + (-6) * q6, q2 + (-3) * q3 + (6) * q4 + (-10) * q5 + (15) * q6, q3 + (-4) * q4 + (10) * q5 + (-20) * q6, q4 + (-5) * q5 + (15) * q6, q5 + (-6) * q6, q6] := by
  unfold zcomposeP zcomposePre
  simp only [List.reverse_cons, List.reverse_nil, List.nil_append, List.cons_append, List.foldl_cons, List.foldl_nil]
  show (cst (cst (cst (cst (cst (cst (cst [] q6) q5) q4) q3) q2) q1) q0) = _
  refine Trim.ext (cst_trim _ _) (trim_trim _) fun i => ?_
  rw [getD_trim]
  rcases i with _ | _ | _ | _ | _ | _ | _ | j <;>
    (simp only [cst0, cstS, List.getD_cons_zero, List.getD_cons_succ, List.getD_nil]; grind)
theorem prod7 (v : Nat → Int) (m0 m1 m2 m3 m4 m5 m6 : Int) (h : ∀ x : Nat, v x = m0 + ((x : Int) + 1) * (m1 + ((x : Int) + 1) * (m2 + ((x : Int) + 1) * (m3 + ((x : Int) + 1) * (m4 + ((x : Int) + 1) * (m5 + ((x : Int) + 1) * (m6))))))) : zcomposeP (through_valuesP ((List.range 7).map v)) [-1, 1] = ztrimP [m0, m1, m2, m3, m4, m5, m6] := by
  rw [vals7 v (m0 + m1 + m2 + m3 + m4 + m5 + m6) (m1 + (2) * m2 + (3) * m3 + (4) * m4 + (5) * m5 + (6) * m6) (m2 + (3) * m3 + (6) * m4 + (10) * m5 + (15) * m6) (m3 + (4) * m4 + (10) * m5 + (20) * m6) (m4 + (5) * m5 + (15) * m6) (m5 + (6) * m6) (m6) (fun x => by rw [h x]; grind), compose_trim, comp7]
  congr 1
  exact cons_eq (by grind) (cons_eq (by grind) (cons_eq (by grind) (cons_eq (by grind) (cons_eq (by grind) (cons_eq (by grind) (cons_eq (by grind) (rfl)))))))
end
section
set_option maxRecDepth 4000
theorem norm5 {P R : List Int} {c p0 p1 p2 r0 r1 r2 : Int} (hP : P.length ≤ 3) (hR : R.length ≤ 3) (e0 : P.getD 0 0 = p0) (e1 : P.getD 1 0 = p1) (e2 : P.getD 2 0 = p2) (q0 : R.getD 0 0 = r0) (q1 : R.getD 1 0 = r1) (q2 : R.getD 2 0 = r2) :
    normP P R c = ztrimP [p0 * p0 - c * (r0 * r0), 2 * (p0 * p1) - c * (2 * (r0 * r1)), 2 * (p0 * p2) + p1 * p1 - c * (2 * (r0 * r2) + r1 * r1), 2 * (p1 * p2) - c * (2 * (r1 * r2)), p2 * p2 - c * (r2 * r2)] := by
  rw [norm7 (p3 := 0) (r3 := 0) (by omega) (by omega) e0 e1 e2 (getD_of_le hP) q0 q1 q2 (getD_of_le hR)]
  refine trim_ext fun i => ?_
  unfold nrm
  rcases i with _ | _ | _ | _ | _ | _ | _ | j <;> (simp only [List.getD_cons_zero, List.getD_cons_succ, List.getD_nil] <;> grind)
theorem norm3 {P R : List Int} {c p0 p1 r0 r1 : Int} (hP : P.length ≤ 2) (hR : R.length ≤ 2) (e0 : P.getD 0 0 = p0) (e1 : P.getD 1 0 = p1) (q0 : R.getD 0 0 = r0) (q1 : R.getD 1 0 = r1) :
    normP P R c = ztrimP [p0 * p0 - c * (r0 * r0), 2 * (p0 * p1) - c * (2 * (r0 * r1)), p1 * p1 - c * (r1 * r1)] := by
  rw [norm5 (p2 := 0) (r2 := 0) (by omega) (by omega) e0 e1 (getD_of_le hP) q0 q1 (getD_of_le hR)]
  refine trim_ext fun i => ?_
  rcases i with _ | _ | _ | _ | _ | j <;> (simp only [List.getD_cons_zero, List.getD_cons_succ, List.getD_nil] <;> grind)
-- the sums' polynomial
theorem sum4 {a0 a1 a2 a3 c : Int} (ha : a3 ≠ 0) : through_valuesP (sumVals [a0, a1, a2, a3] [0 - c, 0, 1] 6) = normP (movedP [a0, a1, a2, a3] c).1 (movedP [a0, a1, a2, a3] c).2 c := by
  rw [moved4 ha]
  rw [norm7 (p0 := a0 + c * a2) (p1 := a1 + 3 * (c * a3)) (p2 := a2) (p3 := a3) (r0 := a1 + c * a3) (r1 := 2 * a2) (r2 := 3 * a3) (r3 := 0) (by simp) (by simp) rfl rfl rfl rfl rfl rfl rfl rfl]
  unfold nrm sumVals
  refine vals7 _ _ _ _ _ _ _ _ fun x => ?_
  rw [quad_shift, res43 ha (by decide)]
  unfold S43
  grind
theorem sum3 {a0 a1 a2 c : Int} (ha : a2 ≠ 0) : through_valuesP (sumVals [a0, a1, a2] [0 - c, 0, 1] 4) = normP (movedP [a0, a1, a2] c).1 (movedP [a0, a1, a2] c).2 c := by
  rw [moved3 ha]
  rw [norm5 (p0 := a0 + c * a2) (p1 := a1) (p2 := a2) (r0 := a1) (r1 := 2 * a2) (r2 := 0) (by simp) (by simp) rfl rfl rfl rfl rfl rfl]
  unfold sumVals
  refine vals5 _ _ _ _ _ _ fun x => ?_
  rw [quad_shift, res33 ha (by decide)]
  unfold S33
  grind
theorem sum2 {a0 a1 c : Int} (ha : a1 ≠ 0) : through_valuesP (sumVals [a0, a1] [0 - c, 0, 1] 2) = normP (movedP [a0, a1] c).1 (movedP [a0, a1] c).2 c := by
  rw [moved2 ha]
  rw [norm3 (p0 := a0) (p1 := a1) (r0 := a1) (r1 := 0) (by simp) (by simp) rfl rfl rfl rfl]
  unfold sumVals
  refine vals3 _ _ _ _ fun x => ?_
  rw [quad_shift, res23 ha (by decide)]
  unfold S32
  grind
-- the products' polynomial
theorem scE4 (a0 a1 a2 a3 c : Int) : scE 4 c [a0, a1, a2, a3] = [0, a1 * c, 0, a3] ∧ scO 4 c [a0, a1, a2, a3] = [a0 * c, 0, a2, 0] := by
  refine ⟨?_, ?_⟩
  · show [if Int.fmod (scI 4 0) 2 = 0 then a0 * c ^ (Int.fdiv (scI 4 0) 2).toNat else 0, if Int.fmod (scI 4 1) 2 = 0 then a1 * c ^ (Int.fdiv (scI 4 1) 2).toNat else 0, if Int.fmod (scI 4 2) 2 = 0 then a2 * c ^ (Int.fdiv (scI 4 2) 2).toNat else 0, if Int.fmod (scI 4 3) 2 = 0 then a3 * c ^ (Int.fdiv (scI 4 3) 2).toNat else 0] = _
    rw [if_neg (by decide), if_pos (by decide), if_neg (by decide), if_pos (by decide), show (Int.fdiv (scI 4 1) 2).toNat = 1 by decide, show (Int.fdiv (scI 4 3) 2).toNat = 0 by decide]
    simp [pow1]
  · show [if Int.fmod (scI 4 0) 2 = 1 then a0 * c ^ (Int.fdiv (scI 4 0) 2).toNat else 0, if Int.fmod (scI 4 1) 2 = 1 then a1 * c ^ (Int.fdiv (scI 4 1) 2).toNat else 0, if Int.fmod (scI 4 2) 2 = 1 then a2 * c ^ (Int.fdiv (scI 4 2) 2).toNat else 0, if Int.fmod (scI 4 3) 2 = 1 then a3 * c ^ (Int.fdiv (scI 4 3) 2).toNat else 0] = _
    rw [if_pos (by decide), if_neg (by decide), if_pos (by decide), if_neg (by decide), show (Int.fdiv (scI 4 0) 2).toNat = 1 by decide, show (Int.fdiv (scI 4 2) 2).toNat = 0 by decide]
    simp [pow1]
theorem scE3 (a0 a1 a2 c : Int) : scE 3 c [a0, a1, a2] = [a0 * c, 0, a2] ∧ scO 3 c [a0, a1, a2] = [0, a1, 0] := by
  refine ⟨?_, ?_⟩
  · show [if Int.fmod (scI 3 0) 2 = 0 then a0 * c ^ (Int.fdiv (scI 3 0) 2).toNat else 0, if Int.fmod (scI 3 1) 2 = 0 then a1 * c ^ (Int.fdiv (scI 3 1) 2).toNat else 0, if Int.fmod (scI 3 2) 2 = 0 then a2 * c ^ (Int.fdiv (scI 3 2) 2).toNat else 0] = _
    rw [if_pos (by decide), if_neg (by decide), if_pos (by decide), show (Int.fdiv (scI 3 0) 2).toNat = 1 by decide, show (Int.fdiv (scI 3 2) 2).toNat = 0 by decide]
    simp [pow1]
  · show [if Int.fmod (scI 3 0) 2 = 1 then a0 * c ^ (Int.fdiv (scI 3 0) 2).toNat else 0, if Int.fmod (scI 3 1) 2 = 1 then a1 * c ^ (Int.fdiv (scI 3 1) 2).toNat else 0, if Int.fmod (scI 3 2) 2 = 1 then a2 * c ^ (Int.fdiv (scI 3 2) 2).toNat else 0] = _
    rw [if_neg (by decide), if_pos (by decide), if_neg (by decide), show (Int.fdiv (scI 3 1) 2).toNat = 0 by decide]
    simp [pow1]
theorem scE2 (a0 a1 c : Int) : scE 2 c [a0, a1] = [0, a1] ∧ scO 2 c [a0, a1] = [a0, 0] := by
  refine ⟨?_, ?_⟩
  · show [if Int.fmod (scI 2 0) 2 = 0 then a0 * c ^ (Int.fdiv (scI 2 0) 2).toNat else 0, if Int.fmod (scI 2 1) 2 = 0 then a1 * c ^ (Int.fdiv (scI 2 1) 2).toNat else 0] = _
    rw [if_neg (by decide), if_pos (by decide), show (Int.fdiv (scI 2 1) 2).toNat = 0 by decide]
    simp [pow1]
  · show [if Int.fmod (scI 2 0) 2 = 1 then a0 * c ^ (Int.fdiv (scI 2 0) 2).toNat else 0, if Int.fmod (scI 2 1) 2 = 1 then a1 * c ^ (Int.fdiv (scI 2 1) 2).toNat else 0] = _
    rw [if_pos (by decide), if_neg (by decide), show (Int.fdiv (scI 2 0) 2).toNat = 0 by decide]
    simp [pow1]
theorem plus0_getD (a : List Int) (i : Nat) : (plusP a [] 1).getD i 0 = a.getD i 0 := by
  rw [plus_getD, List.getD_nil]; omega
theorem plus0_len (a : List Int) : (plusP a [] 1).length ≤ a.length := by
  have := plusP_len a [] 1
  rw [List.length_nil] at this
  omega
theorem prod4 {a0 a1 a2 a3 c : Int} (ha : a3 ≠ 0) (hc : c ≠ 0) : zcomposeP (through_valuesP (prodVals [a0, a1, a2, a3] [0 - c, 0, 1] 6)) [-1, 1] = normP (scaledP [a0, a1, a2, a3] c).1 (scaledP [a0, a1, a2, a3] c).2 c := by
  show _ = normP (plusP (scE 4 c [a0, a1, a2, a3]) [] 1) (plusP (scO 4 c [a0, a1, a2, a3]) [] 1) c
  rw [(scE4 a0 a1 a2 a3 c).1, (scE4 a0 a1 a2 a3 c).2]
  rw [norm7 (p0 := 0) (p1 := a1 * c) (p2 := 0) (p3 := a3) (r0 := a0 * c) (r1 := 0) (r2 := a2) (r3 := 0) (plus0_len _) (plus0_len _) (plus0_getD _ 0) (plus0_getD _ 1) (plus0_getD _ 2) (plus0_getD _ 3) (plus0_getD _ 0) (plus0_getD _ 1) (plus0_getD _ 2) (plus0_getD _ 3)]
  unfold nrm prodVals
  refine prod7 _ _ _ _ _ _ _ _ fun x => ?_
  rw [scaled_quad, res43 ha (by omega)]
  unfold S43
  grind
theorem prod3' {a0 a1 a2 c : Int} (ha : a2 ≠ 0) (hc : c ≠ 0) : zcomposeP (through_valuesP (prodVals [a0, a1, a2] [0 - c, 0, 1] 4)) [-1, 1] = normP (scaledP [a0, a1, a2] c).1 (scaledP [a0, a1, a2] c).2 c := by
  show _ = normP (plusP (scE 3 c [a0, a1, a2]) [] 1) (plusP (scO 3 c [a0, a1, a2]) [] 1) c
  rw [(scE3 a0 a1 a2 c).1, (scE3 a0 a1 a2 c).2]
  rw [norm5 (p0 := a0 * c) (p1 := 0) (p2 := a2) (r0 := 0) (r1 := a1) (r2 := 0) (plus0_len _) (plus0_len _) (plus0_getD _ 0) (plus0_getD _ 1) (plus0_getD _ 2) (plus0_getD _ 0) (plus0_getD _ 1) (plus0_getD _ 2)]
  unfold prodVals
  refine prod5 _ _ _ _ _ _ fun x => ?_
  rw [scaled_quad, res33 ha (by omega)]
  unfold S33
  grind
theorem prod2' {a0 a1 c : Int} (ha : a1 ≠ 0) (hc : c ≠ 0) : zcomposeP (through_valuesP (prodVals [a0, a1] [0 - c, 0, 1] 2)) [-1, 1] = normP (scaledP [a0, a1] c).1 (scaledP [a0, a1] c).2 c := by
  show _ = normP (plusP (scE 2 c [a0, a1]) [] 1) (plusP (scO 2 c [a0, a1]) [] 1) c
  rw [(scE2 a0 a1 c).1, (scE2 a0 a1 c).2]
  rw [norm3 (p0 := 0) (p1 := a1) (r0 := a0) (r1 := 0) (plus0_len _) (plus0_len _) (plus0_getD _ 0) (plus0_getD _ 1) (plus0_getD _ 0) (plus0_getD _ 1)]
  unfold prodVals
  refine prod3 _ _ _ _ fun x => ?_
  rw [scaled_quad, res23 ha (by omega)]
  unfold S32
  grind
-- the shifted one
noncomputable def sst (c : Int) (acc : List Int) (x : Int) : List Int := plusP (timesP [0 - c, 1] acc) [x] 1
theorem sst_trim (c : Int) (acc : List Int) (x : Int) : Trim (sst c acc x) := plus_trim _ _ _
theorem sst0 (c : Int) (acc : List Int) (x : Int) : (sst c acc x).getD 0 0 = (0 - c) * acc.getD 0 0 + x := by
  unfold sst
  rw [plus_getD, times_getD]
  simp [sumc, sh]
theorem sstS (c : Int) (acc : List Int) (x : Int) (i : Nat) : (sst c acc x).getD (i + 1) 0 = (0 - c) * acc.getD (i + 1) 0 + acc.getD i 0 := by
  unfold sst
  rw [plus_getD, times_getD]
  simp [sumc, sh]
theorem shift4 {a0 a1 a2 a3 c : Int} (ha : a3 ≠ 0) : through_valuesP (sumVals [a0, a1, a2, a3] [0 - c, 1] 3) = shiftPre c [a0, a1, a2, a3].reverse := by
  unfold shiftPre
  simp only [List.reverse_cons, List.reverse_nil, List.nil_append, List.cons_append, List.foldl_cons, List.foldl_nil]
  show _ = sst c (sst c (sst c (sst c [] a3) a2) a1) a0
  unfold sumVals
  rw [vals4 _ (a0 - c * a1 + c * c * a2 - c * c * c * a3) (a1 - 2 * (c * a2) + 3 * (c * c * a3)) (a2 - 3 * (c * a3)) a3 (fun x => by rw [lin_shift, res42 ha (by decide)]; unfold S42; grind)]
  refine Trim.ext (trim_trim _) (sst_trim _ _ _) fun i => ?_
  rw [getD_trim]
  rcases i with _ | _ | _ | _ | j <;> (simp only [sst0, sstS, List.getD_cons_zero, List.getD_cons_succ, List.getD_nil] <;> grind)
theorem shift3 {a0 a1 a2 c : Int} (ha : a2 ≠ 0) : through_valuesP (sumVals [a0, a1, a2] [0 - c, 1] 2) = shiftPre c [a0, a1, a2].reverse := by
  unfold shiftPre
  simp only [List.reverse_cons, List.reverse_nil, List.nil_append, List.cons_append, List.foldl_cons, List.foldl_nil]
  show _ = sst c (sst c (sst c [] a2) a1) a0
  unfold sumVals
  rw [vals3 _ (a0 - c * a1 + c * c * a2) (a1 - 2 * (c * a2)) a2 (fun x => by rw [lin_shift, res32 ha (by decide)]; unfold S32; grind)]
  refine Trim.ext (trim_trim _) (sst_trim _ _ _) fun i => ?_
  rw [getD_trim]
  rcases i with _ | _ | _ | j <;> (simp only [sst0, sstS, List.getD_cons_zero, List.getD_cons_succ, List.getD_nil] <;> grind)
theorem shift2 {a0 a1 c : Int} (ha : a1 ≠ 0) : through_valuesP (sumVals [a0, a1] [0 - c, 1] 1) = shiftPre c [a0, a1].reverse := by
  unfold shiftPre
  simp only [List.reverse_cons, List.reverse_nil, List.nil_append, List.cons_append, List.foldl_cons, List.foldl_nil]
  show _ = sst c (sst c [] a1) a0
  unfold sumVals
  rw [vals2 _ (a0 - c * a1) a1 (fun x => by rw [lin_shift, res22 ha (by decide)]; unfold S22; grind)]
  refine Trim.ext (trim_trim _) (sst_trim _ _ _) fun i => ?_
  rw [getD_trim]
  rcases i with _ | _ | j <;> (simp only [sst0, sstS, List.getD_cons_zero, List.getD_cons_succ, List.getD_nil] <;> grind)
end
section
set_option maxRecDepth 4000
theorem sml_nil : SmL [] := fun _ h => nomatch h
theorem sml_cons {x : Int} {l : List Int} (h : Sm x) (h' : SmL l) : SmL (x :: l) := fun z hz => by
  rcases List.mem_cons.mp hz with rfl | hz
  · exact h
  · exact h' z hz
theorem sm_zero : Sm 0 := ⟨by decide⟩
theorem getD_sm {l : List Int} (h : SmL l) (i : Nat) : Sm (l.getD i 0) := by
  by_cases hi : i < l.length
  · simp only [List.getD, List.getElem?_eq_getElem hi, Option.getD_some]
    exact h _ (List.getElem_mem hi)
  · rw [getD_of_le (by omega)]; exact sm_zero
theorem sml_of {l m : List Int} (h : SmL m) (e : ∀ i, l.getD i 0 = m.getD i 0) : SmL l := fun z hz => by
  obtain ⟨i, hi, rfl⟩ := List.getElem_of_mem hz
  have q := getD_sm h i
  rw [← e i] at q
  simpa [List.getD, List.getElem?_eq_getElem hi] using q
theorem sml_plus {l : List Int} (h : SmL l) : SmL (plusP l [] 1) := sml_of h fun i => plus0_getD l i
theorem scaled4 (a0 a1 a2 a3 c : Int) : scaledP [a0, a1, a2, a3] c = (plusP [0, a1 * c, 0, a3] [] 1, plusP [a0 * c, 0, a2, 0] [] 1) := by
  unfold scaledP
  simp only [List.length_cons, List.length_nil, Nat.zero_add, Nat.reduceAdd]
  rw [(scE4 a0 a1 a2 a3 c).1, (scE4 a0 a1 a2 a3 c).2]
theorem scaled3 (a0 a1 a2 c : Int) : scaledP [a0, a1, a2] c = (plusP [a0 * c, 0, a2] [] 1, plusP [0, a1, 0] [] 1) := by
  unfold scaledP
  simp only [List.length_cons, List.length_nil, Nat.zero_add, Nat.reduceAdd]
  rw [(scE3 a0 a1 a2 c).1, (scE3 a0 a1 a2 c).2]
theorem scaled2 (a0 a1 c : Int) : scaledP [a0, a1] c = (plusP [0, a1] [] 1, plusP [a0, 0] [] 1) := by
  unfold scaledP
  simp only [List.length_cons, List.length_nil, Nat.zero_add, Nat.reduceAdd]
  rw [(scE2 a0 a1 c).1, (scE2 a0 a1 c).2]
theorem sumVals_len (a b : List Int) (N : Nat) : (sumVals a b N).length = N + 1 := by unfold sumVals; simp
theorem prodVals_len (a b : List Int) (N : Nat) : (prodVals a b N).length = N + 1 := by unfold prodVals; simp
theorem bdI {x : Int} {B : Nat} (h1 : -(B : Int) ≤ x) (h2 : x ≤ (B : Int)) : Bd x B := by unfold Bd; omega
theorem b3 {x : Int} (h : -3 ≤ x ∧ x ≤ 3) : Bd x 3 := bdI (by omega) (by omega)
theorem bc {c : Int} (h : -6 ≤ c ∧ c ≤ 6) : Bd c 6 := bdI (by omega) (by omega)
theorem k0_sum {x c : Int} (h0 : 0 ≤ x) (h1 : x ≤ 6) (h : -6 ≤ c ∧ c ≤ 6) : Bd (x * x - c) 64 ∧ Bd (-2 * x) 64 ∧ Bd (1 : Int) 64 :=
  ⟨(((bdI (B := 6) (by omega) (by omega)).mul (bdI (B := 6) (by omega) (by omega))).sub (bc h)).mono (by decide), bdI (by omega) (by omega), bd1 (by decide)⟩
theorem k0_prod {x c : Int} (h0 : 1 ≤ x) (h1 : x ≤ 7) (h : -6 ≤ c ∧ c ≤ 6) : Bd (x * x) 64 ∧ Bd (0 : Int) 64 ∧ Bd (0 - c) 64 :=
  ⟨((bdI (B := 7) (by omega) (by omega)).mul (bdI (B := 7) (by omega) (by omega))).mono (by decide), bd0, bdI (by omega) (by omega)⟩
theorem plain4 {a0 a1 a2 a3 c : Int} (h0 : -3 ≤ a0 ∧ a0 ≤ 3) (h1 : -3 ≤ a1 ∧ a1 ≤ 3) (h2 : -3 ≤ a2 ∧ a2 ≤ 3) (h3 : -3 ≤ a3 ∧ a3 ≤ 3) (ha : a3 ≠ 0) (hc : -6 ≤ c ∧ c ≤ 6) (hc0 : c ≠ 0) : PlainLaw [a0, a1, a2, a3] c 3 where
  sc := (bc hc).sm (by decide)
  sc0 := Sm.of (by omega) (by omega)
  sf := sml_cons ((b3 h0).sm (by decide)) (sml_cons ((b3 h1).sm (by decide)) (sml_cons ((b3 h2).sm (by decide)) (sml_cons ((b3 h3).sm (by decide)) sml_nil)))
  scl := sml_cons (Sm.of (by omega) (by omega)) (sml_cons sm_one sml_nil)
  len := rfl
  n1 := by decide
  hN2 := rfl
  hN1 := rfl
  ok2 := ⟨fun x x0 x1 => by
    have q := k0_sum (x := x) x0 (by omega) hc
    rw [quad_shift]
    exact resok43 ha (by decide) ((b3 h0).mono (by decide)) ((b3 h1).mono (by decide)) ((b3 h2).mono (by decide)) ((b3 h3).mono (by decide)) q.1 q.2.1 q.2.2, fun x _ _ => by rw [quad_shift]; simp⟩
  ok1 := ⟨fun x x0 x1 => by
    rw [lin_shift]
    exact resok42 ha (by decide) ((b3 h0).mono (by decide)) ((b3 h1).mono (by decide)) ((b3 h2).mono (by decide)) ((b3 h3).mono (by decide)) (bdI (by omega) (by omega)) (bdI (by decide) (by decide)), fun x _ _ => by rw [lin_shift]; simp⟩
  okp := ⟨fun x x0 x1 => by
    have q := k0_prod (x := x) x0 (by omega) hc
    rw [scaled_quad]
    exact resok43 ha (by omega) ((b3 h0).mono (by decide)) ((b3 h1).mono (by decide)) ((b3 h2).mono (by decide)) ((b3 h3).mono (by decide)) q.1 q.2.1 q.2.2, fun x _ _ => by rw [scaled_quad]; simp⟩
  hB2 := base_sm _ (by rw [sumVals_len]; decide)
  hB1 := base_sm _ (by rw [sumVals_len]; decide)
  hBp := base_sm _ (by rw [prodVals_len]; decide)
  sm1 := by
    rw [moved4 ha]
    exact sml_cons (((b3 h0).add ((bc hc).mul (b3 h2))).sm (by decide)) (sml_cons (((b3 h1).add ((bdI (x := 3) (B := 3) (by decide) (by decide)).mul ((bc hc).mul (b3 h3)))).sm (by decide)) (sml_cons ((b3 h2).sm (by decide)) (sml_cons ((b3 h3).sm (by decide)) sml_nil)))
  sm2 := by
    rw [moved4 ha]
    exact sml_cons (((b3 h1).add ((bc hc).mul (b3 h3))).sm (by decide)) (sml_cons (Sm.of (by omega) (by omega)) (sml_cons (Sm.of (by omega) (by omega)) sml_nil))
  ss1 := by
    rw [scaled4]
    exact sml_plus (sml_cons sm_zero (sml_cons (((b3 h1).mul (bc hc)).sm (by decide)) (sml_cons sm_zero (sml_cons ((b3 h3).sm (by decide)) sml_nil))))
  ss2 := by
    rw [scaled4]
    exact sml_plus (sml_cons (((b3 h0).mul (bc hc)).sm (by decide)) (sml_cons sm_zero (sml_cons ((b3 h2).sm (by decide)) (sml_cons sm_zero sml_nil))))
  e1 := sum4 ha
  e2 := prod4 ha hc0
  e3 := shift4 ha
theorem plain3 {a0 a1 a2 c : Int} (h0 : -3 ≤ a0 ∧ a0 ≤ 3) (h1 : -3 ≤ a1 ∧ a1 ≤ 3) (h2 : -3 ≤ a2 ∧ a2 ≤ 3) (ha : a2 ≠ 0) (hc : -6 ≤ c ∧ c ≤ 6) (hc0 : c ≠ 0) : PlainLaw [a0, a1, a2] c 2 where
  sc := (bc hc).sm (by decide)
  sc0 := Sm.of (by omega) (by omega)
  sf := sml_cons ((b3 h0).sm (by decide)) (sml_cons ((b3 h1).sm (by decide)) (sml_cons ((b3 h2).sm (by decide)) sml_nil))
  scl := sml_cons (Sm.of (by omega) (by omega)) (sml_cons sm_one sml_nil)
  len := rfl
  n1 := by decide
  hN2 := rfl
  hN1 := rfl
  ok2 := ⟨fun x x0 x1 => by
    have q := k0_sum (x := x) x0 (by omega) hc
    rw [quad_shift]
    exact resok33 ha (by decide) ((b3 h0).mono (by decide)) ((b3 h1).mono (by decide)) ((b3 h2).mono (by decide)) q.1 q.2.1 q.2.2, fun x _ _ => by rw [quad_shift]; simp⟩
  ok1 := ⟨fun x x0 x1 => by
    rw [lin_shift]
    exact resok32 ha (by decide) ((b3 h0).mono (by decide)) ((b3 h1).mono (by decide)) ((b3 h2).mono (by decide)) (bdI (by omega) (by omega)) (bdI (by decide) (by decide)), fun x _ _ => by rw [lin_shift]; simp⟩
  okp := ⟨fun x x0 x1 => by
    have q := k0_prod (x := x) x0 (by omega) hc
    rw [scaled_quad]
    exact resok33 ha (by omega) ((b3 h0).mono (by decide)) ((b3 h1).mono (by decide)) ((b3 h2).mono (by decide)) q.1 q.2.1 q.2.2, fun x _ _ => by rw [scaled_quad]; simp⟩
  hB2 := base_sm _ (by rw [sumVals_len]; decide)
  hB1 := base_sm _ (by rw [sumVals_len]; decide)
  hBp := base_sm _ (by rw [prodVals_len]; decide)
  sm1 := by
    rw [moved3 ha]
    exact sml_cons (((b3 h0).add ((bc hc).mul (b3 h2))).sm (by decide)) (sml_cons ((b3 h1).sm (by decide)) (sml_cons ((b3 h2).sm (by decide)) sml_nil))
  sm2 := by
    rw [moved3 ha]
    exact sml_cons ((b3 h1).sm (by decide)) (sml_cons (Sm.of (by omega) (by omega)) sml_nil)
  ss1 := by
    rw [scaled3]
    exact sml_plus (sml_cons (((b3 h0).mul (bc hc)).sm (by decide)) (sml_cons sm_zero (sml_cons ((b3 h2).sm (by decide)) sml_nil)))
  ss2 := by
    rw [scaled3]
    exact sml_plus (sml_cons sm_zero (sml_cons ((b3 h1).sm (by decide)) (sml_cons sm_zero sml_nil)))
  e1 := sum3 ha
  e2 := prod3' ha hc0
  e3 := shift3 ha
theorem plain2 {a0 a1 c : Int} (h0 : -3 ≤ a0 ∧ a0 ≤ 3) (h1 : -3 ≤ a1 ∧ a1 ≤ 3) (ha : a1 ≠ 0) (hc : -6 ≤ c ∧ c ≤ 6) (hc0 : c ≠ 0) : PlainLaw [a0, a1] c 1 where
  sc := (bc hc).sm (by decide)
  sc0 := Sm.of (by omega) (by omega)
  sf := sml_cons ((b3 h0).sm (by decide)) (sml_cons ((b3 h1).sm (by decide)) sml_nil)
  scl := sml_cons (Sm.of (by omega) (by omega)) (sml_cons sm_one sml_nil)
  len := rfl
  n1 := by decide
  hN2 := rfl
  hN1 := rfl
  ok2 := ⟨fun x x0 x1 => by
    have q := k0_sum (x := x) x0 (by omega) hc
    rw [quad_shift]
    exact resok23 ha (by decide) ((b3 h0).mono (by decide)) ((b3 h1).mono (by decide)) q.1 q.2.1 q.2.2, fun x _ _ => by rw [quad_shift]; simp⟩
  ok1 := ⟨fun x x0 x1 => by
    rw [lin_shift]
    exact resok22 ha (by decide) ((b3 h0).mono (by decide)) ((b3 h1).mono (by decide)) (bdI (by omega) (by omega)) (bdI (by decide) (by decide)), fun x _ _ => by rw [lin_shift]; simp⟩
  okp := ⟨fun x x0 x1 => by
    have q := k0_prod (x := x) x0 (by omega) hc
    rw [scaled_quad]
    exact resok23 ha (by omega) ((b3 h0).mono (by decide)) ((b3 h1).mono (by decide)) q.1 q.2.1 q.2.2, fun x _ _ => by rw [scaled_quad]; simp⟩
  hB2 := base_sm _ (by rw [sumVals_len]; decide)
  hB1 := base_sm _ (by rw [sumVals_len]; decide)
  hBp := base_sm _ (by rw [prodVals_len]; decide)
  sm1 := by
    rw [moved2 ha]
    exact sml_cons ((b3 h0).sm (by decide)) (sml_cons ((b3 h1).sm (by decide)) sml_nil)
  sm2 := by
    rw [moved2 ha]
    exact sml_cons ((b3 h1).sm (by decide)) sml_nil
  ss1 := by
    rw [scaled2]
    exact sml_plus (sml_cons sm_zero (sml_cons ((b3 h1).sm (by decide)) sml_nil))
  ss2 := by
    rw [scaled2]
    exact sml_plus (sml_cons ((b3 h0).sm (by decide)) (sml_cons sm_zero sml_nil))
  e1 := sum2 ha
  e2 := prod2' ha hc0
  e3 := shift2 ha
theorem plain_law {f0 fl c : Int} {zs : List Int} (h1 : -3 ≤ f0 ∧ f0 ≤ 3) (h2 : -3 ≤ fl ∧ fl ≤ 3) (h3 : fl ≠ 0) (h4 : ∀ z ∈ zs, -3 ≤ z ∧ z ≤ 3) (h5 : zs.length ≤ 2) (h6 : -6 ≤ c ∧ c ≤ 6) (h7 : c ≠ 0) :
    ∃ n, PlainLaw ([f0] ++ zs ++ [fl]) c n := by
  rcases zs with _ | ⟨x, _ | ⟨y, _ | ⟨z, r⟩⟩⟩
  · exact ⟨1, plain2 h1 h2 h3 h6 h7⟩
  · exact ⟨2, plain3 h1 (h4 x (by simp)) h2 h3 h6 h7⟩
  · exact ⟨3, plain4 h1 (h4 x (by simp)) (h4 y (by simp)) h2 h3 h6 h7⟩
  · simp at h5
end
section
theorem plain_of {ws : List Value} {f0 fl c : Int} {zs : List Int} (h1 : -3 ≤ f0 ∧ f0 ≤ 3) (h2 : -3 ≤ fl ∧ fl ≤ 3) (h3 : fl ≠ 0) (h4 : ∀ z ∈ zs, -3 ≤ z ∧ z ≤ 3) (h5 : zs.length ≤ 2) (h6 : -6 ≤ c ∧ c ≤ 6) (h7 : c ≠ 0) (h : IntsAre ws ([f0] ++ zs ++ [fl])) : ∃ f n, PlainLaw f c n ∧ IntsAre ws f := by
  obtain ⟨n, P⟩ := plain_law h1 h2 h3 h4 h5 h6 h7
  exact ⟨_, n, P, h⟩
theorem shift_turn {c x : Int} {pre zs : List Int} (hz : zs = shiftPre c pre) (hl : zs.length ≤ 2 * pre.length) :
    plusP (timesP [0 - c, 1] zs) [x] 1 = shiftPre c (pre ++ [x]) ∧ (plusP (timesP [0 - c, 1] zs) [x] 1).length ≤ 2 * (pre ++ [x]).length := by
  have h1 := plusP_len (timesP [0 - c, 1] zs) [x] 1
  have h2 := timesP_len [0 - c, 1] zs
  simp only [List.length_cons, List.length_nil, List.length_append] at h1 h2 ⊢
  refine ⟨?_, by omega⟩
  rw [shiftPre_snoc, hz]
section
variable {prog : Program} {w : World} {A : Around} {E : Value → Shared → Prop} {s : Shared} {env : Env} {h₀ : Heap} {L : Addr} {body : List Stmt} {Q : Flow → Shared → Prop}
/-- the law's own last loop: one list is bound anew, another one stays -/
theorem lp_law {x : Str} {px : Pos} {l lf D₀ : Addr} {vs wf : List Value} {ns f : List Int} {n₀ nf nl : Nat} {m₀ : Str → Option Value} {news : List (Addr × Obj)} (y : Str) (stored : List Str) (P : List Int → List Int → Prop)
    (F : Fr h₀ L s.heap m₀) (N : News h₀ L s.heap news) (hi : IntsAre vs ns) (hif : IntsAre wf f) (m1 : (l, listOf vs.toArray nl) ∈ news) (m2 : (lf, listOf wf.toArray nf) ∈ news) (m3 : (D₀, listOf (List.toArray []) n₀) ∈ news) (n1 : D₀ ≠ l) (n2 : lf ≠ l) (n3 : lf ≠ D₀)
    (hh : A.handled = none) (hL : env.locals = L) (hx : env.kindOf x = some .local) (hpl : (env.scope.kind == .class || (env.scope.kind == .module && env.locals != env.globals)) = false) (hy : m₀ y = some (.ref D₀)) (hp : P [] [])
    (turn : ∀ pre post a t D vs' n zs (u : Str → Option Value) h tk own, ns = pre ++ a :: post → IntsAre vs' zs → P pre zs → (∀ p ∈ own, p.1 ≠ D) → (∀ p ∈ own, p.1 ≠ lf) → lf ≠ D →
      Fr h₀ L h (fun z => if z = x then some (.int a t) else if z = y then some (.ref D) else if stored.contains z then u z else m₀ z) → News h₀ L h ((D, listOf (List.toArray vs') n) :: (lf, listOf wf.toArray nf) :: own) →
      wpAny (model prog w) A (execs body env) (Lp1Post h₀ L s y stored m₀ [(lf, listOf wf.toArray nf)] own (P (pre ++ [a])) Q) E { s with heap := h, toks := tk })
    (done : ∀ D vs' n zs (u : Str → Option Value) h tk, IntsAre vs' zs → P ns zs → lf ≠ D → Fr h₀ L h (fun z => if z = y then some (.ref D) else if stored.contains z then u z else m₀ z) → News h₀ L h [(D, listOf (List.toArray vs') n), (lf, listOf wf.toArray nf)] → Q .next { s with heap := h, toks := tk })
    (hE : PassesOwn (model prog w) A env E) :
    wpAny (model prog w) A (pyIter (.ref l)) (fun it s₂ => codeAny (model prog w) A (.forLoop (.Name x px) it body [] env) (fun r s' => match r with | .ok f => Q f s' | .error e => cameBackBy (model prog w) A env E e s') s₂) E s := by
  refine lp_list1 (L := L) y stored P (rest := [(lf, listOf wf.toArray nf)]) (D₀ := D₀) (vs₀ := []) (n₀ := n₀) (zs₀ := []) hh hL hx hpl (N.isList m1) hi ?_ F (news_two N m3 m2) .nil hy hp ?_ ?_ ?_ hE
  · intro p hp
    rcases List.mem_cons.mp hp with rfl | hp
    · exact n1
    · rw [List.mem_singleton.mp hp]; exact n2
  · intro p hp
    rw [List.mem_singleton.mp hp]; exact n3
  · intro pre post a t D vs' n zs u h tk own e hf hp hd hro hrd F N
    exact turn pre post a t D vs' n zs u h tk own e hf hp hd (fun p hp => hro p hp _ (.head _)) (hrd _ (.head _)) F N
  · intro D vs' n zs u h tk hf hp hrd F N
    exact done D vs' n zs u h tk hf hp (hrd _ (.head _)) F N
end
theorem own_two' {own : List (Addr × Obj)} {a1 a2 : Addr} (h1 : ∀ p ∈ own, p.1 ≠ a1) (h2 : ∀ p ∈ own, p.1 ≠ a2) : OwnOff own [a1, a2] := by
  intro p hp b hb
  simp only [List.mem_cons, List.not_mem_nil, or_false] at hb
  rcases hb with rfl | rfl
  · exact h1 p hp
  · exact h2 p hp
structure LenEq (a b : Nat) (N : Nat) : Prop where
  ok : ((a : Int) - 1) * ((b : Int) - 1) = (N : Int)
structure BaseSum (f g : List Int) (N : Nat) : Prop where
  ok : ∀ i, i < (sumVals f g N).length → SmL (tvPre (sumVals f g N) i).2.1
structure BaseProd (f g : List Int) (N : Nat) : Prop where
  ok : ∀ i, i < (prodVals f g N).length → SmL (tvPre (prodVals f g N) i).2.1
theorem law_holds : PySem.Challenge.rw_sa0099_01.Holds := by
  refine Mine.hd ?_
  k_go0
  all_goals try k_fold
  k_with_none
  k_with "my w1" => ((k_here; (with_reducible show wpAny _ _ (exec (Stmt.While _ _ _ _) _) _ _ _); k_extra "my while"))
  k_with "my w1" => ((k_here; (with_reducible show wpAny _ _ (exec (Stmt.For _ _ _ _ _) _) _ _ _); k_extra "my for"))
  k_with "pyIter ref" => ((k_here; k_extra "my iter"))
  k_with "call type:enumerate" => ((k_here; k_extra "my enum"))
  k_with "my fits" => (first | exact MulAll.ok (by assumption) _ (by assumption) | exact Sm.mulR (by assumption) | exact Sm.mulL (by assumption) | exact Sm.mulR (SmL.at (by assumption) (by assumption)) | exact Sm.mulL (SmL.at (by assumption) (by assumption)))
  k_with "binaryOp FloorDiv int int" => ((k_here; k_dflt ((refine floordiv_int ?kb ?_ (Or.inl (Sm.py ?kp))); (case kb => first | assumption | exact Nz.ne (by assumption) | omega | exact PowNz.ok (by assumption) _); (case kp => first | assumption | exact PowSm.ok (by assumption) _ (by omega)))))
  k_with "exec Raise some none" => ((exfalso; omega))
  k_with "call ref" => ((k_here; k_extra "my call"))
  k_with "compareOp Eq ref ref" => ((k_here; k_dflt ((refine' eq_intsK ?k1 ?k2 ?k3 ?k4 ?k5 ?_); (case k1 => first | exact isl (by assumption) (by k_mem) | exact isl_nil (by assumption) (by k_mem) | is_list); (case k3 => first | exact isl (by assumption) (by k_mem) | exact isl_nil (by assumption) (by k_mem) | is_list); (case k2 => first | assumption | exact .nil | exact .cons _ _ .nil | exact .cons _ _ (.cons _ _ .nil) | exact .cons _ _ (.cons _ _ (.cons _ _ .nil)) | l_ints); (case k4 => first | assumption | exact .nil | exact .cons _ _ .nil | exact .cons _ _ (.cons _ _ .nil) | exact .cons _ _ (.cons _ _ (.cons _ _ .nil)) | l_ints); (case k5 => first | ((try simp only [units_in1, units_deeper, Around.mark_units, units_caller]); (try dsimp only [ktrTop]); first | exact unitsK (by assumption) (by decide) | exact unitsK64 (by assumption) (by decide) | exact unitsG rfl (by decide) | exact unitsG64 rfl) | ktr_units))))
  k_with "compareOp NotEq ref ref" => ((k_here; k_dflt ((refine' ne_intsK ?k1 ?k2 ?k3 ?k4 ?k5 ?_); (case k1 => first | exact isl (by assumption) (by k_mem) | exact isl_nil (by assumption) (by k_mem) | is_list); (case k3 => first | exact isl (by assumption) (by k_mem) | exact isl_nil (by assumption) (by k_mem) | is_list); (case k2 => first | assumption | exact .nil | exact .cons _ _ .nil | exact .cons _ _ (.cons _ _ .nil) | exact .cons _ _ (.cons _ _ (.cons _ _ .nil)) | l_ints); (case k4 => first | assumption | exact .nil | exact .cons _ _ .nil | exact .cons _ _ (.cons _ _ .nil) | exact .cons _ _ (.cons _ _ (.cons _ _ .nil)) | l_ints); (case k5 => first | ((try simp only [units_in1, units_deeper, Around.mark_units, units_caller]); (try dsimp only [ktrTop]); first | exact unitsK (by assumption) (by decide) | exact unitsK64 (by assumption) (by decide) | exact unitsG rfl (by decide) | exact unitsG64 rfl) | ktr_units))))
  k_with "my w1" => ((k_here; (with_reducible show wpAny _ _ (call (Value.ref 184) _) _ _ _); k_dflt ((refine' use_T _ _ _ _ ?hi ?hl ?hk0 ?hk1 ?hm0 ?hm1 ?kB ?kF ?kX ?kT ?kK ?kd ?ku ?kN ?kU ?kR ?kBR ?_); (case kN => k_asm); (case kU => first | assumption | k_updF); (case kR => k_mem); (case kBR => k_ne); (case hi => assumption); (case hl => first | assumption | (rw [List.length_take]; omega)); (case hk0 => omega); (case hk1 => omega); (case hm0 => omega); (case hm1 => omega); (case kB => k_asm); (case kF => k_asm); (case kX => k_asm); (case kT => k_asm); (case kK => first | exact rfl | assumption); (case kd => first | exact roomK (by assumption) (by decide) | ((try simp only [depth_under_make, depth_under_kw, depth_in1, depth_deeper, depth_caller]); (try dsimp only [ktrTop]); first | exact roomK (by assumption) (by decide) | exact roomG rfl (by decide)) | ktr_room); (case ku => first | ((try simp only [units_in1, units_deeper, Around.mark_units, units_caller]); (try dsimp only [ktrTop]); first | exact unitsK (by assumption) (by decide) | exact unitsK64 (by assumption) (by decide) | exact unitsG rfl (by decide) | exact unitsG64 rfl) | ktr_units)); (intro r9 t9 h9 tk9 tkk9 hr9 hs9 F9 N9); (try dsimp only at N9); (try dsimp only); (try k_sweep); (try k_fold)))
  k_with "my w1" => ((k_here; (with_reducible show wpAny _ _ (subscriptTail (Expr.List _ _) _ (Value.ref _) (Value.int _ _)) _ _ _); k_dflt ((refine' item_menu ?k1 ?k2 ?k3 ?k4 ?k5 ?_); (case k1 => exact isl (by assumption) (by k_mem)); (case k2 => first | exact ints3 | exact ints4 | exact ints6 | exact ints12); (case k3 => omega); (case k4 => simp only [List.length_cons, List.length_nil]; omega); (case k5 => omega)); (intro x9 t9 of9)))
  k_with "my w1" => ((k_here; (with_reducible show wpAny _ _ (eval (Expr.ListComp _ _ _ _) _) _ _ _); k_extra "my lc"))
  k_with "CompSrc" => ((k_here; k_extra "my src"))
  k_with "my w1" => ((k_here; (with_reducible show wpAny _ _ (call (Value.ref 210) _) _ _ _); k_extra "my moved"))
  k_with "my call" => (first | (k_dflt (refine' use_L (product_polynomial_c _ _ _ _ _ _ _ _ _ _ _ ?p0 ?p1 ?p2 ?p3 ?p4 ?p5 ?p6 ?p7) ?kB ?kF ?kX ?kN ?kT ?kK ?kd ?ku ?kP ?kb ?_; (case kP => (first | exact trivial | (first | exact isl (by assumption) (by k_mem) | is_list) | (refine And.intro ?_ ?_ <;> (first | exact isl (by assumption) (by k_mem) | is_list)))); (case p0 => first | assumption | exact .nil | exact .cons _ _ .nil | exact .cons _ _ (.cons _ _ .nil) | exact .cons _ _ (.cons _ _ (.cons _ _ .nil)) | l_ints); (case p1 => (first | assumption | (simp only [List.length_cons, List.length_nil]; omega))); (case p2 => first | assumption | exact .nil | exact .cons _ _ .nil | exact .cons _ _ (.cons _ _ .nil) | exact .cons _ _ (.cons _ _ (.cons _ _ .nil)) | l_ints); (case p3 => (first | assumption | (simp only [List.length_cons, List.length_nil]; omega))); (case p4 => exact LenEq.ok (by assumption)); (case p5 => assumption); (case p6 => assumption); (case p7 => exact BaseProd.ok (by assumption)); (case kb => exact zcomposeP_len _ _); (case kB => k_asm); (case kF => k_asm); (case kX => k_asm); (case kN => k_asm); (case kT => k_asm); (case kK => first | exact rfl | assumption); (case kd => first | exact roomK (by assumption) (by decide) | ((try simp only [depth_under_make, depth_under_kw, depth_in1, depth_deeper, depth_caller]); (try dsimp only [ktrTop]); first | exact roomK (by assumption) (by decide) | exact roomG rfl (by decide)) | ktr_room); (case ku => first | ((try simp only [units_in1, units_deeper, Around.mark_units, units_caller]); (try dsimp only [ktrTop]); first | exact unitsK (by assumption) (by decide) | exact unitsK64 (by assumption) (by decide) | exact unitsG rfl (by decide) | exact unitsG64 rfl) | ktr_units); intro l9 ys9 n9 h9 tk9 F9 N9 ne9 hi9 hb9; (have no9 := ne9); (clear ne9); (try dsimp only); (try k_sweep); (try k_fold))) | (k_dflt (refine' use_L (sum_polynomial_c _ _ _ _ _ _ _ _ _ _ _ ?p0 ?p1 ?p2 ?p3 ?p4 ?p5 ?p6 ?p7) ?kB ?kF ?kX ?kN ?kT ?kK ?kd ?ku ?kP ?kb ?_; (case kP => (first | exact trivial | (first | exact isl (by assumption) (by k_mem) | is_list) | (refine And.intro ?_ ?_ <;> (first | exact isl (by assumption) (by k_mem) | is_list)))); (case p0 => first | assumption | exact .nil | exact .cons _ _ .nil | exact .cons _ _ (.cons _ _ .nil) | exact .cons _ _ (.cons _ _ (.cons _ _ .nil)) | l_ints); (case p1 => (first | assumption | (simp only [List.length_cons, List.length_nil]; omega))); (case p2 => first | assumption | exact .nil | exact .cons _ _ .nil | exact .cons _ _ (.cons _ _ .nil) | exact .cons _ _ (.cons _ _ (.cons _ _ .nil)) | l_ints); (case p3 => (first | assumption | (simp only [List.length_cons, List.length_nil]; omega))); (case p4 => exact LenEq.ok (by assumption)); (case p5 => assumption); (case p6 => assumption); (case p7 => exact BaseSum.ok (by assumption)); (case kb => exact through_valuesP_len _); (case kB => k_asm); (case kF => k_asm); (case kX => k_asm); (case kN => k_asm); (case kT => k_asm); (case kK => first | exact rfl | assumption); (case kd => first | exact roomK (by assumption) (by decide) | ((try simp only [depth_under_make, depth_under_kw, depth_in1, depth_deeper, depth_caller]); (try dsimp only [ktrTop]); first | exact roomK (by assumption) (by decide) | exact roomG rfl (by decide)) | ktr_room); (case ku => first | ((try simp only [units_in1, units_deeper, Around.mark_units, units_caller]); (try dsimp only [ktrTop]); first | exact unitsK (by assumption) (by decide) | exact unitsK64 (by assumption) (by decide) | exact unitsG rfl (by decide) | exact unitsG64 rfl) | ktr_units); intro l9 ys9 n9 h9 tk9 F9 N9 ne9 hi9 hb9; (have no9 := ne9); (clear ne9); (try dsimp only); (try k_sweep); (try k_fold))) | (k_dflt (refine' use_Q (law_scaled_c _ _ _ _ _ _ _ _ _ ?p0 ?p1 ?p2 ?p3) ?kB ?kF ?kX ?kN ?kT ?kK ?kd ?ku ?kP ?kb1 ?kb2 ?_; (case kP => (first | exact trivial | (first | exact isl (by assumption) (by k_mem) | is_list) | (refine And.intro ?_ ?_ <;> (first | exact isl (by assumption) (by k_mem) | is_list)))); (case p0 => first | assumption | exact .nil | exact .cons _ _ .nil | exact .cons _ _ (.cons _ _ .nil) | exact .cons _ _ (.cons _ _ (.cons _ _ .nil)) | l_ints); (case p1 => first | assumption | exact Nat.lt_of_lt_of_le (by assumption) (by decide) | l_fit | omega | (simp only [List.length_cons, List.length_nil, List.length_append, List.length_map, List.length_replicate, List.length_reverse, rangeKs_length] at *; omega)); (case p2 => assumption); (case p3 => assumption); (case kb1 => exact scaledP_len1 _ _); (case kb2 => exact scaledP_len2 _ _); (case kB => k_asm); (case kF => k_asm); (case kX => k_asm); (case kN => k_asm); (case kT => k_asm); (case kK => first | exact rfl | assumption); (case kd => first | exact roomK (by assumption) (by decide) | ((try simp only [depth_under_make, depth_under_kw, depth_in1, depth_deeper, depth_caller]); (try dsimp only [ktrTop]); first | exact roomK (by assumption) (by decide) | exact roomG rfl (by decide)) | ktr_room); (case ku => first | ((try simp only [units_in1, units_deeper, Around.mark_units, units_caller]); (try dsimp only [ktrTop]); first | exact unitsK (by assumption) (by decide) | exact unitsK64 (by assumption) (by decide) | exact unitsG rfl (by decide) | exact unitsG64 rfl) | ktr_units); intro T9 q9 l9 yq9 ys9 n9 nq9 nr9 h9 tk9 F9 N9 neT9 neq9 ne9 nql9 iq9 hi9 bq9 hb9; (have no9 := ne9); (clear ne9); (try dsimp only); (try k_sweep); (try k_fold))) | (k_dflt (refine' use_Q (law_moved_c _ _ _ _ _ _ _ _ _ ?p0 ?p1 ?p2) ?kB ?kF ?kX ?kN ?kT ?kK ?kd ?ku ?kP ?kb1 ?kb2 ?_; (case kP => (first | exact trivial | (first | exact isl (by assumption) (by k_mem) | is_list) | (refine And.intro ?_ ?_ <;> (first | exact isl (by assumption) (by k_mem) | is_list)))); (case p0 => first | assumption | exact .nil | exact .cons _ _ .nil | exact .cons _ _ (.cons _ _ .nil) | exact .cons _ _ (.cons _ _ (.cons _ _ .nil)) | l_ints); (case p1 => first | assumption | exact Nat.lt_of_lt_of_le (by assumption) (by decide) | l_fit | omega | (simp only [List.length_cons, List.length_nil, List.length_append, List.length_map, List.length_replicate, List.length_reverse, rangeKs_length] at *; omega)); (case p2 => assumption); (case kb1 => exact movedP_len1 _ _); (case kb2 => exact movedP_len2 _ _); (case kB => k_asm); (case kF => k_asm); (case kX => k_asm); (case kN => k_asm); (case kT => k_asm); (case kK => first | exact rfl | assumption); (case kd => first | exact roomK (by assumption) (by decide) | ((try simp only [depth_under_make, depth_under_kw, depth_in1, depth_deeper, depth_caller]); (try dsimp only [ktrTop]); first | exact roomK (by assumption) (by decide) | exact roomG rfl (by decide)) | ktr_room); (case ku => first | ((try simp only [units_in1, units_deeper, Around.mark_units, units_caller]); (try dsimp only [ktrTop]); first | exact unitsK (by assumption) (by decide) | exact unitsK64 (by assumption) (by decide) | exact unitsG rfl (by decide) | exact unitsG64 rfl) | ktr_units); intro T9 q9 l9 yq9 ys9 n9 nq9 nr9 h9 tk9 F9 N9 neT9 neq9 ne9 nql9 iq9 hi9 bq9 hb9; (have no9 := ne9); (clear ne9); (try dsimp only); (try k_sweep); (try k_fold))) | (k_dflt (refine' use_L (law_norm_c _ _ _ _ _ _ _ _ _ _ _ _ ?p0 ?p1 ?p2 ?p3 ?p4 ?p5 ?p6) ?kB ?kF ?kX ?kN ?kT ?kK ?kd ?ku ?kP ?kb ?_; (case kP => (first | exact trivial | (first | exact isl (by assumption) (by k_mem) | is_list) | (refine And.intro ?_ ?_ <;> (first | exact isl (by assumption) (by k_mem) | is_list)))); (case p0 => first | assumption | exact .nil | exact .cons _ _ .nil | exact .cons _ _ (.cons _ _ .nil) | exact .cons _ _ (.cons _ _ (.cons _ _ .nil)) | l_ints); (case p1 => first | assumption | exact Nat.lt_of_lt_of_le (by assumption) (by decide) | l_fit | omega | (simp only [List.length_cons, List.length_nil, List.length_append, List.length_map, List.length_replicate, List.length_reverse, rangeKs_length] at *; omega)); (case p2 => first | assumption | exact .nil | exact .cons _ _ .nil | exact .cons _ _ (.cons _ _ .nil) | exact .cons _ _ (.cons _ _ (.cons _ _ .nil)) | l_ints); (case p3 => first | assumption | exact Nat.lt_of_lt_of_le (by assumption) (by decide) | l_fit | omega | (simp only [List.length_cons, List.length_nil, List.length_append, List.length_map, List.length_replicate, List.length_reverse, rangeKs_length] at *; omega)); (case p4 => assumption); (case p5 => assumption); (case p6 => assumption); (case kb => exact normP_len _ _ _); (case kB => k_asm); (case kF => k_asm); (case kX => k_asm); (case kN => k_asm); (case kT => k_asm); (case kK => first | exact rfl | assumption); (case kd => first | exact roomK (by assumption) (by decide) | ((try simp only [depth_under_make, depth_under_kw, depth_in1, depth_deeper, depth_caller]); (try dsimp only [ktrTop]); first | exact roomK (by assumption) (by decide) | exact roomG rfl (by decide)) | ktr_room); (case ku => first | ((try simp only [units_in1, units_deeper, Around.mark_units, units_caller]); (try dsimp only [ktrTop]); first | exact unitsK (by assumption) (by decide) | exact unitsK64 (by assumption) (by decide) | exact unitsG rfl (by decide) | exact unitsG64 rfl) | ktr_units); intro l9 ys9 n9 h9 tk9 F9 N9 ne9 hi9 hb9; (have no9 := ne9); (clear ne9); (try dsimp only); (try k_sweep); (try k_fold))) | (k_dflt (refine' use_L (law_times_c _ _ _ _ _ _ _ _ _ _ ?p0 ?p1 ?p2 ?p3 ?p4) ?kB ?kF ?kX ?kN ?kT ?kK ?kd ?ku ?kP ?kb ?_; (case kP => (first | exact trivial | (first | exact isl (by assumption) (by k_mem) | is_list) | (refine And.intro ?_ ?_ <;> (first | exact isl (by assumption) (by k_mem) | is_list)))); (case p0 => first | assumption | exact .nil | exact .cons _ _ .nil | exact .cons _ _ (.cons _ _ .nil) | exact .cons _ _ (.cons _ _ (.cons _ _ .nil)) | l_ints); (case p1 => first | assumption | exact Nat.lt_of_lt_of_le (by assumption) (by decide) | l_fit | omega | (simp only [List.length_cons, List.length_nil, List.length_append, List.length_map, List.length_replicate, List.length_reverse, rangeKs_length] at *; omega)); (case p2 => first | assumption | exact .nil | exact .cons _ _ .nil | exact .cons _ _ (.cons _ _ .nil) | exact .cons _ _ (.cons _ _ (.cons _ _ .nil)) | l_ints); (case p3 => first | assumption | exact Nat.lt_of_lt_of_le (by assumption) (by decide) | l_fit | omega | (simp only [List.length_cons, List.length_nil, List.length_append, List.length_map, List.length_replicate, List.length_reverse, rangeKs_length] at *; omega)); (case p4 => assumption); (case kb => exact timesP_len _ _); (case kB => k_asm); (case kF => k_asm); (case kX => k_asm); (case kN => k_asm); (case kT => k_asm); (case kK => first | exact rfl | assumption); (case kd => first | exact roomK (by assumption) (by decide) | ((try simp only [depth_under_make, depth_under_kw, depth_in1, depth_deeper, depth_caller]); (try dsimp only [ktrTop]); first | exact roomK (by assumption) (by decide) | exact roomG rfl (by decide)) | ktr_room); (case ku => first | ((try simp only [units_in1, units_deeper, Around.mark_units, units_caller]); (try dsimp only [ktrTop]); first | exact unitsK (by assumption) (by decide) | exact unitsK64 (by assumption) (by decide) | exact unitsG rfl (by decide) | exact unitsG64 rfl) | ktr_units); intro l9 ys9 n9 h9 tk9 F9 N9 ne9 hi9 hb9; (have no9 := ne9); (clear ne9); (try dsimp only); (try k_sweep); (try k_fold))) | (k_dflt (refine' use_L (law_plus_c _ _ _ _ _ _ _ _ _ _ _ _ ?p0 ?p1 ?p2 ?p3 ?p4) ?kB ?kF ?kX ?kN ?kT ?kK ?kd ?ku ?kP ?kb ?_; (case kP => (first | exact trivial | (first | exact isl (by assumption) (by k_mem) | is_list) | (refine And.intro ?_ ?_ <;> (first | exact isl (by assumption) (by k_mem) | is_list)))); (case p0 => first | assumption | exact .nil | exact .cons _ _ .nil | exact .cons _ _ (.cons _ _ .nil) | exact .cons _ _ (.cons _ _ (.cons _ _ .nil)) | l_ints); (case p1 => first | assumption | exact Nat.lt_of_lt_of_le (by assumption) (by decide) | l_fit | omega | (simp only [List.length_cons, List.length_nil, List.length_append, List.length_map, List.length_replicate, List.length_reverse, rangeKs_length] at *; omega)); (case p2 => first | assumption | exact .nil | exact .cons _ _ .nil | exact .cons _ _ (.cons _ _ .nil) | exact .cons _ _ (.cons _ _ (.cons _ _ .nil)) | l_ints); (case p3 => first | assumption | exact Nat.lt_of_lt_of_le (by assumption) (by decide) | l_fit | omega | (simp only [List.length_cons, List.length_nil, List.length_append, List.length_map, List.length_replicate, List.length_reverse, rangeKs_length] at *; omega)); (case p4 => (first | assumption | exact SmL.at (by assumption) (by assumption))); (case kb => exact plusP_len _ _ _); (case kB => k_asm); (case kF => k_asm); (case kX => k_asm); (case kN => k_asm); (case kT => k_asm); (case kK => first | exact rfl | assumption); (case kd => first | exact roomK (by assumption) (by decide) | ((try simp only [depth_under_make, depth_under_kw, depth_in1, depth_deeper, depth_caller]); (try dsimp only [ktrTop]); first | exact roomK (by assumption) (by decide) | exact roomG rfl (by decide)) | ktr_room); (case ku => first | ((try simp only [units_in1, units_deeper, Around.mark_units, units_caller]); (try dsimp only [ktrTop]); first | exact unitsK (by assumption) (by decide) | exact unitsK64 (by assumption) (by decide) | exact unitsG rfl (by decide) | exact unitsG64 rfl) | ktr_units); intro l9 ys9 n9 h9 tk9 F9 N9 ne9 hi9 hb9; (have no9 := ne9); (clear ne9); (try dsimp only); (try k_sweep); (try k_fold))))
  k_with "my lc" => refine Stop.mk ?_
  k_steps
  unfold Stop
  rename _ < (3 : Int) => hs3
  rename _ < (12 : Int) => hs12
  rename _ < (6 : Int) => hs6
  obtain ⟨size, es, hsz⟩ := menu_size hs3 (by assumption)
  obtain ⟨c, ec, hcb, hc0⟩ := menu_c hs12 (by assumption)
  obtain ⟨f0, e0, hf0, hf00⟩ := menu_first hs6 (by assumption)
  rename Fr _ _ _ _ => F9
  rename News _ _ _ _ => N9
  rw [es, ec] at F9
  rw [e0] at N9
  clear es ec e0 hs3 hs12 hs6
  k_with_none
  k_with "my w1" => ((k_here; (with_reducible show wpAny _ _ (exec (Stmt.While _ _ _ _) _) _ _ _); k_extra "my while"))
  k_with "my w1" => ((k_here; (with_reducible show wpAny _ _ (exec (Stmt.For _ _ _ _ _) _) _ _ _); k_extra "my for"))
  k_with "pyIter ref" => ((k_here; k_extra "my iter"))
  k_with "call type:enumerate" => ((k_here; k_extra "my enum"))
  k_with "my fits" => (first | exact MulAll.ok (by assumption) _ (by assumption) | exact Sm.mulR (by assumption) | exact Sm.mulL (by assumption) | exact Sm.mulR (SmL.at (by assumption) (by assumption)) | exact Sm.mulL (SmL.at (by assumption) (by assumption)))
  k_with "binaryOp FloorDiv int int" => ((k_here; k_dflt ((refine floordiv_int ?kb ?_ (Or.inl (Sm.py ?kp))); (case kb => first | assumption | exact Nz.ne (by assumption) | omega | exact PowNz.ok (by assumption) _); (case kp => first | assumption | exact PowSm.ok (by assumption) _ (by omega)))))
  k_with "exec Raise some none" => ((exfalso; omega))
  k_with "call ref" => ((k_here; k_extra "my call"))
  k_with "compareOp Eq ref ref" => ((k_here; k_dflt ((refine' eq_intsK ?k1 ?k2 ?k3 ?k4 ?k5 ?_); (case k1 => first | exact isl (by assumption) (by k_mem) | exact isl_nil (by assumption) (by k_mem) | is_list); (case k3 => first | exact isl (by assumption) (by k_mem) | exact isl_nil (by assumption) (by k_mem) | is_list); (case k2 => first | assumption | exact .nil | exact .cons _ _ .nil | exact .cons _ _ (.cons _ _ .nil) | exact .cons _ _ (.cons _ _ (.cons _ _ .nil)) | l_ints); (case k4 => first | assumption | exact .nil | exact .cons _ _ .nil | exact .cons _ _ (.cons _ _ .nil) | exact .cons _ _ (.cons _ _ (.cons _ _ .nil)) | l_ints); (case k5 => first | ((try simp only [units_in1, units_deeper, Around.mark_units, units_caller]); (try dsimp only [ktrTop]); first | exact unitsK (by assumption) (by decide) | exact unitsK64 (by assumption) (by decide) | exact unitsG rfl (by decide) | exact unitsG64 rfl) | ktr_units))))
  k_with "compareOp NotEq ref ref" => ((k_here; k_dflt ((refine' ne_intsK ?k1 ?k2 ?k3 ?k4 ?k5 ?_); (case k1 => first | exact isl (by assumption) (by k_mem) | exact isl_nil (by assumption) (by k_mem) | is_list); (case k3 => first | exact isl (by assumption) (by k_mem) | exact isl_nil (by assumption) (by k_mem) | is_list); (case k2 => first | assumption | exact .nil | exact .cons _ _ .nil | exact .cons _ _ (.cons _ _ .nil) | exact .cons _ _ (.cons _ _ (.cons _ _ .nil)) | l_ints); (case k4 => first | assumption | exact .nil | exact .cons _ _ .nil | exact .cons _ _ (.cons _ _ .nil) | exact .cons _ _ (.cons _ _ (.cons _ _ .nil)) | l_ints); (case k5 => first | ((try simp only [units_in1, units_deeper, Around.mark_units, units_caller]); (try dsimp only [ktrTop]); first | exact unitsK (by assumption) (by decide) | exact unitsK64 (by assumption) (by decide) | exact unitsG rfl (by decide) | exact unitsG64 rfl) | ktr_units))))
  k_with "my w1" => ((k_here; (with_reducible show wpAny _ _ (call (Value.ref 184) _) _ _ _); k_dflt ((refine' use_T _ _ _ _ ?hi ?hl ?hk0 ?hk1 ?hm0 ?hm1 ?kB ?kF ?kX ?kT ?kK ?kd ?ku ?kN ?kU ?kR ?kBR ?_); (case kN => k_asm); (case kU => first | assumption | k_updF); (case kR => k_mem); (case kBR => k_ne); (case hi => assumption); (case hl => first | assumption | (rw [List.length_take]; omega)); (case hk0 => omega); (case hk1 => omega); (case hm0 => omega); (case hm1 => omega); (case kB => k_asm); (case kF => k_asm); (case kX => k_asm); (case kT => k_asm); (case kK => first | exact rfl | assumption); (case kd => first | exact roomK (by assumption) (by decide) | ((try simp only [depth_under_make, depth_under_kw, depth_in1, depth_deeper, depth_caller]); (try dsimp only [ktrTop]); first | exact roomK (by assumption) (by decide) | exact roomG rfl (by decide)) | ktr_room); (case ku => first | ((try simp only [units_in1, units_deeper, Around.mark_units, units_caller]); (try dsimp only [ktrTop]); first | exact unitsK (by assumption) (by decide) | exact unitsK64 (by assumption) (by decide) | exact unitsG rfl (by decide) | exact unitsG64 rfl) | ktr_units)); (intro r9 t9 h9 tk9 tkk9 hr9 hs9 F9 N9); (try dsimp only at N9); (try dsimp only); (try k_sweep); (try k_fold)))
  k_with "my w1" => ((k_here; (with_reducible show wpAny _ _ (subscriptTail (Expr.List _ _) _ (Value.ref _) (Value.int _ _)) _ _ _); k_dflt ((refine' item_menu ?k1 ?k2 ?k3 ?k4 ?k5 ?_); (case k1 => exact isl (by assumption) (by k_mem)); (case k2 => first | exact ints3 | exact ints4 | exact ints6 | exact ints12); (case k3 => omega); (case k4 => simp only [List.length_cons, List.length_nil]; omega); (case k5 => omega)); (intro x9 t9 of9)))
  k_with "my w1" => ((k_here; (with_reducible show wpAny _ _ (eval (Expr.ListComp _ _ _ _) _) _ _ _); k_extra "my lc"))
  k_with "CompSrc" => ((k_here; k_extra "my src"))
  k_with "my w1" => ((k_here; (with_reducible show wpAny _ _ (call (Value.ref 210) _) _ _ _); k_extra "my moved"))
  k_with "my call" => (first | (k_dflt (refine' use_L (product_polynomial_c _ _ _ _ _ _ _ _ _ _ _ ?p0 ?p1 ?p2 ?p3 ?p4 ?p5 ?p6 ?p7) ?kB ?kF ?kX ?kN ?kT ?kK ?kd ?ku ?kP ?kb ?_; (case kP => (first | exact trivial | (first | exact isl (by assumption) (by k_mem) | is_list) | (refine And.intro ?_ ?_ <;> (first | exact isl (by assumption) (by k_mem) | is_list)))); (case p0 => first | assumption | exact .nil | exact .cons _ _ .nil | exact .cons _ _ (.cons _ _ .nil) | exact .cons _ _ (.cons _ _ (.cons _ _ .nil)) | l_ints); (case p1 => (first | assumption | (simp only [List.length_cons, List.length_nil]; omega))); (case p2 => first | assumption | exact .nil | exact .cons _ _ .nil | exact .cons _ _ (.cons _ _ .nil) | exact .cons _ _ (.cons _ _ (.cons _ _ .nil)) | l_ints); (case p3 => (first | assumption | (simp only [List.length_cons, List.length_nil]; omega))); (case p4 => exact LenEq.ok (by assumption)); (case p5 => assumption); (case p6 => assumption); (case p7 => exact BaseProd.ok (by assumption)); (case kb => exact zcomposeP_len _ _); (case kB => k_asm); (case kF => k_asm); (case kX => k_asm); (case kN => k_asm); (case kT => k_asm); (case kK => first | exact rfl | assumption); (case kd => first | exact roomK (by assumption) (by decide) | ((try simp only [depth_under_make, depth_under_kw, depth_in1, depth_deeper, depth_caller]); (try dsimp only [ktrTop]); first | exact roomK (by assumption) (by decide) | exact roomG rfl (by decide)) | ktr_room); (case ku => first | ((try simp only [units_in1, units_deeper, Around.mark_units, units_caller]); (try dsimp only [ktrTop]); first | exact unitsK (by assumption) (by decide) | exact unitsK64 (by assumption) (by decide) | exact unitsG rfl (by decide) | exact unitsG64 rfl) | ktr_units); intro l9 ys9 n9 h9 tk9 F9 N9 ne9 hi9 hb9; (have no9 := ne9); (clear ne9); (try dsimp only); (try k_sweep); (try k_fold))) | (k_dflt (refine' use_L (sum_polynomial_c _ _ _ _ _ _ _ _ _ _ _ ?p0 ?p1 ?p2 ?p3 ?p4 ?p5 ?p6 ?p7) ?kB ?kF ?kX ?kN ?kT ?kK ?kd ?ku ?kP ?kb ?_; (case kP => (first | exact trivial | (first | exact isl (by assumption) (by k_mem) | is_list) | (refine And.intro ?_ ?_ <;> (first | exact isl (by assumption) (by k_mem) | is_list)))); (case p0 => first | assumption | exact .nil | exact .cons _ _ .nil | exact .cons _ _ (.cons _ _ .nil) | exact .cons _ _ (.cons _ _ (.cons _ _ .nil)) | l_ints); (case p1 => (first | assumption | (simp only [List.length_cons, List.length_nil]; omega))); (case p2 => first | assumption | exact .nil | exact .cons _ _ .nil | exact .cons _ _ (.cons _ _ .nil) | exact .cons _ _ (.cons _ _ (.cons _ _ .nil)) | l_ints); (case p3 => (first | assumption | (simp only [List.length_cons, List.length_nil]; omega))); (case p4 => exact LenEq.ok (by assumption)); (case p5 => assumption); (case p6 => assumption); (case p7 => exact BaseSum.ok (by assumption)); (case kb => exact through_valuesP_len _); (case kB => k_asm); (case kF => k_asm); (case kX => k_asm); (case kN => k_asm); (case kT => k_asm); (case kK => first | exact rfl | assumption); (case kd => first | exact roomK (by assumption) (by decide) | ((try simp only [depth_under_make, depth_under_kw, depth_in1, depth_deeper, depth_caller]); (try dsimp only [ktrTop]); first | exact roomK (by assumption) (by decide) | exact roomG rfl (by decide)) | ktr_room); (case ku => first | ((try simp only [units_in1, units_deeper, Around.mark_units, units_caller]); (try dsimp only [ktrTop]); first | exact unitsK (by assumption) (by decide) | exact unitsK64 (by assumption) (by decide) | exact unitsG rfl (by decide) | exact unitsG64 rfl) | ktr_units); intro l9 ys9 n9 h9 tk9 F9 N9 ne9 hi9 hb9; (have no9 := ne9); (clear ne9); (try dsimp only); (try k_sweep); (try k_fold))) | (k_dflt (refine' use_Q (law_scaled_c _ _ _ _ _ _ _ _ _ ?p0 ?p1 ?p2 ?p3) ?kB ?kF ?kX ?kN ?kT ?kK ?kd ?ku ?kP ?kb1 ?kb2 ?_; (case kP => (first | exact trivial | (first | exact isl (by assumption) (by k_mem) | is_list) | (refine And.intro ?_ ?_ <;> (first | exact isl (by assumption) (by k_mem) | is_list)))); (case p0 => first | assumption | exact .nil | exact .cons _ _ .nil | exact .cons _ _ (.cons _ _ .nil) | exact .cons _ _ (.cons _ _ (.cons _ _ .nil)) | l_ints); (case p1 => first | assumption | exact Nat.lt_of_lt_of_le (by assumption) (by decide) | l_fit | omega | (simp only [List.length_cons, List.length_nil, List.length_append, List.length_map, List.length_replicate, List.length_reverse, rangeKs_length] at *; omega)); (case p2 => assumption); (case p3 => assumption); (case kb1 => exact scaledP_len1 _ _); (case kb2 => exact scaledP_len2 _ _); (case kB => k_asm); (case kF => k_asm); (case kX => k_asm); (case kN => k_asm); (case kT => k_asm); (case kK => first | exact rfl | assumption); (case kd => first | exact roomK (by assumption) (by decide) | ((try simp only [depth_under_make, depth_under_kw, depth_in1, depth_deeper, depth_caller]); (try dsimp only [ktrTop]); first | exact roomK (by assumption) (by decide) | exact roomG rfl (by decide)) | ktr_room); (case ku => first | ((try simp only [units_in1, units_deeper, Around.mark_units, units_caller]); (try dsimp only [ktrTop]); first | exact unitsK (by assumption) (by decide) | exact unitsK64 (by assumption) (by decide) | exact unitsG rfl (by decide) | exact unitsG64 rfl) | ktr_units); intro T9 q9 l9 yq9 ys9 n9 nq9 nr9 h9 tk9 F9 N9 neT9 neq9 ne9 nql9 iq9 hi9 bq9 hb9; (have no9 := ne9); (clear ne9); (try dsimp only); (try k_sweep); (try k_fold))) | (k_dflt (refine' use_Q (law_moved_c _ _ _ _ _ _ _ _ _ ?p0 ?p1 ?p2) ?kB ?kF ?kX ?kN ?kT ?kK ?kd ?ku ?kP ?kb1 ?kb2 ?_; (case kP => (first | exact trivial | (first | exact isl (by assumption) (by k_mem) | is_list) | (refine And.intro ?_ ?_ <;> (first | exact isl (by assumption) (by k_mem) | is_list)))); (case p0 => first | assumption | exact .nil | exact .cons _ _ .nil | exact .cons _ _ (.cons _ _ .nil) | exact .cons _ _ (.cons _ _ (.cons _ _ .nil)) | l_ints); (case p1 => first | assumption | exact Nat.lt_of_lt_of_le (by assumption) (by decide) | l_fit | omega | (simp only [List.length_cons, List.length_nil, List.length_append, List.length_map, List.length_replicate, List.length_reverse, rangeKs_length] at *; omega)); (case p2 => assumption); (case kb1 => exact movedP_len1 _ _); (case kb2 => exact movedP_len2 _ _); (case kB => k_asm); (case kF => k_asm); (case kX => k_asm); (case kN => k_asm); (case kT => k_asm); (case kK => first | exact rfl | assumption); (case kd => first | exact roomK (by assumption) (by decide) | ((try simp only [depth_under_make, depth_under_kw, depth_in1, depth_deeper, depth_caller]); (try dsimp only [ktrTop]); first | exact roomK (by assumption) (by decide) | exact roomG rfl (by decide)) | ktr_room); (case ku => first | ((try simp only [units_in1, units_deeper, Around.mark_units, units_caller]); (try dsimp only [ktrTop]); first | exact unitsK (by assumption) (by decide) | exact unitsK64 (by assumption) (by decide) | exact unitsG rfl (by decide) | exact unitsG64 rfl) | ktr_units); intro T9 q9 l9 yq9 ys9 n9 nq9 nr9 h9 tk9 F9 N9 neT9 neq9 ne9 nql9 iq9 hi9 bq9 hb9; (have no9 := ne9); (clear ne9); (try dsimp only); (try k_sweep); (try k_fold))) | (k_dflt (refine' use_L (law_norm_c _ _ _ _ _ _ _ _ _ _ _ _ ?p0 ?p1 ?p2 ?p3 ?p4 ?p5 ?p6) ?kB ?kF ?kX ?kN ?kT ?kK ?kd ?ku ?kP ?kb ?_; (case kP => (first | exact trivial | (first | exact isl (by assumption) (by k_mem) | is_list) | (refine And.intro ?_ ?_ <;> (first | exact isl (by assumption) (by k_mem) | is_list)))); (case p0 => first | assumption | exact .nil | exact .cons _ _ .nil | exact .cons _ _ (.cons _ _ .nil) | exact .cons _ _ (.cons _ _ (.cons _ _ .nil)) | l_ints); (case p1 => first | assumption | exact Nat.lt_of_lt_of_le (by assumption) (by decide) | l_fit | omega | (simp only [List.length_cons, List.length_nil, List.length_append, List.length_map, List.length_replicate, List.length_reverse, rangeKs_length] at *; omega)); (case p2 => first | assumption | exact .nil | exact .cons _ _ .nil | exact .cons _ _ (.cons _ _ .nil) | exact .cons _ _ (.cons _ _ (.cons _ _ .nil)) | l_ints); (case p3 => first | assumption | exact Nat.lt_of_lt_of_le (by assumption) (by decide) | l_fit | omega | (simp only [List.length_cons, List.length_nil, List.length_append, List.length_map, List.length_replicate, List.length_reverse, rangeKs_length] at *; omega)); (case p4 => assumption); (case p5 => assumption); (case p6 => assumption); (case kb => exact normP_len _ _ _); (case kB => k_asm); (case kF => k_asm); (case kX => k_asm); (case kN => k_asm); (case kT => k_asm); (case kK => first | exact rfl | assumption); (case kd => first | exact roomK (by assumption) (by decide) | ((try simp only [depth_under_make, depth_under_kw, depth_in1, depth_deeper, depth_caller]); (try dsimp only [ktrTop]); first | exact roomK (by assumption) (by decide) | exact roomG rfl (by decide)) | ktr_room); (case ku => first | ((try simp only [units_in1, units_deeper, Around.mark_units, units_caller]); (try dsimp only [ktrTop]); first | exact unitsK (by assumption) (by decide) | exact unitsK64 (by assumption) (by decide) | exact unitsG rfl (by decide) | exact unitsG64 rfl) | ktr_units); intro l9 ys9 n9 h9 tk9 F9 N9 ne9 hi9 hb9; (have no9 := ne9); (clear ne9); (try dsimp only); (try k_sweep); (try k_fold))) | (k_dflt (refine' use_L (law_times_c _ _ _ _ _ _ _ _ _ _ ?p0 ?p1 ?p2 ?p3 ?p4) ?kB ?kF ?kX ?kN ?kT ?kK ?kd ?ku ?kP ?kb ?_; (case kP => (first | exact trivial | (first | exact isl (by assumption) (by k_mem) | is_list) | (refine And.intro ?_ ?_ <;> (first | exact isl (by assumption) (by k_mem) | is_list)))); (case p0 => first | assumption | exact .nil | exact .cons _ _ .nil | exact .cons _ _ (.cons _ _ .nil) | exact .cons _ _ (.cons _ _ (.cons _ _ .nil)) | l_ints); (case p1 => first | assumption | exact Nat.lt_of_lt_of_le (by assumption) (by decide) | l_fit | omega | (simp only [List.length_cons, List.length_nil, List.length_append, List.length_map, List.length_replicate, List.length_reverse, rangeKs_length] at *; omega)); (case p2 => first | assumption | exact .nil | exact .cons _ _ .nil | exact .cons _ _ (.cons _ _ .nil) | exact .cons _ _ (.cons _ _ (.cons _ _ .nil)) | l_ints); (case p3 => first | assumption | exact Nat.lt_of_lt_of_le (by assumption) (by decide) | l_fit | omega | (simp only [List.length_cons, List.length_nil, List.length_append, List.length_map, List.length_replicate, List.length_reverse, rangeKs_length] at *; omega)); (case p4 => assumption); (case kb => exact timesP_len _ _); (case kB => k_asm); (case kF => k_asm); (case kX => k_asm); (case kN => k_asm); (case kT => k_asm); (case kK => first | exact rfl | assumption); (case kd => first | exact roomK (by assumption) (by decide) | ((try simp only [depth_under_make, depth_under_kw, depth_in1, depth_deeper, depth_caller]); (try dsimp only [ktrTop]); first | exact roomK (by assumption) (by decide) | exact roomG rfl (by decide)) | ktr_room); (case ku => first | ((try simp only [units_in1, units_deeper, Around.mark_units, units_caller]); (try dsimp only [ktrTop]); first | exact unitsK (by assumption) (by decide) | exact unitsK64 (by assumption) (by decide) | exact unitsG rfl (by decide) | exact unitsG64 rfl) | ktr_units); intro l9 ys9 n9 h9 tk9 F9 N9 ne9 hi9 hb9; (have no9 := ne9); (clear ne9); (try dsimp only); (try k_sweep); (try k_fold))) | (k_dflt (refine' use_L (law_plus_c _ _ _ _ _ _ _ _ _ _ _ _ ?p0 ?p1 ?p2 ?p3 ?p4) ?kB ?kF ?kX ?kN ?kT ?kK ?kd ?ku ?kP ?kb ?_; (case kP => (first | exact trivial | (first | exact isl (by assumption) (by k_mem) | is_list) | (refine And.intro ?_ ?_ <;> (first | exact isl (by assumption) (by k_mem) | is_list)))); (case p0 => first | assumption | exact .nil | exact .cons _ _ .nil | exact .cons _ _ (.cons _ _ .nil) | exact .cons _ _ (.cons _ _ (.cons _ _ .nil)) | l_ints); (case p1 => first | assumption | exact Nat.lt_of_lt_of_le (by assumption) (by decide) | l_fit | omega | (simp only [List.length_cons, List.length_nil, List.length_append, List.length_map, List.length_replicate, List.length_reverse, rangeKs_length] at *; omega)); (case p2 => first | assumption | exact .nil | exact .cons _ _ .nil | exact .cons _ _ (.cons _ _ .nil) | exact .cons _ _ (.cons _ _ (.cons _ _ .nil)) | l_ints); (case p3 => first | assumption | exact Nat.lt_of_lt_of_le (by assumption) (by decide) | l_fit | omega | (simp only [List.length_cons, List.length_nil, List.length_append, List.length_map, List.length_replicate, List.length_reverse, rangeKs_length] at *; omega)); (case p4 => (first | assumption | exact SmL.at (by assumption) (by assumption))); (case kb => exact plusP_len _ _ _); (case kB => k_asm); (case kF => k_asm); (case kX => k_asm); (case kN => k_asm); (case kT => k_asm); (case kK => first | exact rfl | assumption); (case kd => first | exact roomK (by assumption) (by decide) | ((try simp only [depth_under_make, depth_under_kw, depth_in1, depth_deeper, depth_caller]); (try dsimp only [ktrTop]); first | exact roomK (by assumption) (by decide) | exact roomG rfl (by decide)) | ktr_room); (case ku => first | ((try simp only [units_in1, units_deeper, Around.mark_units, units_caller]); (try dsimp only [ktrTop]); first | exact unitsK (by assumption) (by decide) | exact unitsK64 (by assumption) (by decide) | exact unitsG rfl (by decide) | exact unitsG64 rfl) | ktr_units); intro l9 ys9 n9 h9 tk9 F9 N9 ne9 hi9 hb9; (have no9 := ne9); (clear ne9); (try dsimp only); (try k_sweep); (try k_fold))))
  k_with "my src" => refine Stop.mk ?_
  k_dflt (refine LCg.ListComp_U (F₀ := by k_asm) (by with_unfolding_all rfl) (by decide) (by rfl) (by decide) (by rfl) ?_)
  k_steps
  unfold Stop
  k_with_none
  k_with "my w1" => ((k_here; (with_reducible show wpAny _ _ (exec (Stmt.While _ _ _ _) _) _ _ _); k_extra "my while"))
  k_with "my w1" => ((k_here; (with_reducible show wpAny _ _ (exec (Stmt.For _ _ _ _ _) _) _ _ _); k_extra "my for"))
  k_with "pyIter ref" => ((k_here; k_extra "my iter"))
  k_with "call type:enumerate" => ((k_here; k_extra "my enum"))
  k_with "my fits" => (first | exact MulAll.ok (by assumption) _ (by assumption) | exact Sm.mulR (by assumption) | exact Sm.mulL (by assumption) | exact Sm.mulR (SmL.at (by assumption) (by assumption)) | exact Sm.mulL (SmL.at (by assumption) (by assumption)))
  k_with "binaryOp FloorDiv int int" => ((k_here; k_dflt ((refine floordiv_int ?kb ?_ (Or.inl (Sm.py ?kp))); (case kb => first | assumption | exact Nz.ne (by assumption) | omega | exact PowNz.ok (by assumption) _); (case kp => first | assumption | exact PowSm.ok (by assumption) _ (by omega)))))
  k_with "exec Raise some none" => ((exfalso; omega))
  k_with "call ref" => ((k_here; k_extra "my call"))
  k_with "compareOp Eq ref ref" => ((k_here; k_dflt ((refine' eq_intsK ?k1 ?k2 ?k3 ?k4 ?k5 ?_); (case k1 => first | exact isl (by assumption) (by k_mem) | exact isl_nil (by assumption) (by k_mem) | is_list); (case k3 => first | exact isl (by assumption) (by k_mem) | exact isl_nil (by assumption) (by k_mem) | is_list); (case k2 => first | assumption | exact .nil | exact .cons _ _ .nil | exact .cons _ _ (.cons _ _ .nil) | exact .cons _ _ (.cons _ _ (.cons _ _ .nil)) | l_ints); (case k4 => first | assumption | exact .nil | exact .cons _ _ .nil | exact .cons _ _ (.cons _ _ .nil) | exact .cons _ _ (.cons _ _ (.cons _ _ .nil)) | l_ints); (case k5 => first | ((try simp only [units_in1, units_deeper, Around.mark_units, units_caller]); (try dsimp only [ktrTop]); first | exact unitsK (by assumption) (by decide) | exact unitsK64 (by assumption) (by decide) | exact unitsG rfl (by decide) | exact unitsG64 rfl) | ktr_units))))
  k_with "compareOp NotEq ref ref" => ((k_here; k_dflt ((refine' ne_intsK ?k1 ?k2 ?k3 ?k4 ?k5 ?_); (case k1 => first | exact isl (by assumption) (by k_mem) | exact isl_nil (by assumption) (by k_mem) | is_list); (case k3 => first | exact isl (by assumption) (by k_mem) | exact isl_nil (by assumption) (by k_mem) | is_list); (case k2 => first | assumption | exact .nil | exact .cons _ _ .nil | exact .cons _ _ (.cons _ _ .nil) | exact .cons _ _ (.cons _ _ (.cons _ _ .nil)) | l_ints); (case k4 => first | assumption | exact .nil | exact .cons _ _ .nil | exact .cons _ _ (.cons _ _ .nil) | exact .cons _ _ (.cons _ _ (.cons _ _ .nil)) | l_ints); (case k5 => first | ((try simp only [units_in1, units_deeper, Around.mark_units, units_caller]); (try dsimp only [ktrTop]); first | exact unitsK (by assumption) (by decide) | exact unitsK64 (by assumption) (by decide) | exact unitsG rfl (by decide) | exact unitsG64 rfl) | ktr_units))))
  k_with "my w1" => ((k_here; (with_reducible show wpAny _ _ (call (Value.ref 184) _) _ _ _); k_dflt ((refine' use_T _ _ _ _ ?hi ?hl ?hk0 ?hk1 ?hm0 ?hm1 ?kB ?kF ?kX ?kT ?kK ?kd ?ku ?kN ?kU ?kR ?kBR ?_); (case kN => k_asm); (case kU => first | assumption | k_updF); (case kR => k_mem); (case kBR => k_ne); (case hi => assumption); (case hl => first | assumption | (rw [List.length_take]; omega)); (case hk0 => omega); (case hk1 => omega); (case hm0 => omega); (case hm1 => omega); (case kB => k_asm); (case kF => k_asm); (case kX => k_asm); (case kT => k_asm); (case kK => first | exact rfl | assumption); (case kd => first | exact roomK (by assumption) (by decide) | ((try simp only [depth_under_make, depth_under_kw, depth_in1, depth_deeper, depth_caller]); (try dsimp only [ktrTop]); first | exact roomK (by assumption) (by decide) | exact roomG rfl (by decide)) | ktr_room); (case ku => first | ((try simp only [units_in1, units_deeper, Around.mark_units, units_caller]); (try dsimp only [ktrTop]); first | exact unitsK (by assumption) (by decide) | exact unitsK64 (by assumption) (by decide) | exact unitsG rfl (by decide) | exact unitsG64 rfl) | ktr_units)); (intro r9 t9 h9 tk9 tkk9 hr9 hs9 F9 N9); (try dsimp only at N9); (try dsimp only); (try k_sweep); (try k_fold)))
  k_with "my w1" => ((k_here; (with_reducible show wpAny _ _ (subscriptTail (Expr.List _ _) _ (Value.ref _) (Value.int _ _)) _ _ _); k_dflt ((refine' item_menu ?k1 ?k2 ?k3 ?k4 ?k5 ?_); (case k1 => exact isl (by assumption) (by k_mem)); (case k2 => first | exact ints3 | exact ints4 | exact ints6 | exact ints12); (case k3 => omega); (case k4 => simp only [List.length_cons, List.length_nil]; omega); (case k5 => omega)); (intro x9 t9 of9)))
  k_with "my w1" => ((k_here; (with_reducible show wpAny _ _ (eval (Expr.ListComp _ _ _ _) _) _ _ _); k_extra "my lc"))
  k_with "CompSrc" => ((k_here; k_extra "my src"))
  k_with "my w1" => ((k_here; (with_reducible show wpAny _ _ (call (Value.ref 210) _) _ _ _); k_extra "my moved"))
  k_with "my call" => (first | (k_dflt (refine' use_L (product_polynomial_c _ _ _ _ _ _ _ _ _ _ _ ?p0 ?p1 ?p2 ?p3 ?p4 ?p5 ?p6 ?p7) ?kB ?kF ?kX ?kN ?kT ?kK ?kd ?ku ?kP ?kb ?_; (case kP => (first | exact trivial | (first | exact isl (by assumption) (by k_mem) | is_list) | (refine And.intro ?_ ?_ <;> (first | exact isl (by assumption) (by k_mem) | is_list)))); (case p0 => first | assumption | exact .nil | exact .cons _ _ .nil | exact .cons _ _ (.cons _ _ .nil) | exact .cons _ _ (.cons _ _ (.cons _ _ .nil)) | l_ints); (case p1 => (first | assumption | (simp only [List.length_cons, List.length_nil]; omega))); (case p2 => first | assumption | exact .nil | exact .cons _ _ .nil | exact .cons _ _ (.cons _ _ .nil) | exact .cons _ _ (.cons _ _ (.cons _ _ .nil)) | l_ints); (case p3 => (first | assumption | (simp only [List.length_cons, List.length_nil]; omega))); (case p4 => exact LenEq.ok (by assumption)); (case p5 => assumption); (case p6 => assumption); (case p7 => exact BaseProd.ok (by assumption)); (case kb => exact zcomposeP_len _ _); (case kB => k_asm); (case kF => k_asm); (case kX => k_asm); (case kN => k_asm); (case kT => k_asm); (case kK => first | exact rfl | assumption); (case kd => first | exact roomK (by assumption) (by decide) | ((try simp only [depth_under_make, depth_under_kw, depth_in1, depth_deeper, depth_caller]); (try dsimp only [ktrTop]); first | exact roomK (by assumption) (by decide) | exact roomG rfl (by decide)) | ktr_room); (case ku => first | ((try simp only [units_in1, units_deeper, Around.mark_units, units_caller]); (try dsimp only [ktrTop]); first | exact unitsK (by assumption) (by decide) | exact unitsK64 (by assumption) (by decide) | exact unitsG rfl (by decide) | exact unitsG64 rfl) | ktr_units); intro l9 ys9 n9 h9 tk9 F9 N9 ne9 hi9 hb9; (have no9 := ne9); (clear ne9); (try dsimp only); (try k_sweep); (try k_fold))) | (k_dflt (refine' use_L (sum_polynomial_c _ _ _ _ _ _ _ _ _ _ _ ?p0 ?p1 ?p2 ?p3 ?p4 ?p5 ?p6 ?p7) ?kB ?kF ?kX ?kN ?kT ?kK ?kd ?ku ?kP ?kb ?_; (case kP => (first | exact trivial | (first | exact isl (by assumption) (by k_mem) | is_list) | (refine And.intro ?_ ?_ <;> (first | exact isl (by assumption) (by k_mem) | is_list)))); (case p0 => first | assumption | exact .nil | exact .cons _ _ .nil | exact .cons _ _ (.cons _ _ .nil) | exact .cons _ _ (.cons _ _ (.cons _ _ .nil)) | l_ints); (case p1 => (first | assumption | (simp only [List.length_cons, List.length_nil]; omega))); (case p2 => first | assumption | exact .nil | exact .cons _ _ .nil | exact .cons _ _ (.cons _ _ .nil) | exact .cons _ _ (.cons _ _ (.cons _ _ .nil)) | l_ints); (case p3 => (first | assumption | (simp only [List.length_cons, List.length_nil]; omega))); (case p4 => exact LenEq.ok (by assumption)); (case p5 => assumption); (case p6 => assumption); (case p7 => exact BaseSum.ok (by assumption)); (case kb => exact through_valuesP_len _); (case kB => k_asm); (case kF => k_asm); (case kX => k_asm); (case kN => k_asm); (case kT => k_asm); (case kK => first | exact rfl | assumption); (case kd => first | exact roomK (by assumption) (by decide) | ((try simp only [depth_under_make, depth_under_kw, depth_in1, depth_deeper, depth_caller]); (try dsimp only [ktrTop]); first | exact roomK (by assumption) (by decide) | exact roomG rfl (by decide)) | ktr_room); (case ku => first | ((try simp only [units_in1, units_deeper, Around.mark_units, units_caller]); (try dsimp only [ktrTop]); first | exact unitsK (by assumption) (by decide) | exact unitsK64 (by assumption) (by decide) | exact unitsG rfl (by decide) | exact unitsG64 rfl) | ktr_units); intro l9 ys9 n9 h9 tk9 F9 N9 ne9 hi9 hb9; (have no9 := ne9); (clear ne9); (try dsimp only); (try k_sweep); (try k_fold))) | (k_dflt (refine' use_Q (law_scaled_c _ _ _ _ _ _ _ _ _ ?p0 ?p1 ?p2 ?p3) ?kB ?kF ?kX ?kN ?kT ?kK ?kd ?ku ?kP ?kb1 ?kb2 ?_; (case kP => (first | exact trivial | (first | exact isl (by assumption) (by k_mem) | is_list) | (refine And.intro ?_ ?_ <;> (first | exact isl (by assumption) (by k_mem) | is_list)))); (case p0 => first | assumption | exact .nil | exact .cons _ _ .nil | exact .cons _ _ (.cons _ _ .nil) | exact .cons _ _ (.cons _ _ (.cons _ _ .nil)) | l_ints); (case p1 => first | assumption | exact Nat.lt_of_lt_of_le (by assumption) (by decide) | l_fit | omega | (simp only [List.length_cons, List.length_nil, List.length_append, List.length_map, List.length_replicate, List.length_reverse, rangeKs_length] at *; omega)); (case p2 => assumption); (case p3 => assumption); (case kb1 => exact scaledP_len1 _ _); (case kb2 => exact scaledP_len2 _ _); (case kB => k_asm); (case kF => k_asm); (case kX => k_asm); (case kN => k_asm); (case kT => k_asm); (case kK => first | exact rfl | assumption); (case kd => first | exact roomK (by assumption) (by decide) | ((try simp only [depth_under_make, depth_under_kw, depth_in1, depth_deeper, depth_caller]); (try dsimp only [ktrTop]); first | exact roomK (by assumption) (by decide) | exact roomG rfl (by decide)) | ktr_room); (case ku => first | ((try simp only [units_in1, units_deeper, Around.mark_units, units_caller]); (try dsimp only [ktrTop]); first | exact unitsK (by assumption) (by decide) | exact unitsK64 (by assumption) (by decide) | exact unitsG rfl (by decide) | exact unitsG64 rfl) | ktr_units); intro T9 q9 l9 yq9 ys9 n9 nq9 nr9 h9 tk9 F9 N9 neT9 neq9 ne9 nql9 iq9 hi9 bq9 hb9; (have no9 := ne9); (clear ne9); (try dsimp only); (try k_sweep); (try k_fold))) | (k_dflt (refine' use_Q (law_moved_c _ _ _ _ _ _ _ _ _ ?p0 ?p1 ?p2) ?kB ?kF ?kX ?kN ?kT ?kK ?kd ?ku ?kP ?kb1 ?kb2 ?_; (case kP => (first | exact trivial | (first | exact isl (by assumption) (by k_mem) | is_list) | (refine And.intro ?_ ?_ <;> (first | exact isl (by assumption) (by k_mem) | is_list)))); (case p0 => first | assumption | exact .nil | exact .cons _ _ .nil | exact .cons _ _ (.cons _ _ .nil) | exact .cons _ _ (.cons _ _ (.cons _ _ .nil)) | l_ints); (case p1 => first | assumption | exact Nat.lt_of_lt_of_le (by assumption) (by decide) | l_fit | omega | (simp only [List.length_cons, List.length_nil, List.length_append, List.length_map, List.length_replicate, List.length_reverse, rangeKs_length] at *; omega)); (case p2 => assumption); (case kb1 => exact movedP_len1 _ _); (case kb2 => exact movedP_len2 _ _); (case kB => k_asm); (case kF => k_asm); (case kX => k_asm); (case kN => k_asm); (case kT => k_asm); (case kK => first | exact rfl | assumption); (case kd => first | exact roomK (by assumption) (by decide) | ((try simp only [depth_under_make, depth_under_kw, depth_in1, depth_deeper, depth_caller]); (try dsimp only [ktrTop]); first | exact roomK (by assumption) (by decide) | exact roomG rfl (by decide)) | ktr_room); (case ku => first | ((try simp only [units_in1, units_deeper, Around.mark_units, units_caller]); (try dsimp only [ktrTop]); first | exact unitsK (by assumption) (by decide) | exact unitsK64 (by assumption) (by decide) | exact unitsG rfl (by decide) | exact unitsG64 rfl) | ktr_units); intro T9 q9 l9 yq9 ys9 n9 nq9 nr9 h9 tk9 F9 N9 neT9 neq9 ne9 nql9 iq9 hi9 bq9 hb9; (have no9 := ne9); (clear ne9); (try dsimp only); (try k_sweep); (try k_fold))) | (k_dflt (refine' use_L (law_norm_c _ _ _ _ _ _ _ _ _ _ _ _ ?p0 ?p1 ?p2 ?p3 ?p4 ?p5 ?p6) ?kB ?kF ?kX ?kN ?kT ?kK ?kd ?ku ?kP ?kb ?_; (case kP => (first | exact trivial | (first | exact isl (by assumption) (by k_mem) | is_list) | (refine And.intro ?_ ?_ <;> (first | exact isl (by assumption) (by k_mem) | is_list)))); (case p0 => first | assumption | exact .nil | exact .cons _ _ .nil | exact .cons _ _ (.cons _ _ .nil) | exact .cons _ _ (.cons _ _ (.cons _ _ .nil)) | l_ints); (case p1 => first | assumption | exact Nat.lt_of_lt_of_le (by assumption) (by decide) | l_fit | omega | (simp only [List.length_cons, List.length_nil, List.length_append, List.length_map, List.length_replicate, List.length_reverse, rangeKs_length] at *; omega)); (case p2 => first | assumption | exact .nil | exact .cons _ _ .nil | exact .cons _ _ (.cons _ _ .nil) | exact .cons _ _ (.cons _ _ (.cons _ _ .nil)) | l_ints); (case p3 => first | assumption | exact Nat.lt_of_lt_of_le (by assumption) (by decide) | l_fit | omega | (simp only [List.length_cons, List.length_nil, List.length_append, List.length_map, List.length_replicate, List.length_reverse, rangeKs_length] at *; omega)); (case p4 => assumption); (case p5 => assumption); (case p6 => assumption); (case kb => exact normP_len _ _ _); (case kB => k_asm); (case kF => k_asm); (case kX => k_asm); (case kN => k_asm); (case kT => k_asm); (case kK => first | exact rfl | assumption); (case kd => first | exact roomK (by assumption) (by decide) | ((try simp only [depth_under_make, depth_under_kw, depth_in1, depth_deeper, depth_caller]); (try dsimp only [ktrTop]); first | exact roomK (by assumption) (by decide) | exact roomG rfl (by decide)) | ktr_room); (case ku => first | ((try simp only [units_in1, units_deeper, Around.mark_units, units_caller]); (try dsimp only [ktrTop]); first | exact unitsK (by assumption) (by decide) | exact unitsK64 (by assumption) (by decide) | exact unitsG rfl (by decide) | exact unitsG64 rfl) | ktr_units); intro l9 ys9 n9 h9 tk9 F9 N9 ne9 hi9 hb9; (have no9 := ne9); (clear ne9); (try dsimp only); (try k_sweep); (try k_fold))) | (k_dflt (refine' use_L (law_times_c _ _ _ _ _ _ _ _ _ _ ?p0 ?p1 ?p2 ?p3 ?p4) ?kB ?kF ?kX ?kN ?kT ?kK ?kd ?ku ?kP ?kb ?_; (case kP => (first | exact trivial | (first | exact isl (by assumption) (by k_mem) | is_list) | (refine And.intro ?_ ?_ <;> (first | exact isl (by assumption) (by k_mem) | is_list)))); (case p0 => first | assumption | exact .nil | exact .cons _ _ .nil | exact .cons _ _ (.cons _ _ .nil) | exact .cons _ _ (.cons _ _ (.cons _ _ .nil)) | l_ints); (case p1 => first | assumption | exact Nat.lt_of_lt_of_le (by assumption) (by decide) | l_fit | omega | (simp only [List.length_cons, List.length_nil, List.length_append, List.length_map, List.length_replicate, List.length_reverse, rangeKs_length] at *; omega)); (case p2 => first | assumption | exact .nil | exact .cons _ _ .nil | exact .cons _ _ (.cons _ _ .nil) | exact .cons _ _ (.cons _ _ (.cons _ _ .nil)) | l_ints); (case p3 => first | assumption | exact Nat.lt_of_lt_of_le (by assumption) (by decide) | l_fit | omega | (simp only [List.length_cons, List.length_nil, List.length_append, List.length_map, List.length_replicate, List.length_reverse, rangeKs_length] at *; omega)); (case p4 => assumption); (case kb => exact timesP_len _ _); (case kB => k_asm); (case kF => k_asm); (case kX => k_asm); (case kN => k_asm); (case kT => k_asm); (case kK => first | exact rfl | assumption); (case kd => first | exact roomK (by assumption) (by decide) | ((try simp only [depth_under_make, depth_under_kw, depth_in1, depth_deeper, depth_caller]); (try dsimp only [ktrTop]); first | exact roomK (by assumption) (by decide) | exact roomG rfl (by decide)) | ktr_room); (case ku => first | ((try simp only [units_in1, units_deeper, Around.mark_units, units_caller]); (try dsimp only [ktrTop]); first | exact unitsK (by assumption) (by decide) | exact unitsK64 (by assumption) (by decide) | exact unitsG rfl (by decide) | exact unitsG64 rfl) | ktr_units); intro l9 ys9 n9 h9 tk9 F9 N9 ne9 hi9 hb9; (have no9 := ne9); (clear ne9); (try dsimp only); (try k_sweep); (try k_fold))) | (k_dflt (refine' use_L (law_plus_c _ _ _ _ _ _ _ _ _ _ _ _ ?p0 ?p1 ?p2 ?p3 ?p4) ?kB ?kF ?kX ?kN ?kT ?kK ?kd ?ku ?kP ?kb ?_; (case kP => (first | exact trivial | (first | exact isl (by assumption) (by k_mem) | is_list) | (refine And.intro ?_ ?_ <;> (first | exact isl (by assumption) (by k_mem) | is_list)))); (case p0 => first | assumption | exact .nil | exact .cons _ _ .nil | exact .cons _ _ (.cons _ _ .nil) | exact .cons _ _ (.cons _ _ (.cons _ _ .nil)) | l_ints); (case p1 => first | assumption | exact Nat.lt_of_lt_of_le (by assumption) (by decide) | l_fit | omega | (simp only [List.length_cons, List.length_nil, List.length_append, List.length_map, List.length_replicate, List.length_reverse, rangeKs_length] at *; omega)); (case p2 => first | assumption | exact .nil | exact .cons _ _ .nil | exact .cons _ _ (.cons _ _ .nil) | exact .cons _ _ (.cons _ _ (.cons _ _ .nil)) | l_ints); (case p3 => first | assumption | exact Nat.lt_of_lt_of_le (by assumption) (by decide) | l_fit | omega | (simp only [List.length_cons, List.length_nil, List.length_append, List.length_map, List.length_replicate, List.length_reverse, rangeKs_length] at *; omega)); (case p4 => (first | assumption | exact SmL.at (by assumption) (by assumption))); (case kb => exact plusP_len _ _ _); (case kB => k_asm); (case kF => k_asm); (case kX => k_asm); (case kN => k_asm); (case kT => k_asm); (case kK => first | exact rfl | assumption); (case kd => first | exact roomK (by assumption) (by decide) | ((try simp only [depth_under_make, depth_under_kw, depth_in1, depth_deeper, depth_caller]); (try dsimp only [ktrTop]); first | exact roomK (by assumption) (by decide) | exact roomG rfl (by decide)) | ktr_room); (case ku => first | ((try simp only [units_in1, units_deeper, Around.mark_units, units_caller]); (try dsimp only [ktrTop]); first | exact unitsK (by assumption) (by decide) | exact unitsK64 (by assumption) (by decide) | exact unitsG rfl (by decide) | exact unitsG64 rfl) | ktr_units); intro l9 ys9 n9 h9 tk9 F9 N9 ne9 hi9 hb9; (have no9 := ne9); (clear ne9); (try dsimp only); (try k_sweep); (try k_fold))))
  obtain ⟨n, hn⟩ : ∃ n : Nat, size - 1 = (n : Int) := ⟨(size - 1).toNat, by omega⟩
  k_dflt (refine' src_take (n := n) ?kU ?kh ?kF ?kN ?kr ?ks ?kn ?kn3 ?k0 ?k1 ?turn ?fin)
  case kr => assumption
  case kN => k_asm
  case kF => k_asm
  case kU =>
    refine' UpdF.tail ?a1 (UpdF.tail ?a2 (UpdF.tail ?a3 (UpdF.tail ?a4 (UpdF.tail ?a5 (UpdF.head ?a6)))))
    case a1 => k_ne
    case a2 => k_ne
    case a3 => k_ne
    case a4 => k_ne
    case a5 => k_ne
    case a6 => k_all
  case kh => exact rfl
  case ks => exact small_one (by omega) (by omega) (by omega) (by omega)
  case kn => rw [hn]; exact rangeSize_nat _ _
  case kn3 => omega
  case k0 => omega
  case k1 => omega
  case turn =>
    intro g₁ k tkk I oI C oC D oD h tk E' hk0 hk1 nI nC nD Ft Nt Ut
    have kM := kstMark
    k_steps
    all_goals assumption
  case fin =>
    intro g₁ ys zs k tkk D h tk hzi hzl hzb hk0 hk1 Ft Nt ot
    try simp only [LCg.Off1, and_true] at ot
    dsimp only
    k_with_none
    k_with "my w1" => ((k_here; (with_reducible show wpAny _ _ (exec (Stmt.While _ _ _ _) _) _ _ _); k_extra "my while"))
    k_with "my w1" => ((k_here; (with_reducible show wpAny _ _ (exec (Stmt.For _ _ _ _ _) _) _ _ _); k_extra "my for"))
    k_with "pyIter ref" => ((k_here; k_extra "my iter"))
    k_with "call type:enumerate" => ((k_here; k_extra "my enum"))
    k_with "my fits" => (first | exact MulAll.ok (by assumption) _ (by assumption) | exact Sm.mulR (by assumption) | exact Sm.mulL (by assumption) | exact Sm.mulR (SmL.at (by assumption) (by assumption)) | exact Sm.mulL (SmL.at (by assumption) (by assumption)))
    k_with "binaryOp FloorDiv int int" => ((k_here; k_dflt ((refine floordiv_int ?kb ?_ (Or.inl (Sm.py ?kp))); (case kb => first | assumption | exact Nz.ne (by assumption) | omega | exact PowNz.ok (by assumption) _); (case kp => first | assumption | exact PowSm.ok (by assumption) _ (by omega)))))
    k_with "exec Raise some none" => ((exfalso; omega))
    k_with "call ref" => ((k_here; k_extra "my call"))
    k_with "compareOp Eq ref ref" => ((k_here; k_dflt ((refine' eq_intsK ?k1 ?k2 ?k3 ?k4 ?k5 ?_); (case k1 => first | exact isl (by assumption) (by k_mem) | exact isl_nil (by assumption) (by k_mem) | is_list); (case k3 => first | exact isl (by assumption) (by k_mem) | exact isl_nil (by assumption) (by k_mem) | is_list); (case k2 => first | assumption | exact .nil | exact .cons _ _ .nil | exact .cons _ _ (.cons _ _ .nil) | exact .cons _ _ (.cons _ _ (.cons _ _ .nil)) | l_ints); (case k4 => first | assumption | exact .nil | exact .cons _ _ .nil | exact .cons _ _ (.cons _ _ .nil) | exact .cons _ _ (.cons _ _ (.cons _ _ .nil)) | l_ints); (case k5 => first | ((try simp only [units_in1, units_deeper, Around.mark_units, units_caller]); (try dsimp only [ktrTop]); first | exact unitsK (by assumption) (by decide) | exact unitsK64 (by assumption) (by decide) | exact unitsG rfl (by decide) | exact unitsG64 rfl) | ktr_units))))
    k_with "compareOp NotEq ref ref" => ((k_here; k_dflt ((refine' ne_intsK ?k1 ?k2 ?k3 ?k4 ?k5 ?_); (case k1 => first | exact isl (by assumption) (by k_mem) | exact isl_nil (by assumption) (by k_mem) | is_list); (case k3 => first | exact isl (by assumption) (by k_mem) | exact isl_nil (by assumption) (by k_mem) | is_list); (case k2 => first | assumption | exact .nil | exact .cons _ _ .nil | exact .cons _ _ (.cons _ _ .nil) | exact .cons _ _ (.cons _ _ (.cons _ _ .nil)) | l_ints); (case k4 => first | assumption | exact .nil | exact .cons _ _ .nil | exact .cons _ _ (.cons _ _ .nil) | exact .cons _ _ (.cons _ _ (.cons _ _ .nil)) | l_ints); (case k5 => first | ((try simp only [units_in1, units_deeper, Around.mark_units, units_caller]); (try dsimp only [ktrTop]); first | exact unitsK (by assumption) (by decide) | exact unitsK64 (by assumption) (by decide) | exact unitsG rfl (by decide) | exact unitsG64 rfl) | ktr_units))))
    k_with "my w1" => ((k_here; (with_reducible show wpAny _ _ (call (Value.ref 184) _) _ _ _); k_dflt ((refine' use_T _ _ _ _ ?hi ?hl ?hk0 ?hk1 ?hm0 ?hm1 ?kB ?kF ?kX ?kT ?kK ?kd ?ku ?kN ?kU ?kR ?kBR ?_); (case kN => k_asm); (case kU => first | assumption | k_updF); (case kR => k_mem); (case kBR => k_ne); (case hi => assumption); (case hl => first | assumption | (rw [List.length_take]; omega)); (case hk0 => omega); (case hk1 => omega); (case hm0 => omega); (case hm1 => omega); (case kB => k_asm); (case kF => k_asm); (case kX => k_asm); (case kT => k_asm); (case kK => first | exact rfl | assumption); (case kd => first | exact roomK (by assumption) (by decide) | ((try simp only [depth_under_make, depth_under_kw, depth_in1, depth_deeper, depth_caller]); (try dsimp only [ktrTop]); first | exact roomK (by assumption) (by decide) | exact roomG rfl (by decide)) | ktr_room); (case ku => first | ((try simp only [units_in1, units_deeper, Around.mark_units, units_caller]); (try dsimp only [ktrTop]); first | exact unitsK (by assumption) (by decide) | exact unitsK64 (by assumption) (by decide) | exact unitsG rfl (by decide) | exact unitsG64 rfl) | ktr_units)); (intro r9 t9 h9 tk9 tkk9 hr9 hs9 F9 N9); (try dsimp only at N9); (try dsimp only); (try k_sweep); (try k_fold)))
    k_with "my w1" => ((k_here; (with_reducible show wpAny _ _ (subscriptTail (Expr.List _ _) _ (Value.ref _) (Value.int _ _)) _ _ _); k_dflt ((refine' item_menu ?k1 ?k2 ?k3 ?k4 ?k5 ?_); (case k1 => exact isl (by assumption) (by k_mem)); (case k2 => first | exact ints3 | exact ints4 | exact ints6 | exact ints12); (case k3 => omega); (case k4 => simp only [List.length_cons, List.length_nil]; omega); (case k5 => omega)); (intro x9 t9 of9)))
    k_with "my w1" => ((k_here; (with_reducible show wpAny _ _ (eval (Expr.ListComp _ _ _ _) _) _ _ _); k_extra "my lc"))
    k_with "CompSrc" => ((k_here; k_extra "my src"))
    k_with "my w1" => ((k_here; (with_reducible show wpAny _ _ (call (Value.ref 210) _) _ _ _); k_extra "my moved"))
    k_with "my call" => (first | (k_dflt (refine' use_L (product_polynomial_c _ _ _ _ _ _ _ _ _ _ _ ?p0 ?p1 ?p2 ?p3 ?p4 ?p5 ?p6 ?p7) ?kB ?kF ?kX ?kN ?kT ?kK ?kd ?ku ?kP ?kb ?_; (case kP => (first | exact trivial | (first | exact isl (by assumption) (by k_mem) | is_list) | (refine And.intro ?_ ?_ <;> (first | exact isl (by assumption) (by k_mem) | is_list)))); (case p0 => first | assumption | exact .nil | exact .cons _ _ .nil | exact .cons _ _ (.cons _ _ .nil) | exact .cons _ _ (.cons _ _ (.cons _ _ .nil)) | l_ints); (case p1 => (first | assumption | (simp only [List.length_cons, List.length_nil]; omega))); (case p2 => first | assumption | exact .nil | exact .cons _ _ .nil | exact .cons _ _ (.cons _ _ .nil) | exact .cons _ _ (.cons _ _ (.cons _ _ .nil)) | l_ints); (case p3 => (first | assumption | (simp only [List.length_cons, List.length_nil]; omega))); (case p4 => exact LenEq.ok (by assumption)); (case p5 => assumption); (case p6 => assumption); (case p7 => exact BaseProd.ok (by assumption)); (case kb => exact zcomposeP_len _ _); (case kB => k_asm); (case kF => k_asm); (case kX => k_asm); (case kN => k_asm); (case kT => k_asm); (case kK => first | exact rfl | assumption); (case kd => first | exact roomK (by assumption) (by decide) | ((try simp only [depth_under_make, depth_under_kw, depth_in1, depth_deeper, depth_caller]); (try dsimp only [ktrTop]); first | exact roomK (by assumption) (by decide) | exact roomG rfl (by decide)) | ktr_room); (case ku => first | ((try simp only [units_in1, units_deeper, Around.mark_units, units_caller]); (try dsimp only [ktrTop]); first | exact unitsK (by assumption) (by decide) | exact unitsK64 (by assumption) (by decide) | exact unitsG rfl (by decide) | exact unitsG64 rfl) | ktr_units); intro l9 ys9 n9 h9 tk9 F9 N9 ne9 hi9 hb9; (have no9 := ne9); (clear ne9); (try dsimp only); (try k_sweep); (try k_fold))) | (k_dflt (refine' use_L (sum_polynomial_c _ _ _ _ _ _ _ _ _ _ _ ?p0 ?p1 ?p2 ?p3 ?p4 ?p5 ?p6 ?p7) ?kB ?kF ?kX ?kN ?kT ?kK ?kd ?ku ?kP ?kb ?_; (case kP => (first | exact trivial | (first | exact isl (by assumption) (by k_mem) | is_list) | (refine And.intro ?_ ?_ <;> (first | exact isl (by assumption) (by k_mem) | is_list)))); (case p0 => first | assumption | exact .nil | exact .cons _ _ .nil | exact .cons _ _ (.cons _ _ .nil) | exact .cons _ _ (.cons _ _ (.cons _ _ .nil)) | l_ints); (case p1 => (first | assumption | (simp only [List.length_cons, List.length_nil]; omega))); (case p2 => first | assumption | exact .nil | exact .cons _ _ .nil | exact .cons _ _ (.cons _ _ .nil) | exact .cons _ _ (.cons _ _ (.cons _ _ .nil)) | l_ints); (case p3 => (first | assumption | (simp only [List.length_cons, List.length_nil]; omega))); (case p4 => exact LenEq.ok (by assumption)); (case p5 => assumption); (case p6 => assumption); (case p7 => exact BaseSum.ok (by assumption)); (case kb => exact through_valuesP_len _); (case kB => k_asm); (case kF => k_asm); (case kX => k_asm); (case kN => k_asm); (case kT => k_asm); (case kK => first | exact rfl | assumption); (case kd => first | exact roomK (by assumption) (by decide) | ((try simp only [depth_under_make, depth_under_kw, depth_in1, depth_deeper, depth_caller]); (try dsimp only [ktrTop]); first | exact roomK (by assumption) (by decide) | exact roomG rfl (by decide)) | ktr_room); (case ku => first | ((try simp only [units_in1, units_deeper, Around.mark_units, units_caller]); (try dsimp only [ktrTop]); first | exact unitsK (by assumption) (by decide) | exact unitsK64 (by assumption) (by decide) | exact unitsG rfl (by decide) | exact unitsG64 rfl) | ktr_units); intro l9 ys9 n9 h9 tk9 F9 N9 ne9 hi9 hb9; (have no9 := ne9); (clear ne9); (try dsimp only); (try k_sweep); (try k_fold))) | (k_dflt (refine' use_Q (law_scaled_c _ _ _ _ _ _ _ _ _ ?p0 ?p1 ?p2 ?p3) ?kB ?kF ?kX ?kN ?kT ?kK ?kd ?ku ?kP ?kb1 ?kb2 ?_; (case kP => (first | exact trivial | (first | exact isl (by assumption) (by k_mem) | is_list) | (refine And.intro ?_ ?_ <;> (first | exact isl (by assumption) (by k_mem) | is_list)))); (case p0 => first | assumption | exact .nil | exact .cons _ _ .nil | exact .cons _ _ (.cons _ _ .nil) | exact .cons _ _ (.cons _ _ (.cons _ _ .nil)) | l_ints); (case p1 => first | assumption | exact Nat.lt_of_lt_of_le (by assumption) (by decide) | l_fit | omega | (simp only [List.length_cons, List.length_nil, List.length_append, List.length_map, List.length_replicate, List.length_reverse, rangeKs_length] at *; omega)); (case p2 => assumption); (case p3 => assumption); (case kb1 => exact scaledP_len1 _ _); (case kb2 => exact scaledP_len2 _ _); (case kB => k_asm); (case kF => k_asm); (case kX => k_asm); (case kN => k_asm); (case kT => k_asm); (case kK => first | exact rfl | assumption); (case kd => first | exact roomK (by assumption) (by decide) | ((try simp only [depth_under_make, depth_under_kw, depth_in1, depth_deeper, depth_caller]); (try dsimp only [ktrTop]); first | exact roomK (by assumption) (by decide) | exact roomG rfl (by decide)) | ktr_room); (case ku => first | ((try simp only [units_in1, units_deeper, Around.mark_units, units_caller]); (try dsimp only [ktrTop]); first | exact unitsK (by assumption) (by decide) | exact unitsK64 (by assumption) (by decide) | exact unitsG rfl (by decide) | exact unitsG64 rfl) | ktr_units); intro T9 q9 l9 yq9 ys9 n9 nq9 nr9 h9 tk9 F9 N9 neT9 neq9 ne9 nql9 iq9 hi9 bq9 hb9; (have no9 := ne9); (clear ne9); (try dsimp only); (try k_sweep); (try k_fold))) | (k_dflt (refine' use_Q (law_moved_c _ _ _ _ _ _ _ _ _ ?p0 ?p1 ?p2) ?kB ?kF ?kX ?kN ?kT ?kK ?kd ?ku ?kP ?kb1 ?kb2 ?_; (case kP => (first | exact trivial | (first | exact isl (by assumption) (by k_mem) | is_list) | (refine And.intro ?_ ?_ <;> (first | exact isl (by assumption) (by k_mem) | is_list)))); (case p0 => first | assumption | exact .nil | exact .cons _ _ .nil | exact .cons _ _ (.cons _ _ .nil) | exact .cons _ _ (.cons _ _ (.cons _ _ .nil)) | l_ints); (case p1 => first | assumption | exact Nat.lt_of_lt_of_le (by assumption) (by decide) | l_fit | omega | (simp only [List.length_cons, List.length_nil, List.length_append, List.length_map, List.length_replicate, List.length_reverse, rangeKs_length] at *; omega)); (case p2 => assumption); (case kb1 => exact movedP_len1 _ _); (case kb2 => exact movedP_len2 _ _); (case kB => k_asm); (case kF => k_asm); (case kX => k_asm); (case kN => k_asm); (case kT => k_asm); (case kK => first | exact rfl | assumption); (case kd => first | exact roomK (by assumption) (by decide) | ((try simp only [depth_under_make, depth_under_kw, depth_in1, depth_deeper, depth_caller]); (try dsimp only [ktrTop]); first | exact roomK (by assumption) (by decide) | exact roomG rfl (by decide)) | ktr_room); (case ku => first | ((try simp only [units_in1, units_deeper, Around.mark_units, units_caller]); (try dsimp only [ktrTop]); first | exact unitsK (by assumption) (by decide) | exact unitsK64 (by assumption) (by decide) | exact unitsG rfl (by decide) | exact unitsG64 rfl) | ktr_units); intro T9 q9 l9 yq9 ys9 n9 nq9 nr9 h9 tk9 F9 N9 neT9 neq9 ne9 nql9 iq9 hi9 bq9 hb9; (have no9 := ne9); (clear ne9); (try dsimp only); (try k_sweep); (try k_fold))) | (k_dflt (refine' use_L (law_norm_c _ _ _ _ _ _ _ _ _ _ _ _ ?p0 ?p1 ?p2 ?p3 ?p4 ?p5 ?p6) ?kB ?kF ?kX ?kN ?kT ?kK ?kd ?ku ?kP ?kb ?_; (case kP => (first | exact trivial | (first | exact isl (by assumption) (by k_mem) | is_list) | (refine And.intro ?_ ?_ <;> (first | exact isl (by assumption) (by k_mem) | is_list)))); (case p0 => first | assumption | exact .nil | exact .cons _ _ .nil | exact .cons _ _ (.cons _ _ .nil) | exact .cons _ _ (.cons _ _ (.cons _ _ .nil)) | l_ints); (case p1 => first | assumption | exact Nat.lt_of_lt_of_le (by assumption) (by decide) | l_fit | omega | (simp only [List.length_cons, List.length_nil, List.length_append, List.length_map, List.length_replicate, List.length_reverse, rangeKs_length] at *; omega)); (case p2 => first | assumption | exact .nil | exact .cons _ _ .nil | exact .cons _ _ (.cons _ _ .nil) | exact .cons _ _ (.cons _ _ (.cons _ _ .nil)) | l_ints); (case p3 => first | assumption | exact Nat.lt_of_lt_of_le (by assumption) (by decide) | l_fit | omega | (simp only [List.length_cons, List.length_nil, List.length_append, List.length_map, List.length_replicate, List.length_reverse, rangeKs_length] at *; omega)); (case p4 => assumption); (case p5 => assumption); (case p6 => assumption); (case kb => exact normP_len _ _ _); (case kB => k_asm); (case kF => k_asm); (case kX => k_asm); (case kN => k_asm); (case kT => k_asm); (case kK => first | exact rfl | assumption); (case kd => first | exact roomK (by assumption) (by decide) | ((try simp only [depth_under_make, depth_under_kw, depth_in1, depth_deeper, depth_caller]); (try dsimp only [ktrTop]); first | exact roomK (by assumption) (by decide) | exact roomG rfl (by decide)) | ktr_room); (case ku => first | ((try simp only [units_in1, units_deeper, Around.mark_units, units_caller]); (try dsimp only [ktrTop]); first | exact unitsK (by assumption) (by decide) | exact unitsK64 (by assumption) (by decide) | exact unitsG rfl (by decide) | exact unitsG64 rfl) | ktr_units); intro l9 ys9 n9 h9 tk9 F9 N9 ne9 hi9 hb9; (have no9 := ne9); (clear ne9); (try dsimp only); (try k_sweep); (try k_fold))) | (k_dflt (refine' use_L (law_times_c _ _ _ _ _ _ _ _ _ _ ?p0 ?p1 ?p2 ?p3 ?p4) ?kB ?kF ?kX ?kN ?kT ?kK ?kd ?ku ?kP ?kb ?_; (case kP => (first | exact trivial | (first | exact isl (by assumption) (by k_mem) | is_list) | (refine And.intro ?_ ?_ <;> (first | exact isl (by assumption) (by k_mem) | is_list)))); (case p0 => first | assumption | exact .nil | exact .cons _ _ .nil | exact .cons _ _ (.cons _ _ .nil) | exact .cons _ _ (.cons _ _ (.cons _ _ .nil)) | l_ints); (case p1 => first | assumption | exact Nat.lt_of_lt_of_le (by assumption) (by decide) | l_fit | omega | (simp only [List.length_cons, List.length_nil, List.length_append, List.length_map, List.length_replicate, List.length_reverse, rangeKs_length] at *; omega)); (case p2 => first | assumption | exact .nil | exact .cons _ _ .nil | exact .cons _ _ (.cons _ _ .nil) | exact .cons _ _ (.cons _ _ (.cons _ _ .nil)) | l_ints); (case p3 => first | assumption | exact Nat.lt_of_lt_of_le (by assumption) (by decide) | l_fit | omega | (simp only [List.length_cons, List.length_nil, List.length_append, List.length_map, List.length_replicate, List.length_reverse, rangeKs_length] at *; omega)); (case p4 => assumption); (case kb => exact timesP_len _ _); (case kB => k_asm); (case kF => k_asm); (case kX => k_asm); (case kN => k_asm); (case kT => k_asm); (case kK => first | exact rfl | assumption); (case kd => first | exact roomK (by assumption) (by decide) | ((try simp only [depth_under_make, depth_under_kw, depth_in1, depth_deeper, depth_caller]); (try dsimp only [ktrTop]); first | exact roomK (by assumption) (by decide) | exact roomG rfl (by decide)) | ktr_room); (case ku => first | ((try simp only [units_in1, units_deeper, Around.mark_units, units_caller]); (try dsimp only [ktrTop]); first | exact unitsK (by assumption) (by decide) | exact unitsK64 (by assumption) (by decide) | exact unitsG rfl (by decide) | exact unitsG64 rfl) | ktr_units); intro l9 ys9 n9 h9 tk9 F9 N9 ne9 hi9 hb9; (have no9 := ne9); (clear ne9); (try dsimp only); (try k_sweep); (try k_fold))) | (k_dflt (refine' use_L (law_plus_c _ _ _ _ _ _ _ _ _ _ _ _ ?p0 ?p1 ?p2 ?p3 ?p4) ?kB ?kF ?kX ?kN ?kT ?kK ?kd ?ku ?kP ?kb ?_; (case kP => (first | exact trivial | (first | exact isl (by assumption) (by k_mem) | is_list) | (refine And.intro ?_ ?_ <;> (first | exact isl (by assumption) (by k_mem) | is_list)))); (case p0 => first | assumption | exact .nil | exact .cons _ _ .nil | exact .cons _ _ (.cons _ _ .nil) | exact .cons _ _ (.cons _ _ (.cons _ _ .nil)) | l_ints); (case p1 => first | assumption | exact Nat.lt_of_lt_of_le (by assumption) (by decide) | l_fit | omega | (simp only [List.length_cons, List.length_nil, List.length_append, List.length_map, List.length_replicate, List.length_reverse, rangeKs_length] at *; omega)); (case p2 => first | assumption | exact .nil | exact .cons _ _ .nil | exact .cons _ _ (.cons _ _ .nil) | exact .cons _ _ (.cons _ _ (.cons _ _ .nil)) | l_ints); (case p3 => first | assumption | exact Nat.lt_of_lt_of_le (by assumption) (by decide) | l_fit | omega | (simp only [List.length_cons, List.length_nil, List.length_append, List.length_map, List.length_replicate, List.length_reverse, rangeKs_length] at *; omega)); (case p4 => (first | assumption | exact SmL.at (by assumption) (by assumption))); (case kb => exact plusP_len _ _ _); (case kB => k_asm); (case kF => k_asm); (case kX => k_asm); (case kN => k_asm); (case kT => k_asm); (case kK => first | exact rfl | assumption); (case kd => first | exact roomK (by assumption) (by decide) | ((try simp only [depth_under_make, depth_under_kw, depth_in1, depth_deeper, depth_caller]); (try dsimp only [ktrTop]); first | exact roomK (by assumption) (by decide) | exact roomG rfl (by decide)) | ktr_room); (case ku => first | ((try simp only [units_in1, units_deeper, Around.mark_units, units_caller]); (try dsimp only [ktrTop]); first | exact unitsK (by assumption) (by decide) | exact unitsK64 (by assumption) (by decide) | exact unitsG rfl (by decide) | exact unitsG64 rfl) | ktr_units); intro l9 ys9 n9 h9 tk9 F9 N9 ne9 hi9 hb9; (have no9 := ne9); (clear ne9); (try dsimp only); (try k_sweep); (try k_fold))))
    k_with "my moved" => refine Stop.mk ?_
    k_steps
    unfold Stop
    k_with_none
    k_with "my w1" => ((k_here; (with_reducible show wpAny _ _ (exec (Stmt.While _ _ _ _) _) _ _ _); k_extra "my while"))
    k_with "my w1" => ((k_here; (with_reducible show wpAny _ _ (exec (Stmt.For _ _ _ _ _) _) _ _ _); k_extra "my for"))
    k_with "pyIter ref" => ((k_here; k_extra "my iter"))
    k_with "call type:enumerate" => ((k_here; k_extra "my enum"))
    k_with "my fits" => (first | exact MulAll.ok (by assumption) _ (by assumption) | exact Sm.mulR (by assumption) | exact Sm.mulL (by assumption) | exact Sm.mulR (SmL.at (by assumption) (by assumption)) | exact Sm.mulL (SmL.at (by assumption) (by assumption)))
    k_with "binaryOp FloorDiv int int" => ((k_here; k_dflt ((refine floordiv_int ?kb ?_ (Or.inl (Sm.py ?kp))); (case kb => first | assumption | exact Nz.ne (by assumption) | omega | exact PowNz.ok (by assumption) _); (case kp => first | assumption | exact PowSm.ok (by assumption) _ (by omega)))))
    k_with "exec Raise some none" => ((exfalso; omega))
    k_with "call ref" => ((k_here; k_extra "my call"))
    k_with "compareOp Eq ref ref" => ((k_here; k_dflt ((refine' eq_intsK ?k1 ?k2 ?k3 ?k4 ?k5 ?_); (case k1 => first | exact isl (by assumption) (by k_mem) | exact isl_nil (by assumption) (by k_mem) | is_list); (case k3 => first | exact isl (by assumption) (by k_mem) | exact isl_nil (by assumption) (by k_mem) | is_list); (case k2 => first | assumption | exact .nil | exact .cons _ _ .nil | exact .cons _ _ (.cons _ _ .nil) | exact .cons _ _ (.cons _ _ (.cons _ _ .nil)) | l_ints); (case k4 => first | assumption | exact .nil | exact .cons _ _ .nil | exact .cons _ _ (.cons _ _ .nil) | exact .cons _ _ (.cons _ _ (.cons _ _ .nil)) | l_ints); (case k5 => first | ((try simp only [units_in1, units_deeper, Around.mark_units, units_caller]); (try dsimp only [ktrTop]); first | exact unitsK (by assumption) (by decide) | exact unitsK64 (by assumption) (by decide) | exact unitsG rfl (by decide) | exact unitsG64 rfl) | ktr_units))))
    k_with "compareOp NotEq ref ref" => ((k_here; k_dflt ((refine' ne_intsK ?k1 ?k2 ?k3 ?k4 ?k5 ?_); (case k1 => first | exact isl (by assumption) (by k_mem) | exact isl_nil (by assumption) (by k_mem) | is_list); (case k3 => first | exact isl (by assumption) (by k_mem) | exact isl_nil (by assumption) (by k_mem) | is_list); (case k2 => first | assumption | exact .nil | exact .cons _ _ .nil | exact .cons _ _ (.cons _ _ .nil) | exact .cons _ _ (.cons _ _ (.cons _ _ .nil)) | l_ints); (case k4 => first | assumption | exact .nil | exact .cons _ _ .nil | exact .cons _ _ (.cons _ _ .nil) | exact .cons _ _ (.cons _ _ (.cons _ _ .nil)) | l_ints); (case k5 => first | ((try simp only [units_in1, units_deeper, Around.mark_units, units_caller]); (try dsimp only [ktrTop]); first | exact unitsK (by assumption) (by decide) | exact unitsK64 (by assumption) (by decide) | exact unitsG rfl (by decide) | exact unitsG64 rfl) | ktr_units))))
    k_with "my w1" => ((k_here; (with_reducible show wpAny _ _ (call (Value.ref 184) _) _ _ _); k_dflt ((refine' use_T _ _ _ _ ?hi ?hl ?hk0 ?hk1 ?hm0 ?hm1 ?kB ?kF ?kX ?kT ?kK ?kd ?ku ?kN ?kU ?kR ?kBR ?_); (case kN => k_asm); (case kU => first | assumption | k_updF); (case kR => k_mem); (case kBR => k_ne); (case hi => assumption); (case hl => first | assumption | (rw [List.length_take]; omega)); (case hk0 => omega); (case hk1 => omega); (case hm0 => omega); (case hm1 => omega); (case kB => k_asm); (case kF => k_asm); (case kX => k_asm); (case kT => k_asm); (case kK => first | exact rfl | assumption); (case kd => first | exact roomK (by assumption) (by decide) | ((try simp only [depth_under_make, depth_under_kw, depth_in1, depth_deeper, depth_caller]); (try dsimp only [ktrTop]); first | exact roomK (by assumption) (by decide) | exact roomG rfl (by decide)) | ktr_room); (case ku => first | ((try simp only [units_in1, units_deeper, Around.mark_units, units_caller]); (try dsimp only [ktrTop]); first | exact unitsK (by assumption) (by decide) | exact unitsK64 (by assumption) (by decide) | exact unitsG rfl (by decide) | exact unitsG64 rfl) | ktr_units)); (intro r9 t9 h9 tk9 tkk9 hr9 hs9 F9 N9); (try dsimp only at N9); (try dsimp only); (try k_sweep); (try k_fold)))
    k_with "my w1" => ((k_here; (with_reducible show wpAny _ _ (subscriptTail (Expr.List _ _) _ (Value.ref _) (Value.int _ _)) _ _ _); k_dflt ((refine' item_menu ?k1 ?k2 ?k3 ?k4 ?k5 ?_); (case k1 => exact isl (by assumption) (by k_mem)); (case k2 => first | exact ints3 | exact ints4 | exact ints6 | exact ints12); (case k3 => omega); (case k4 => simp only [List.length_cons, List.length_nil]; omega); (case k5 => omega)); (intro x9 t9 of9)))
    k_with "my w1" => ((k_here; (with_reducible show wpAny _ _ (eval (Expr.ListComp _ _ _ _) _) _ _ _); k_extra "my lc"))
    k_with "CompSrc" => ((k_here; k_extra "my src"))
    k_with "my w1" => ((k_here; (with_reducible show wpAny _ _ (call (Value.ref 210) _) _ _ _); k_extra "my moved"))
    k_with "my call" => (first | (k_dflt (refine' use_L (product_polynomial_c _ _ _ _ _ _ _ _ _ _ _ ?p0 ?p1 ?p2 ?p3 ?p4 ?p5 ?p6 ?p7) ?kB ?kF ?kX ?kN ?kT ?kK ?kd ?ku ?kP ?kb ?_; (case kP => (first | exact trivial | (first | exact isl (by assumption) (by k_mem) | is_list) | (refine And.intro ?_ ?_ <;> (first | exact isl (by assumption) (by k_mem) | is_list)))); (case p0 => first | assumption | exact .nil | exact .cons _ _ .nil | exact .cons _ _ (.cons _ _ .nil) | exact .cons _ _ (.cons _ _ (.cons _ _ .nil)) | l_ints); (case p1 => (first | assumption | (simp only [List.length_cons, List.length_nil]; omega))); (case p2 => first | assumption | exact .nil | exact .cons _ _ .nil | exact .cons _ _ (.cons _ _ .nil) | exact .cons _ _ (.cons _ _ (.cons _ _ .nil)) | l_ints); (case p3 => (first | assumption | (simp only [List.length_cons, List.length_nil]; omega))); (case p4 => exact LenEq.ok (by assumption)); (case p5 => assumption); (case p6 => assumption); (case p7 => exact BaseProd.ok (by assumption)); (case kb => exact zcomposeP_len _ _); (case kB => k_asm); (case kF => k_asm); (case kX => k_asm); (case kN => k_asm); (case kT => k_asm); (case kK => first | exact rfl | assumption); (case kd => first | exact roomK (by assumption) (by decide) | ((try simp only [depth_under_make, depth_under_kw, depth_in1, depth_deeper, depth_caller]); (try dsimp only [ktrTop]); first | exact roomK (by assumption) (by decide) | exact roomG rfl (by decide)) | ktr_room); (case ku => first | ((try simp only [units_in1, units_deeper, Around.mark_units, units_caller]); (try dsimp only [ktrTop]); first | exact unitsK (by assumption) (by decide) | exact unitsK64 (by assumption) (by decide) | exact unitsG rfl (by decide) | exact unitsG64 rfl) | ktr_units); intro l9 ys9 n9 h9 tk9 F9 N9 ne9 hi9 hb9; (have no9 := ne9); (clear ne9); (try dsimp only); (try k_sweep); (try k_fold))) | (k_dflt (refine' use_L (sum_polynomial_c _ _ _ _ _ _ _ _ _ _ _ ?p0 ?p1 ?p2 ?p3 ?p4 ?p5 ?p6 ?p7) ?kB ?kF ?kX ?kN ?kT ?kK ?kd ?ku ?kP ?kb ?_; (case kP => (first | exact trivial | (first | exact isl (by assumption) (by k_mem) | is_list) | (refine And.intro ?_ ?_ <;> (first | exact isl (by assumption) (by k_mem) | is_list)))); (case p0 => first | assumption | exact .nil | exact .cons _ _ .nil | exact .cons _ _ (.cons _ _ .nil) | exact .cons _ _ (.cons _ _ (.cons _ _ .nil)) | l_ints); (case p1 => (first | assumption | (simp only [List.length_cons, List.length_nil]; omega))); (case p2 => first | assumption | exact .nil | exact .cons _ _ .nil | exact .cons _ _ (.cons _ _ .nil) | exact .cons _ _ (.cons _ _ (.cons _ _ .nil)) | l_ints); (case p3 => (first | assumption | (simp only [List.length_cons, List.length_nil]; omega))); (case p4 => exact LenEq.ok (by assumption)); (case p5 => assumption); (case p6 => assumption); (case p7 => exact BaseSum.ok (by assumption)); (case kb => exact through_valuesP_len _); (case kB => k_asm); (case kF => k_asm); (case kX => k_asm); (case kN => k_asm); (case kT => k_asm); (case kK => first | exact rfl | assumption); (case kd => first | exact roomK (by assumption) (by decide) | ((try simp only [depth_under_make, depth_under_kw, depth_in1, depth_deeper, depth_caller]); (try dsimp only [ktrTop]); first | exact roomK (by assumption) (by decide) | exact roomG rfl (by decide)) | ktr_room); (case ku => first | ((try simp only [units_in1, units_deeper, Around.mark_units, units_caller]); (try dsimp only [ktrTop]); first | exact unitsK (by assumption) (by decide) | exact unitsK64 (by assumption) (by decide) | exact unitsG rfl (by decide) | exact unitsG64 rfl) | ktr_units); intro l9 ys9 n9 h9 tk9 F9 N9 ne9 hi9 hb9; (have no9 := ne9); (clear ne9); (try dsimp only); (try k_sweep); (try k_fold))) | (k_dflt (refine' use_Q (law_scaled_c _ _ _ _ _ _ _ _ _ ?p0 ?p1 ?p2 ?p3) ?kB ?kF ?kX ?kN ?kT ?kK ?kd ?ku ?kP ?kb1 ?kb2 ?_; (case kP => (first | exact trivial | (first | exact isl (by assumption) (by k_mem) | is_list) | (refine And.intro ?_ ?_ <;> (first | exact isl (by assumption) (by k_mem) | is_list)))); (case p0 => first | assumption | exact .nil | exact .cons _ _ .nil | exact .cons _ _ (.cons _ _ .nil) | exact .cons _ _ (.cons _ _ (.cons _ _ .nil)) | l_ints); (case p1 => first | assumption | exact Nat.lt_of_lt_of_le (by assumption) (by decide) | l_fit | omega | (simp only [List.length_cons, List.length_nil, List.length_append, List.length_map, List.length_replicate, List.length_reverse, rangeKs_length] at *; omega)); (case p2 => assumption); (case p3 => assumption); (case kb1 => exact scaledP_len1 _ _); (case kb2 => exact scaledP_len2 _ _); (case kB => k_asm); (case kF => k_asm); (case kX => k_asm); (case kN => k_asm); (case kT => k_asm); (case kK => first | exact rfl | assumption); (case kd => first | exact roomK (by assumption) (by decide) | ((try simp only [depth_under_make, depth_under_kw, depth_in1, depth_deeper, depth_caller]); (try dsimp only [ktrTop]); first | exact roomK (by assumption) (by decide) | exact roomG rfl (by decide)) | ktr_room); (case ku => first | ((try simp only [units_in1, units_deeper, Around.mark_units, units_caller]); (try dsimp only [ktrTop]); first | exact unitsK (by assumption) (by decide) | exact unitsK64 (by assumption) (by decide) | exact unitsG rfl (by decide) | exact unitsG64 rfl) | ktr_units); intro T9 q9 l9 yq9 ys9 n9 nq9 nr9 h9 tk9 F9 N9 neT9 neq9 ne9 nql9 iq9 hi9 bq9 hb9; (have no9 := ne9); (clear ne9); (try dsimp only); (try k_sweep); (try k_fold))) | (k_dflt (refine' use_Q (law_moved_c _ _ _ _ _ _ _ _ _ ?p0 ?p1 ?p2) ?kB ?kF ?kX ?kN ?kT ?kK ?kd ?ku ?kP ?kb1 ?kb2 ?_; (case kP => (first | exact trivial | (first | exact isl (by assumption) (by k_mem) | is_list) | (refine And.intro ?_ ?_ <;> (first | exact isl (by assumption) (by k_mem) | is_list)))); (case p0 => first | assumption | exact .nil | exact .cons _ _ .nil | exact .cons _ _ (.cons _ _ .nil) | exact .cons _ _ (.cons _ _ (.cons _ _ .nil)) | l_ints); (case p1 => first | assumption | exact Nat.lt_of_lt_of_le (by assumption) (by decide) | l_fit | omega | (simp only [List.length_cons, List.length_nil, List.length_append, List.length_map, List.length_replicate, List.length_reverse, rangeKs_length] at *; omega)); (case p2 => assumption); (case kb1 => exact movedP_len1 _ _); (case kb2 => exact movedP_len2 _ _); (case kB => k_asm); (case kF => k_asm); (case kX => k_asm); (case kN => k_asm); (case kT => k_asm); (case kK => first | exact rfl | assumption); (case kd => first | exact roomK (by assumption) (by decide) | ((try simp only [depth_under_make, depth_under_kw, depth_in1, depth_deeper, depth_caller]); (try dsimp only [ktrTop]); first | exact roomK (by assumption) (by decide) | exact roomG rfl (by decide)) | ktr_room); (case ku => first | ((try simp only [units_in1, units_deeper, Around.mark_units, units_caller]); (try dsimp only [ktrTop]); first | exact unitsK (by assumption) (by decide) | exact unitsK64 (by assumption) (by decide) | exact unitsG rfl (by decide) | exact unitsG64 rfl) | ktr_units); intro T9 q9 l9 yq9 ys9 n9 nq9 nr9 h9 tk9 F9 N9 neT9 neq9 ne9 nql9 iq9 hi9 bq9 hb9; (have no9 := ne9); (clear ne9); (try dsimp only); (try k_sweep); (try k_fold))) | (k_dflt (refine' use_L (law_norm_c _ _ _ _ _ _ _ _ _ _ _ _ ?p0 ?p1 ?p2 ?p3 ?p4 ?p5 ?p6) ?kB ?kF ?kX ?kN ?kT ?kK ?kd ?ku ?kP ?kb ?_; (case kP => (first | exact trivial | (first | exact isl (by assumption) (by k_mem) | is_list) | (refine And.intro ?_ ?_ <;> (first | exact isl (by assumption) (by k_mem) | is_list)))); (case p0 => first | assumption | exact .nil | exact .cons _ _ .nil | exact .cons _ _ (.cons _ _ .nil) | exact .cons _ _ (.cons _ _ (.cons _ _ .nil)) | l_ints); (case p1 => first | assumption | exact Nat.lt_of_lt_of_le (by assumption) (by decide) | l_fit | omega | (simp only [List.length_cons, List.length_nil, List.length_append, List.length_map, List.length_replicate, List.length_reverse, rangeKs_length] at *; omega)); (case p2 => first | assumption | exact .nil | exact .cons _ _ .nil | exact .cons _ _ (.cons _ _ .nil) | exact .cons _ _ (.cons _ _ (.cons _ _ .nil)) | l_ints); (case p3 => first | assumption | exact Nat.lt_of_lt_of_le (by assumption) (by decide) | l_fit | omega | (simp only [List.length_cons, List.length_nil, List.length_append, List.length_map, List.length_replicate, List.length_reverse, rangeKs_length] at *; omega)); (case p4 => assumption); (case p5 => assumption); (case p6 => assumption); (case kb => exact normP_len _ _ _); (case kB => k_asm); (case kF => k_asm); (case kX => k_asm); (case kN => k_asm); (case kT => k_asm); (case kK => first | exact rfl | assumption); (case kd => first | exact roomK (by assumption) (by decide) | ((try simp only [depth_under_make, depth_under_kw, depth_in1, depth_deeper, depth_caller]); (try dsimp only [ktrTop]); first | exact roomK (by assumption) (by decide) | exact roomG rfl (by decide)) | ktr_room); (case ku => first | ((try simp only [units_in1, units_deeper, Around.mark_units, units_caller]); (try dsimp only [ktrTop]); first | exact unitsK (by assumption) (by decide) | exact unitsK64 (by assumption) (by decide) | exact unitsG rfl (by decide) | exact unitsG64 rfl) | ktr_units); intro l9 ys9 n9 h9 tk9 F9 N9 ne9 hi9 hb9; (have no9 := ne9); (clear ne9); (try dsimp only); (try k_sweep); (try k_fold))) | (k_dflt (refine' use_L (law_times_c _ _ _ _ _ _ _ _ _ _ ?p0 ?p1 ?p2 ?p3 ?p4) ?kB ?kF ?kX ?kN ?kT ?kK ?kd ?ku ?kP ?kb ?_; (case kP => (first | exact trivial | (first | exact isl (by assumption) (by k_mem) | is_list) | (refine And.intro ?_ ?_ <;> (first | exact isl (by assumption) (by k_mem) | is_list)))); (case p0 => first | assumption | exact .nil | exact .cons _ _ .nil | exact .cons _ _ (.cons _ _ .nil) | exact .cons _ _ (.cons _ _ (.cons _ _ .nil)) | l_ints); (case p1 => first | assumption | exact Nat.lt_of_lt_of_le (by assumption) (by decide) | l_fit | omega | (simp only [List.length_cons, List.length_nil, List.length_append, List.length_map, List.length_replicate, List.length_reverse, rangeKs_length] at *; omega)); (case p2 => first | assumption | exact .nil | exact .cons _ _ .nil | exact .cons _ _ (.cons _ _ .nil) | exact .cons _ _ (.cons _ _ (.cons _ _ .nil)) | l_ints); (case p3 => first | assumption | exact Nat.lt_of_lt_of_le (by assumption) (by decide) | l_fit | omega | (simp only [List.length_cons, List.length_nil, List.length_append, List.length_map, List.length_replicate, List.length_reverse, rangeKs_length] at *; omega)); (case p4 => assumption); (case kb => exact timesP_len _ _); (case kB => k_asm); (case kF => k_asm); (case kX => k_asm); (case kN => k_asm); (case kT => k_asm); (case kK => first | exact rfl | assumption); (case kd => first | exact roomK (by assumption) (by decide) | ((try simp only [depth_under_make, depth_under_kw, depth_in1, depth_deeper, depth_caller]); (try dsimp only [ktrTop]); first | exact roomK (by assumption) (by decide) | exact roomG rfl (by decide)) | ktr_room); (case ku => first | ((try simp only [units_in1, units_deeper, Around.mark_units, units_caller]); (try dsimp only [ktrTop]); first | exact unitsK (by assumption) (by decide) | exact unitsK64 (by assumption) (by decide) | exact unitsG rfl (by decide) | exact unitsG64 rfl) | ktr_units); intro l9 ys9 n9 h9 tk9 F9 N9 ne9 hi9 hb9; (have no9 := ne9); (clear ne9); (try dsimp only); (try k_sweep); (try k_fold))) | (k_dflt (refine' use_L (law_plus_c _ _ _ _ _ _ _ _ _ _ _ _ ?p0 ?p1 ?p2 ?p3 ?p4) ?kB ?kF ?kX ?kN ?kT ?kK ?kd ?ku ?kP ?kb ?_; (case kP => (first | exact trivial | (first | exact isl (by assumption) (by k_mem) | is_list) | (refine And.intro ?_ ?_ <;> (first | exact isl (by assumption) (by k_mem) | is_list)))); (case p0 => first | assumption | exact .nil | exact .cons _ _ .nil | exact .cons _ _ (.cons _ _ .nil) | exact .cons _ _ (.cons _ _ (.cons _ _ .nil)) | l_ints); (case p1 => first | assumption | exact Nat.lt_of_lt_of_le (by assumption) (by decide) | l_fit | omega | (simp only [List.length_cons, List.length_nil, List.length_append, List.length_map, List.length_replicate, List.length_reverse, rangeKs_length] at *; omega)); (case p2 => first | assumption | exact .nil | exact .cons _ _ .nil | exact .cons _ _ (.cons _ _ .nil) | exact .cons _ _ (.cons _ _ (.cons _ _ .nil)) | l_ints); (case p3 => first | assumption | exact Nat.lt_of_lt_of_le (by assumption) (by decide) | l_fit | omega | (simp only [List.length_cons, List.length_nil, List.length_append, List.length_map, List.length_replicate, List.length_reverse, rangeKs_length] at *; omega)); (case p4 => (first | assumption | exact SmL.at (by assumption) (by assumption))); (case kb => exact plusP_len _ _ _); (case kB => k_asm); (case kF => k_asm); (case kX => k_asm); (case kN => k_asm); (case kT => k_asm); (case kK => first | exact rfl | assumption); (case kd => first | exact roomK (by assumption) (by decide) | ((try simp only [depth_under_make, depth_under_kw, depth_in1, depth_deeper, depth_caller]); (try dsimp only [ktrTop]); first | exact roomK (by assumption) (by decide) | exact roomG rfl (by decide)) | ktr_room); (case ku => first | ((try simp only [units_in1, units_deeper, Around.mark_units, units_caller]); (try dsimp only [ktrTop]); first | exact unitsK (by assumption) (by decide) | exact unitsK64 (by assumption) (by decide) | exact unitsG rfl (by decide) | exact unitsG64 rfl) | ktr_units); intro l9 ys9 n9 h9 tk9 F9 N9 ne9 hi9 hb9; (have no9 := ne9); (clear ne9); (try dsimp only); (try k_sweep); (try k_fold))))
    rename IntsAre _ ([_] ++ _ ++ [_]) => hIf
    rename _ < (4 : Int) => hs4
    obtain ⟨fl, el, hfl, hfl0⟩ := menu_last hs4 (by assumption)
    rw [el] at hIf
    obtain ⟨f, n', PL, hIf'⟩ := plain_of hf0 hfl hfl0 hzb (by omega) hcb hc0 hIf
    have sc := PL.sc
    have sc0 := PL.sc0
    have sf := PL.sf
    have scl := PL.scl
    have len := PL.len
    have n1 := PL.n1
    have hN2 : LenEq f.length ([0 - c, 0, 1] : List Int).length (2 * n') := ⟨PL.hN2⟩
    have hN1 : LenEq f.length ([0 - c, 1] : List Int).length n' := ⟨PL.hN1⟩
    have ok2 := PL.ok2
    have ok1 := PL.ok1
    have okp := PL.okp
    have hB2 : BaseSum f [0 - c, 0, 1] (2 * n') := ⟨PL.hB2⟩
    have hB1 : BaseSum f [0 - c, 1] n' := ⟨PL.hB1⟩
    have hBp : BaseProd f [0 - c, 0, 1] (2 * n') := ⟨PL.hBp⟩
    have sm1 := PL.sm1
    have sm2 := PL.sm2
    have ss1 := PL.ss1
    have ss2 := PL.ss2
    have hfl4 : f.length < 2 ^ 4 := by omega
    have hfl6 : f.length < 2 ^ 6 := by omega
    have hs1 := sm_one
    have h28 : 2 * n' < 8 := by omega
    have h18 : n' < 8 := by omega
    rename News _ _ _ _ => N9
    have N8 := news1 N9
    clear N9 hIf el hs4 ot hzi hzl hzb
    k_with "my for" => refine Stop.mk ?_
    k_steps
    rotate_left
    · exact absurd PL.e2 (by assumption)
    · exact absurd PL.e1 (by assumption)
    k_with_none
    k_with "my w1" => ((k_here; (with_reducible show wpAny _ _ (exec (Stmt.While _ _ _ _) _) _ _ _); k_extra "my while"))
    k_with "my w1" => ((k_here; (with_reducible show wpAny _ _ (exec (Stmt.For _ _ _ _ _) _) _ _ _); k_extra "my for"))
    k_with "pyIter ref" => ((k_here; k_extra "my iter"))
    k_with "call type:enumerate" => ((k_here; k_extra "my enum"))
    k_with "my fits" => (first | exact MulAll.ok (by assumption) _ (by assumption) | exact Sm.mulR (by assumption) | exact Sm.mulL (by assumption) | exact Sm.mulR (SmL.at (by assumption) (by assumption)) | exact Sm.mulL (SmL.at (by assumption) (by assumption)))
    k_with "binaryOp FloorDiv int int" => ((k_here; k_dflt ((refine floordiv_int ?kb ?_ (Or.inl (Sm.py ?kp))); (case kb => first | assumption | exact Nz.ne (by assumption) | omega | exact PowNz.ok (by assumption) _); (case kp => first | assumption | exact PowSm.ok (by assumption) _ (by omega)))))
    k_with "exec Raise some none" => ((exfalso; omega))
    k_with "call ref" => ((k_here; k_extra "my call"))
    k_with "compareOp Eq ref ref" => ((k_here; k_dflt ((refine' eq_intsK ?k1 ?k2 ?k3 ?k4 ?k5 ?_); (case k1 => first | exact isl (by assumption) (by k_mem) | exact isl_nil (by assumption) (by k_mem) | is_list); (case k3 => first | exact isl (by assumption) (by k_mem) | exact isl_nil (by assumption) (by k_mem) | is_list); (case k2 => first | assumption | exact .nil | exact .cons _ _ .nil | exact .cons _ _ (.cons _ _ .nil) | exact .cons _ _ (.cons _ _ (.cons _ _ .nil)) | l_ints); (case k4 => first | assumption | exact .nil | exact .cons _ _ .nil | exact .cons _ _ (.cons _ _ .nil) | exact .cons _ _ (.cons _ _ (.cons _ _ .nil)) | l_ints); (case k5 => first | ((try simp only [units_in1, units_deeper, Around.mark_units, units_caller]); (try dsimp only [ktrTop]); first | exact unitsK (by assumption) (by decide) | exact unitsK64 (by assumption) (by decide) | exact unitsG rfl (by decide) | exact unitsG64 rfl) | ktr_units))))
    k_with "compareOp NotEq ref ref" => ((k_here; k_dflt ((refine' ne_intsK ?k1 ?k2 ?k3 ?k4 ?k5 ?_); (case k1 => first | exact isl (by assumption) (by k_mem) | exact isl_nil (by assumption) (by k_mem) | is_list); (case k3 => first | exact isl (by assumption) (by k_mem) | exact isl_nil (by assumption) (by k_mem) | is_list); (case k2 => first | assumption | exact .nil | exact .cons _ _ .nil | exact .cons _ _ (.cons _ _ .nil) | exact .cons _ _ (.cons _ _ (.cons _ _ .nil)) | l_ints); (case k4 => first | assumption | exact .nil | exact .cons _ _ .nil | exact .cons _ _ (.cons _ _ .nil) | exact .cons _ _ (.cons _ _ (.cons _ _ .nil)) | l_ints); (case k5 => first | ((try simp only [units_in1, units_deeper, Around.mark_units, units_caller]); (try dsimp only [ktrTop]); first | exact unitsK (by assumption) (by decide) | exact unitsK64 (by assumption) (by decide) | exact unitsG rfl (by decide) | exact unitsG64 rfl) | ktr_units))))
    k_with "my w1" => ((k_here; (with_reducible show wpAny _ _ (call (Value.ref 184) _) _ _ _); k_dflt ((refine' use_T _ _ _ _ ?hi ?hl ?hk0 ?hk1 ?hm0 ?hm1 ?kB ?kF ?kX ?kT ?kK ?kd ?ku ?kN ?kU ?kR ?kBR ?_); (case kN => k_asm); (case kU => first | assumption | k_updF); (case kR => k_mem); (case kBR => k_ne); (case hi => assumption); (case hl => first | assumption | (rw [List.length_take]; omega)); (case hk0 => omega); (case hk1 => omega); (case hm0 => omega); (case hm1 => omega); (case kB => k_asm); (case kF => k_asm); (case kX => k_asm); (case kT => k_asm); (case kK => first | exact rfl | assumption); (case kd => first | exact roomK (by assumption) (by decide) | ((try simp only [depth_under_make, depth_under_kw, depth_in1, depth_deeper, depth_caller]); (try dsimp only [ktrTop]); first | exact roomK (by assumption) (by decide) | exact roomG rfl (by decide)) | ktr_room); (case ku => first | ((try simp only [units_in1, units_deeper, Around.mark_units, units_caller]); (try dsimp only [ktrTop]); first | exact unitsK (by assumption) (by decide) | exact unitsK64 (by assumption) (by decide) | exact unitsG rfl (by decide) | exact unitsG64 rfl) | ktr_units)); (intro r9 t9 h9 tk9 tkk9 hr9 hs9 F9 N9); (try dsimp only at N9); (try dsimp only); (try k_sweep); (try k_fold)))
    k_with "my w1" => ((k_here; (with_reducible show wpAny _ _ (subscriptTail (Expr.List _ _) _ (Value.ref _) (Value.int _ _)) _ _ _); k_dflt ((refine' item_menu ?k1 ?k2 ?k3 ?k4 ?k5 ?_); (case k1 => exact isl (by assumption) (by k_mem)); (case k2 => first | exact ints3 | exact ints4 | exact ints6 | exact ints12); (case k3 => omega); (case k4 => simp only [List.length_cons, List.length_nil]; omega); (case k5 => omega)); (intro x9 t9 of9)))
    k_with "my w1" => ((k_here; (with_reducible show wpAny _ _ (eval (Expr.ListComp _ _ _ _) _) _ _ _); k_extra "my lc"))
    k_with "CompSrc" => ((k_here; k_extra "my src"))
    k_with "my w1" => ((k_here; (with_reducible show wpAny _ _ (call (Value.ref 210) _) _ _ _); k_extra "my moved"))
    k_with "my call" => (first | (k_dflt (refine' use_L (product_polynomial_c _ _ _ _ _ _ _ _ _ _ _ ?p0 ?p1 ?p2 ?p3 ?p4 ?p5 ?p6 ?p7) ?kB ?kF ?kX ?kN ?kT ?kK ?kd ?ku ?kP ?kb ?_; (case kP => (first | exact trivial | (first | exact isl (by assumption) (by k_mem) | is_list) | (refine And.intro ?_ ?_ <;> (first | exact isl (by assumption) (by k_mem) | is_list)))); (case p0 => first | assumption | exact .nil | exact .cons _ _ .nil | exact .cons _ _ (.cons _ _ .nil) | exact .cons _ _ (.cons _ _ (.cons _ _ .nil)) | l_ints); (case p1 => (first | assumption | (simp only [List.length_cons, List.length_nil]; omega))); (case p2 => first | assumption | exact .nil | exact .cons _ _ .nil | exact .cons _ _ (.cons _ _ .nil) | exact .cons _ _ (.cons _ _ (.cons _ _ .nil)) | l_ints); (case p3 => (first | assumption | (simp only [List.length_cons, List.length_nil]; omega))); (case p4 => exact LenEq.ok (by assumption)); (case p5 => assumption); (case p6 => assumption); (case p7 => exact BaseProd.ok (by assumption)); (case kb => exact zcomposeP_len _ _); (case kB => k_asm); (case kF => k_asm); (case kX => k_asm); (case kN => k_asm); (case kT => k_asm); (case kK => first | exact rfl | assumption); (case kd => first | exact roomK (by assumption) (by decide) | ((try simp only [depth_under_make, depth_under_kw, depth_in1, depth_deeper, depth_caller]); (try dsimp only [ktrTop]); first | exact roomK (by assumption) (by decide) | exact roomG rfl (by decide)) | ktr_room); (case ku => first | ((try simp only [units_in1, units_deeper, Around.mark_units, units_caller]); (try dsimp only [ktrTop]); first | exact unitsK (by assumption) (by decide) | exact unitsK64 (by assumption) (by decide) | exact unitsG rfl (by decide) | exact unitsG64 rfl) | ktr_units); intro l9 ys9 n9 h9 tk9 F9 N9 ne9 hi9 hb9; (have no9 := ne9); (clear ne9); (try dsimp only); (try k_sweep); (try k_fold))) | (k_dflt (refine' use_L (sum_polynomial_c _ _ _ _ _ _ _ _ _ _ _ ?p0 ?p1 ?p2 ?p3 ?p4 ?p5 ?p6 ?p7) ?kB ?kF ?kX ?kN ?kT ?kK ?kd ?ku ?kP ?kb ?_; (case kP => (first | exact trivial | (first | exact isl (by assumption) (by k_mem) | is_list) | (refine And.intro ?_ ?_ <;> (first | exact isl (by assumption) (by k_mem) | is_list)))); (case p0 => first | assumption | exact .nil | exact .cons _ _ .nil | exact .cons _ _ (.cons _ _ .nil) | exact .cons _ _ (.cons _ _ (.cons _ _ .nil)) | l_ints); (case p1 => (first | assumption | (simp only [List.length_cons, List.length_nil]; omega))); (case p2 => first | assumption | exact .nil | exact .cons _ _ .nil | exact .cons _ _ (.cons _ _ .nil) | exact .cons _ _ (.cons _ _ (.cons _ _ .nil)) | l_ints); (case p3 => (first | assumption | (simp only [List.length_cons, List.length_nil]; omega))); (case p4 => exact LenEq.ok (by assumption)); (case p5 => assumption); (case p6 => assumption); (case p7 => exact BaseSum.ok (by assumption)); (case kb => exact through_valuesP_len _); (case kB => k_asm); (case kF => k_asm); (case kX => k_asm); (case kN => k_asm); (case kT => k_asm); (case kK => first | exact rfl | assumption); (case kd => first | exact roomK (by assumption) (by decide) | ((try simp only [depth_under_make, depth_under_kw, depth_in1, depth_deeper, depth_caller]); (try dsimp only [ktrTop]); first | exact roomK (by assumption) (by decide) | exact roomG rfl (by decide)) | ktr_room); (case ku => first | ((try simp only [units_in1, units_deeper, Around.mark_units, units_caller]); (try dsimp only [ktrTop]); first | exact unitsK (by assumption) (by decide) | exact unitsK64 (by assumption) (by decide) | exact unitsG rfl (by decide) | exact unitsG64 rfl) | ktr_units); intro l9 ys9 n9 h9 tk9 F9 N9 ne9 hi9 hb9; (have no9 := ne9); (clear ne9); (try dsimp only); (try k_sweep); (try k_fold))) | (k_dflt (refine' use_Q (law_scaled_c _ _ _ _ _ _ _ _ _ ?p0 ?p1 ?p2 ?p3) ?kB ?kF ?kX ?kN ?kT ?kK ?kd ?ku ?kP ?kb1 ?kb2 ?_; (case kP => (first | exact trivial | (first | exact isl (by assumption) (by k_mem) | is_list) | (refine And.intro ?_ ?_ <;> (first | exact isl (by assumption) (by k_mem) | is_list)))); (case p0 => first | assumption | exact .nil | exact .cons _ _ .nil | exact .cons _ _ (.cons _ _ .nil) | exact .cons _ _ (.cons _ _ (.cons _ _ .nil)) | l_ints); (case p1 => first | assumption | exact Nat.lt_of_lt_of_le (by assumption) (by decide) | l_fit | omega | (simp only [List.length_cons, List.length_nil, List.length_append, List.length_map, List.length_replicate, List.length_reverse, rangeKs_length] at *; omega)); (case p2 => assumption); (case p3 => assumption); (case kb1 => exact scaledP_len1 _ _); (case kb2 => exact scaledP_len2 _ _); (case kB => k_asm); (case kF => k_asm); (case kX => k_asm); (case kN => k_asm); (case kT => k_asm); (case kK => first | exact rfl | assumption); (case kd => first | exact roomK (by assumption) (by decide) | ((try simp only [depth_under_make, depth_under_kw, depth_in1, depth_deeper, depth_caller]); (try dsimp only [ktrTop]); first | exact roomK (by assumption) (by decide) | exact roomG rfl (by decide)) | ktr_room); (case ku => first | ((try simp only [units_in1, units_deeper, Around.mark_units, units_caller]); (try dsimp only [ktrTop]); first | exact unitsK (by assumption) (by decide) | exact unitsK64 (by assumption) (by decide) | exact unitsG rfl (by decide) | exact unitsG64 rfl) | ktr_units); intro T9 q9 l9 yq9 ys9 n9 nq9 nr9 h9 tk9 F9 N9 neT9 neq9 ne9 nql9 iq9 hi9 bq9 hb9; (have no9 := ne9); (clear ne9); (try dsimp only); (try k_sweep); (try k_fold))) | (k_dflt (refine' use_Q (law_moved_c _ _ _ _ _ _ _ _ _ ?p0 ?p1 ?p2) ?kB ?kF ?kX ?kN ?kT ?kK ?kd ?ku ?kP ?kb1 ?kb2 ?_; (case kP => (first | exact trivial | (first | exact isl (by assumption) (by k_mem) | is_list) | (refine And.intro ?_ ?_ <;> (first | exact isl (by assumption) (by k_mem) | is_list)))); (case p0 => first | assumption | exact .nil | exact .cons _ _ .nil | exact .cons _ _ (.cons _ _ .nil) | exact .cons _ _ (.cons _ _ (.cons _ _ .nil)) | l_ints); (case p1 => first | assumption | exact Nat.lt_of_lt_of_le (by assumption) (by decide) | l_fit | omega | (simp only [List.length_cons, List.length_nil, List.length_append, List.length_map, List.length_replicate, List.length_reverse, rangeKs_length] at *; omega)); (case p2 => assumption); (case kb1 => exact movedP_len1 _ _); (case kb2 => exact movedP_len2 _ _); (case kB => k_asm); (case kF => k_asm); (case kX => k_asm); (case kN => k_asm); (case kT => k_asm); (case kK => first | exact rfl | assumption); (case kd => first | exact roomK (by assumption) (by decide) | ((try simp only [depth_under_make, depth_under_kw, depth_in1, depth_deeper, depth_caller]); (try dsimp only [ktrTop]); first | exact roomK (by assumption) (by decide) | exact roomG rfl (by decide)) | ktr_room); (case ku => first | ((try simp only [units_in1, units_deeper, Around.mark_units, units_caller]); (try dsimp only [ktrTop]); first | exact unitsK (by assumption) (by decide) | exact unitsK64 (by assumption) (by decide) | exact unitsG rfl (by decide) | exact unitsG64 rfl) | ktr_units); intro T9 q9 l9 yq9 ys9 n9 nq9 nr9 h9 tk9 F9 N9 neT9 neq9 ne9 nql9 iq9 hi9 bq9 hb9; (have no9 := ne9); (clear ne9); (try dsimp only); (try k_sweep); (try k_fold))) | (k_dflt (refine' use_L (law_norm_c _ _ _ _ _ _ _ _ _ _ _ _ ?p0 ?p1 ?p2 ?p3 ?p4 ?p5 ?p6) ?kB ?kF ?kX ?kN ?kT ?kK ?kd ?ku ?kP ?kb ?_; (case kP => (first | exact trivial | (first | exact isl (by assumption) (by k_mem) | is_list) | (refine And.intro ?_ ?_ <;> (first | exact isl (by assumption) (by k_mem) | is_list)))); (case p0 => first | assumption | exact .nil | exact .cons _ _ .nil | exact .cons _ _ (.cons _ _ .nil) | exact .cons _ _ (.cons _ _ (.cons _ _ .nil)) | l_ints); (case p1 => first | assumption | exact Nat.lt_of_lt_of_le (by assumption) (by decide) | l_fit | omega | (simp only [List.length_cons, List.length_nil, List.length_append, List.length_map, List.length_replicate, List.length_reverse, rangeKs_length] at *; omega)); (case p2 => first | assumption | exact .nil | exact .cons _ _ .nil | exact .cons _ _ (.cons _ _ .nil) | exact .cons _ _ (.cons _ _ (.cons _ _ .nil)) | l_ints); (case p3 => first | assumption | exact Nat.lt_of_lt_of_le (by assumption) (by decide) | l_fit | omega | (simp only [List.length_cons, List.length_nil, List.length_append, List.length_map, List.length_replicate, List.length_reverse, rangeKs_length] at *; omega)); (case p4 => assumption); (case p5 => assumption); (case p6 => assumption); (case kb => exact normP_len _ _ _); (case kB => k_asm); (case kF => k_asm); (case kX => k_asm); (case kN => k_asm); (case kT => k_asm); (case kK => first | exact rfl | assumption); (case kd => first | exact roomK (by assumption) (by decide) | ((try simp only [depth_under_make, depth_under_kw, depth_in1, depth_deeper, depth_caller]); (try dsimp only [ktrTop]); first | exact roomK (by assumption) (by decide) | exact roomG rfl (by decide)) | ktr_room); (case ku => first | ((try simp only [units_in1, units_deeper, Around.mark_units, units_caller]); (try dsimp only [ktrTop]); first | exact unitsK (by assumption) (by decide) | exact unitsK64 (by assumption) (by decide) | exact unitsG rfl (by decide) | exact unitsG64 rfl) | ktr_units); intro l9 ys9 n9 h9 tk9 F9 N9 ne9 hi9 hb9; (have no9 := ne9); (clear ne9); (try dsimp only); (try k_sweep); (try k_fold))) | (k_dflt (refine' use_L (law_times_c _ _ _ _ _ _ _ _ _ _ ?p0 ?p1 ?p2 ?p3 ?p4) ?kB ?kF ?kX ?kN ?kT ?kK ?kd ?ku ?kP ?kb ?_; (case kP => (first | exact trivial | (first | exact isl (by assumption) (by k_mem) | is_list) | (refine And.intro ?_ ?_ <;> (first | exact isl (by assumption) (by k_mem) | is_list)))); (case p0 => first | assumption | exact .nil | exact .cons _ _ .nil | exact .cons _ _ (.cons _ _ .nil) | exact .cons _ _ (.cons _ _ (.cons _ _ .nil)) | l_ints); (case p1 => first | assumption | exact Nat.lt_of_lt_of_le (by assumption) (by decide) | l_fit | omega | (simp only [List.length_cons, List.length_nil, List.length_append, List.length_map, List.length_replicate, List.length_reverse, rangeKs_length] at *; omega)); (case p2 => first | assumption | exact .nil | exact .cons _ _ .nil | exact .cons _ _ (.cons _ _ .nil) | exact .cons _ _ (.cons _ _ (.cons _ _ .nil)) | l_ints); (case p3 => first | assumption | exact Nat.lt_of_lt_of_le (by assumption) (by decide) | l_fit | omega | (simp only [List.length_cons, List.length_nil, List.length_append, List.length_map, List.length_replicate, List.length_reverse, rangeKs_length] at *; omega)); (case p4 => assumption); (case kb => exact timesP_len _ _); (case kB => k_asm); (case kF => k_asm); (case kX => k_asm); (case kN => k_asm); (case kT => k_asm); (case kK => first | exact rfl | assumption); (case kd => first | exact roomK (by assumption) (by decide) | ((try simp only [depth_under_make, depth_under_kw, depth_in1, depth_deeper, depth_caller]); (try dsimp only [ktrTop]); first | exact roomK (by assumption) (by decide) | exact roomG rfl (by decide)) | ktr_room); (case ku => first | ((try simp only [units_in1, units_deeper, Around.mark_units, units_caller]); (try dsimp only [ktrTop]); first | exact unitsK (by assumption) (by decide) | exact unitsK64 (by assumption) (by decide) | exact unitsG rfl (by decide) | exact unitsG64 rfl) | ktr_units); intro l9 ys9 n9 h9 tk9 F9 N9 ne9 hi9 hb9; (have no9 := ne9); (clear ne9); (try dsimp only); (try k_sweep); (try k_fold))) | (k_dflt (refine' use_L (law_plus_c _ _ _ _ _ _ _ _ _ _ _ _ ?p0 ?p1 ?p2 ?p3 ?p4) ?kB ?kF ?kX ?kN ?kT ?kK ?kd ?ku ?kP ?kb ?_; (case kP => (first | exact trivial | (first | exact isl (by assumption) (by k_mem) | is_list) | (refine And.intro ?_ ?_ <;> (first | exact isl (by assumption) (by k_mem) | is_list)))); (case p0 => first | assumption | exact .nil | exact .cons _ _ .nil | exact .cons _ _ (.cons _ _ .nil) | exact .cons _ _ (.cons _ _ (.cons _ _ .nil)) | l_ints); (case p1 => first | assumption | exact Nat.lt_of_lt_of_le (by assumption) (by decide) | l_fit | omega | (simp only [List.length_cons, List.length_nil, List.length_append, List.length_map, List.length_replicate, List.length_reverse, rangeKs_length] at *; omega)); (case p2 => first | assumption | exact .nil | exact .cons _ _ .nil | exact .cons _ _ (.cons _ _ .nil) | exact .cons _ _ (.cons _ _ (.cons _ _ .nil)) | l_ints); (case p3 => first | assumption | exact Nat.lt_of_lt_of_le (by assumption) (by decide) | l_fit | omega | (simp only [List.length_cons, List.length_nil, List.length_append, List.length_map, List.length_replicate, List.length_reverse, rangeKs_length] at *; omega)); (case p4 => (first | assumption | exact SmL.at (by assumption) (by assumption))); (case kb => exact plusP_len _ _ _); (case kB => k_asm); (case kF => k_asm); (case kX => k_asm); (case kN => k_asm); (case kT => k_asm); (case kK => first | exact rfl | assumption); (case kd => first | exact roomK (by assumption) (by decide) | ((try simp only [depth_under_make, depth_under_kw, depth_in1, depth_deeper, depth_caller]); (try dsimp only [ktrTop]); first | exact roomK (by assumption) (by decide) | exact roomG rfl (by decide)) | ktr_room); (case ku => first | ((try simp only [units_in1, units_deeper, Around.mark_units, units_caller]); (try dsimp only [ktrTop]); first | exact unitsK (by assumption) (by decide) | exact unitsK64 (by assumption) (by decide) | exact unitsG rfl (by decide) | exact unitsG64 rfl) | ktr_units); intro l9 ys9 n9 h9 tk9 F9 N9 ne9 hi9 hb9; (have no9 := ne9); (clear ne9); (try dsimp only); (try k_sweep); (try k_fold))))
    k_with "my for" => refine Stop.mk ?_
    k_with "my iter" => refine Stop.mk ?_
    (unfold Stop; refine wpAny_For ?_ (fun _ => by rfl); k_steps; unfold Stop)
    refine' lp_law "shifted" ["number"] (fun pre zs => zs = shiftPre c pre ∧ zs.length ≤ 2 * pre.length) (ns := f.reverse) (f := f) ?F ?N ?hi ?hif ?m1 ?m2 ?m3 ?n1 ?n2 ?n3 ?hh ?hL ?hx ?hpl ?hy ?hp ?turn ?done ?hE
    case F => assumption
    case N => assumption
    case hi => assumption
    case hif => assumption
    case m1 => k_mem
    case m2 => k_mem
    case hh => exact rfl
    case hL => exact rfl
    case hx => exact rfl
    case hpl => exact rfl
    case hy => exact rfl
    case m3 => k_mem
    case n1 => k_ne
    case n2 => k_ne
    case n3 => k_ne
    case hp => exact ⟨rfl, Nat.zero_le _⟩
    case hE => first | passes_own | with_unfolding_all passes_own
    case turn =>
      intro pre post x t D vs' n zs u h tk own e hf hp hd hro hrd F N
      obtain ⟨hz, hzl⟩ := hp
      have hpre := split_len_rev e
      have hzs : zs.length < 2 ^ 7 := by omega
      have hoff := own_two' hd hro
      k_steps
      dsimp only [Lp1Post]
      rename News _ _ _ _ => N9e
      rename Fr _ _ _ _ => F9e
      exact lp1_end F9e N9e (.head _) (fun p hp => by rw [List.mem_singleton.mp hp]; repeat (first | exact .head _ | refine List.Mem.tail _ ?_)) (fun p hp => (by (repeat (first | exact hp | refine List.Mem.tail _ ?_)))) (fun p hp => (show ∀ q ∈ _, q.1 ≠ _ from by assumption) p (by (repeat (first | exact hp | refine List.Mem.tail _ ?_)))) (fun p hp => (show ∀ q ∈ _, q.1 ≠ _ from by assumption) p (by rw [List.mem_singleton.mp hp]; repeat (first | exact .head _ | refine List.Mem.tail _ ?_))) (by assumption) rfl (fun z h1 h2 => by simp at h2; simp [h1, h2]) (shift_turn hz hzl)
    case done =>
      intro D vs' n zs u h tk hf hp hrd F N
      have hzs : zs.length < 2 ^ 7 := by have := hp.2; rw [List.length_reverse] at this; omega
      have hE3 := PL.e3.trans hp.1.symm
      k_steps
end
end Mine
theorem PySem.Challenge.cw_sa0099_01_holds : PySem.Challenge.rw_sa0099_01.Holds := by
  exact Mine.law_holds
