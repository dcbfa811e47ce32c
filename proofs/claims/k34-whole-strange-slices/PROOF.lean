import PyProof.Rows.All
import Wide.All
import OpenK.AllK
import Wide.FinOn
import KE.KStateDown
import Lean
import HandS.ForMost
import HandS.Exc
import HandS.ExcInit
import HandS.ExcField
import HandS.IsInst
import HandS.Codes
import HandS.Defaults
import HandS.Head0
import HandS.Head1
import HandS.Head2
import HandS.HeadEnd
import HandS.HeadHook1
import HandS.HeadHook2
import HandS.HeadHook3
import HandS.HeadHook4
import PySem.Challenge.RW_sealroot_k34_whole_strange_slices
import KE.DataMinMax
import KE.GoesMore
import HandS.DictComp
import HandS.Strs
import HandS.SetFor
import KE.GoesRaise
import KE.KAsSuite
import HandS.WordsExc
import KE.KLam
import HandS.TryOnly
import HandS.Lambda
import HandS.Nested
import PyProof.CodeObj
import HandS.ExcOwn
import PyProof.EqAt
import PyProof.EqKinds
import PyProof.TupleCall
import HandS.Base
import HandS.Call
import HandS.SortKw
import HandS.Walk
import HandS.FStr
import HandS.Wide
import HandS.SetKeys
import HandS.MakeKwOnly
import HandS.MakeKw
import HandS.TupAny
import HandS.Style
import HandS.HeadWalk
import HandS.Head3
set_option Elab.async false
set_option linter.all false
set_option maxRecDepth 100000
set_option maxHeartbeats 0
/-! SealA: the plain mathematics of the law: trees, their texts and numbers, unique readability, slices. No program in sight. -/
namespace Seal
/-- a text by its code points -/
abbrev Tx := List Nat

/-! ### digits -/
def dg (n : Nat) : Tx := (Nat.toDigits 10 n).map Char.toNat
theorem digitChar_nat : ∀ d : Nat, d < 10 → (Nat.digitChar d).toNat = 48 + d := by decide
theorem dg_lt {n : Nat} (h : n < 10) : dg n = [48 + n] := by
  unfold dg
  rw [Nat.toDigits_of_lt_base h]
  show [(Nat.digitChar n).toNat] = _
  rw [digitChar_nat n h]
theorem dg_step {n : Nat} (h : 10 ≤ n) : dg n = dg (n / 10) ++ [48 + n % 10] := by
  have hm : n % 10 < 10 := Nat.mod_lt n (by decide)
  have t : Nat.toDigits 10 (n / 10) ++ Nat.toDigits 10 (n % 10) = Nat.toDigits 10 (10 * (n / 10) + n % 10) := Nat.toDigits_append_toDigits (by decide) (by omega) hm
  rw [Nat.div_add_mod] at t
  show (Nat.toDigits 10 n).map Char.toNat = _
  rw [← t, List.map_append, Nat.toDigits_of_lt_base hm]
  show (Nat.toDigits 10 (n / 10)).map Char.toNat ++ [(Nat.digitChar (n % 10)).toNat] = _
  rw [digitChar_nat _ hm] <;> rfl
theorem dg_digits (n : Nat) : ∀ c ∈ dg n, 48 ≤ c ∧ c ≤ 57 := by
  induction n using Nat.strongRecOn with
  | _ n ih =>
    by_cases h : n < 10
    · rw [dg_lt h]
      intro c hc
      rw [List.mem_singleton.mp hc]
      omega
    · rw [dg_step (by omega)]
      intro c hc
      rcases List.mem_append.mp hc with hc | hc
      · exact ih (n / 10) (by omega) c hc
      · have hm : n % 10 < 10 := Nat.mod_lt n (by decide)
        rw [List.mem_singleton.mp hc]
        omega
def dval (l : Tx) : Nat := l.foldl (fun a c => a * 10 + (c - 48)) 0
theorem dg_val (n : Nat) : dval (dg n) = n := by
  induction n using Nat.strongRecOn with
  | _ n ih =>
    by_cases h : n < 10
    · rw [dg_lt h]
      show 0 * 10 + (48 + n - 48) = n
      omega
    · have q := ih (n / 10) (by omega)
      unfold dval at q ⊢
      rw [dg_step (by omega), List.foldl_append, q]
      show n / 10 * 10 + (48 + n % 10 - 48) = n
      omega
theorem dg_inj {m n : Nat} (h : dg m = dg n) : m = n := by
  have e := congrArg dval h
  rwa [dg_val, dg_val] at e

/-! ### trees -/
/-- a part of a tree: a stub, or a node: stem, value, kids by letters -/
inductive Tr where
  | stub (n : Nat)
  | node (stem : Tx) (val : Option Tx) (kids : List (Nat × Tr))
theorem Tr.ind {P : Tr → Prop} (hs : ∀ n, P (.stub n)) (hn : ∀ s v ks, (∀ p ∈ ks, P p.2) → P (.node s v ks)) : ∀ t, P t
  | .stub n => hs n
  | .node s v ks => hn s v ks (go ks)
where go : ∀ ks : List (Nat × Tr), ∀ p ∈ ks, P p.2
  | [], _, h => nomatch h
  | (c, t) :: r, p, h => by
    rcases List.mem_cons.mp h with e | h
    · subst e
      exact Tr.ind hs hn t
    · exact go r p h

mutual
def Tr.size : Tr → Nat
  | .stub _ => 1
  | .node _ _ ks => 1 + sizes ks
def sizes : List (Nat × Tr) → Nat
  | [] => 0
  | (_, t) :: r => t.size + sizes r
end
mutual
def Tr.depth : Tr → Nat
  | .stub _ => 1
  | .node _ _ ks => 1 + depths ks
def depths : List (Nat × Tr) → Nat
  | [] => 0
  | (_, t) :: r => max t.depth (depths r)
end
mutual
def Tr.height : Tr → Nat
  | .stub _ => 0
  | .node s _ ks => s.length + heights ks
def heights : List (Nat × Tr) → Nat
  | [] => 0
  | (_, t) :: r => max (1 + t.height) (heights r)
end
mutual
/-- all nodes, each ahead of its kids -/
def Tr.nodes : Tr → List Tr
  | .stub _ => []
  | .node s v ks => .node s v ks :: nodess ks
def nodess : List (Nat × Tr) → List Tr
  | [] => []
  | (_, t) :: r => t.nodes ++ nodess r
end
mutual
/-- keys and values at a way -/
def Tr.pairs : Tr → Tx → List (Tx × Tx)
  | .stub _, _ => []
  | .node s v ks, w => (match v with | some x => [(w ++ s, x)] | none => []) ++ pairss ks (w ++ s)
def pairss : List (Nat × Tr) → Tx → List (Tx × Tx)
  | [], _ => []
  | (c, t) :: r, k => t.pairs (k ++ [c]) ++ pairss r k
end
mutual
/-- no stubs -/
def Tr.Whole : Tr → Prop
  | .stub _ => False
  | .node _ _ ks => wholes ks
def wholes : List (Nat × Tr) → Prop
  | [] => True
  | (_, t) :: r => t.Whole ∧ wholes r
end
mutual
/-- something holds of every stem, value, letter and number -/
def Tr.All (ps : Tx → Prop) (pv : Tx → Prop) (pc : Nat → Prop) (pn : Nat → Prop) : Tr → Prop
  | .stub n => pn n
  | .node s v ks => ps s ∧ (∀ x, v = some x → pv x) ∧ alls ps pv pc pn ks
def alls (ps : Tx → Prop) (pv : Tx → Prop) (pc : Nat → Prop) (pn : Nat → Prop) : List (Nat × Tr) → Prop
  | [] => True
  | (c, t) :: r => pc c ∧ t.All ps pv pc pn ∧ alls ps pv pc pn r
end

/-! ### letters, keys, values -/
def isLow (c : Nat) : Bool := decide (97 ≤ c) && decide (c ≤ 122)
def isSign (c : Nat) : Bool := decide (32 ≤ c) && decide (c ≤ 126)
theorem isLow_iff {c : Nat} : isLow c = true ↔ 97 ≤ c ∧ c ≤ 122 := by
  unfold isLow
  rw [Bool.and_eq_true, decide_eq_true_eq, decide_eq_true_eq]
theorem isSign_iff {c : Nat} : isSign c = true ↔ 32 ≤ c ∧ c ≤ 126 := by
  unfold isSign
  rw [Bool.and_eq_true, decide_eq_true_eq, decide_eq_true_eq]
def Lows (s : Tx) : Prop := ∀ c ∈ s, 97 ≤ c ∧ c ≤ 122
def Signs (s : Tx) : Prop := ∀ c ∈ s, 32 ≤ c ∧ c ≤ 126
def IsKey (s : Tx) : Prop := s.length ≤ 8 ∧ Lows s
def IsVal (s : Tx) : Prop := s.length ≤ 40 ∧ Signs s

/-! ### texts -/
def startTx (s : Tx) (v : Option Tx) : Tx := s ++ (match v with | none => [45] | some x => 61 :: (dg x.length ++ (58 :: x)))
def rowTx (p : Nat × Nat) : Tx := 59 :: p.1 :: dg p.2
def rowsTx (r : List (Nat × Nat)) : Tx := r.flatMap rowTx
def textTx (s : Tx) (v : Option Tx) (r : List (Nat × Nat)) : Tx := startTx s v ++ rowsTx r

/-- a run of signs that have p, ended by one that has not, is read one way -/
theorem run_eq {p : Nat → Prop} : ∀ {a b x y : Tx}, (∀ c ∈ a, p c) → (∀ c ∈ b, p c) → (∀ c, x.head? = some c → ¬ p c) → (∀ c, y.head? = some c → ¬ p c) → a ++ x = b ++ y → a = b ∧ x = y
  | [], [], x, y, _, _, _, _, h => ⟨rfl, h⟩
  | [], c :: b, x, y, _, hb, hx, _, h => by
    have h1 : x = c :: (b ++ y) := h
    exact absurd (hb c List.mem_cons_self) (hx c (by rw [h1] <;> rfl))
  | c :: a, [], x, y, ha, _, _, hy, h => by
    have h1 : c :: (a ++ x) = y := h
    exact absurd (ha c List.mem_cons_self) (hy c (by rw [← h1] <;> rfl))
  | c :: a, d :: b, x, y, ha, hb, hx, hy, h => by
    have h1 : c :: (a ++ x) = d :: (b ++ y) := h
    injection h1 with e h2
    obtain ⟨e1, e2⟩ := run_eq (p := p) (fun z hz => ha z (List.mem_cons_of_mem _ hz)) (fun z hz => hb z (List.mem_cons_of_mem _ hz)) hx hy h2
    exact ⟨by rw [e, e1], e2⟩

theorem rowsTx_head (r : List (Nat × Nat)) : ∀ c, (rowsTx r).head? = some c → ¬ (48 ≤ c ∧ c ≤ 57) := fun c h => by
  cases r with
  | nil => cases h
  | cons q r =>
    have e : (59 : Nat) = c := Option.some.inj h
    omega
theorem rowsTx_inj : ∀ {r r' : List (Nat × Nat)}, rowsTx r = rowsTx r' → r = r'
  | [], [], _ => rfl
  | [], q :: r', h => by
    have h1 : ([] : Tx) = 59 :: (q.1 :: dg q.2 ++ rowsTx r') := h
    cases h1
  | q :: r, [], h => by
    have h1 : 59 :: (q.1 :: dg q.2 ++ rowsTx r) = ([] : Tx) := h
    cases h1
  | (c, n) :: r, (c', n') :: r', h => by
    have h1 : 59 :: c :: (dg n ++ rowsTx r) = 59 :: c' :: (dg n' ++ rowsTx r') := h
    injection h1 with _ h2
    injection h2 with e h3
    obtain ⟨e1, e2⟩ := run_eq (p := fun c => 48 ≤ c ∧ c ≤ 57) (dg_digits n) (dg_digits n') (rowsTx_head r) (rowsTx_head r') h3
    rw [e, dg_inj e1, rowsTx_inj e2]
/-- THE READING: a text tells its stem, value and rows -/
theorem text_inj {s s' : Tx} {v v' : Option Tx} {r r' : List (Nat × Nat)} (hs : Lows s) (hs' : Lows s') (h : textTx s v r = textTx s' v' r') : s = s' ∧ v = v' ∧ r = r' := by
  have sp : ∀ (s : Tx) (v : Option Tx) (r : List (Nat × Nat)), textTx s v r = s ++ ((match v with | none => [45] | some x => 61 :: (dg x.length ++ (58 :: x))) ++ rowsTx r) := fun s v r => List.append_assoc _ _ _
  have hd : ∀ (v : Option Tx) (r : List (Nat × Nat)) (c : Nat), ((match v with | none => [45] | some x => 61 :: (dg x.length ++ (58 :: x))) ++ rowsTx r).head? = some c → ¬ (97 ≤ c ∧ c ≤ 122) := fun v r c e => by
    cases v with
    | none =>
      have e1 : (45 : Nat) = c := Option.some.inj e
      omega
    | some x =>
      have e1 : (61 : Nat) = c := Option.some.inj e
      omega
  rw [sp, sp] at h
  obtain ⟨e1, e2⟩ := run_eq (p := fun c => 97 ≤ c ∧ c ≤ 122) hs hs' (hd v r) (hd v' r') h
  refine ⟨e1, ?_⟩
  cases v with
  | none =>
    cases v' with
    | none =>
      have e3 : 45 :: rowsTx r = 45 :: rowsTx r' := e2
      injection e3 with _ e4
      exact ⟨rfl, rowsTx_inj e4⟩
    | some y =>
      have e3 : 45 :: rowsTx r = 61 :: (dg y.length ++ (58 :: y) ++ rowsTx r') := e2
      injection e3 with e4 _
      cases e4
  | some x =>
    cases v' with
    | none =>
      have e3 : 61 :: (dg x.length ++ (58 :: x) ++ rowsTx r) = 45 :: rowsTx r' := e2
      injection e3 with e4 _
      cases e4
    | some y =>
      have e3 : 61 :: (dg x.length ++ (58 :: x) ++ rowsTx r) = 61 :: (dg y.length ++ (58 :: y) ++ rowsTx r') := e2
      injection e3 with _ e4
      rw [List.append_assoc, List.append_assoc] at e4
      obtain ⟨e5, e6⟩ := run_eq (p := fun c => 48 ≤ c ∧ c ≤ 57) (dg_digits _) (dg_digits _) (fun c e => by
        have e1 : (58 : Nat) = c := Option.some.inj e
        omega) (fun c e => by
        have e1 : (58 : Nat) = c := Option.some.inj e
        omega) e4
      have e7 : 58 :: (x ++ rowsTx r) = 58 :: (y ++ rowsTx r') := e6
      injection e7 with _ e8
      obtain ⟨e9, e10⟩ := List.append_inj e8 (dg_inj e5)
      exact ⟨by rw [e9], rowsTx_inj e10⟩
theorem textTx_ne (s : Tx) (v : Option Tx) (r : List (Nat × Nat)) : textTx s v r ≠ [] := fun h => by
  have e := congrArg List.length h
  unfold textTx startTx at e
  cases v <;> simp at e

/-! ### numbers, by what a digest is known to tell -/
abbrev Known := Tx → Option Nat
def Known.Le (M M' : Known) : Prop := ∀ t n, M t = some n → M' t = some n
theorem Known.Le.refl (M : Known) : M.Le M := fun _ _ h => h
theorem Known.Le.trans {M M1 M2 : Known} (a : M.Le M1) (b : M1.Le M2) : M.Le M2 := fun t n h => b t n (a t n h)
mutual
def Tr.num (M : Known) : Tr → Option Nat
  | .stub n => some n
  | .node s v ks => (nums M ks).bind fun r => M (textTx s v r)
def nums (M : Known) : List (Nat × Tr) → Option (List (Nat × Nat))
  | [] => some []
  | (c, t) :: r => (t.num M).bind fun n => (nums M r).map fun l => (c, n) :: l
end
def Tr.text (M : Known) : Tr → Option Tx
  | .stub _ => none
  | .node s v ks => (nums M ks).map fun r => textTx s v r
theorem num_mono {M M' : Known} (h : M.Le M') : ∀ t : Tr, ∀ n, t.num M = some n → t.num M' = some n := by
  have ks : ∀ ks : List (Nat × Tr), (∀ p ∈ ks, ∀ n, p.2.num M = some n → p.2.num M' = some n) → ∀ r, nums M ks = some r → nums M' ks = some r := by
    intro ks
    induction ks with
    | nil => intro _ r e; exact e
    | cons p ks ih =>
      obtain ⟨c, t⟩ := p
      intro hp r e
      unfold nums at e ⊢
      cases e1 : t.num M with
      | none => rw [e1] at e; cases e
      | some n =>
        rw [e1] at e
        rw [hp (c, t) List.mem_cons_self n e1]
        cases e2 : nums M ks with
        | none => rw [e2] at e; cases e
        | some l =>
          rw [e2] at e
          rw [ih (fun p hp' => hp p (List.mem_cons_of_mem _ hp')) l e2]
          exact e
  refine Tr.ind (fun n m e => e) fun s v kids ih n e => ?_
  unfold Tr.num at e ⊢
  cases e2 : nums M kids with
  | none => rw [e2] at e; cases e
  | some r =>
    rw [e2] at e
    rw [ks kids ih r e2]
    exact h _ _ e
theorem nums_mono {M M' : Known} (h : M.Le M') : ∀ {ks : List (Nat × Tr)} {r}, nums M ks = some r → nums M' ks = some r
  | [], _, e => e
  | (c, t) :: ks, r, e => by
    unfold nums at e ⊢
    cases e1 : t.num M with
    | none => rw [e1] at e; cases e
    | some n =>
      rw [e1] at e
      rw [num_mono h t n e1]
      cases e2 : nums M ks with
      | none => rw [e2] at e; cases e
      | some l =>
        rw [e2] at e
        rw [nums_mono h e2]
        exact e
theorem text_mono {M M' : Known} (h : M.Le M') {t : Tr} {x : Tx} (e : t.text M = some x) : t.text M' = some x := by
  cases t with
  | stub n => cases e
  | node s v ks =>
    have e : (nums M ks).map (fun r => textTx s v r) = some x := e
    show (nums M' ks).map (fun r => textTx s v r) = some x
    cases e2 : nums M ks with
    | none => rw [e2] at e; cases e
    | some r => rw [e2] at e; rw [nums_mono h e2]; exact e
/-- numbers of kids, one by one -/
theorem nums_cons {M : Known} {c : Nat} {t : Tr} {ks : List (Nat × Tr)} {n : Nat} {l : List (Nat × Nat)} (h1 : t.num M = some n) (h2 : nums M ks = some l) : nums M ((c, t) :: ks) = some ((c, n) :: l) := by
  unfold nums
  rw [h1, h2] <;> rfl
theorem nums_of_cons {M : Known} {c : Nat} {t : Tr} {ks : List (Nat × Tr)} {r : List (Nat × Nat)} (h : nums M ((c, t) :: ks) = some r) : ∃ n l, t.num M = some n ∧ nums M ks = some l ∧ r = (c, n) :: l := by
  unfold nums at h
  cases e1 : t.num M with
  | none => rw [e1] at h; cases h
  | some n =>
    rw [e1] at h
    cases e2 : nums M ks with
    | none => rw [e2] at h; cases h
    | some l => rw [e2] at h; exact ⟨n, l, rfl, rfl, (Option.some.inj h).symm⟩
theorem num_node {M : Known} {s : Tx} {v : Option Tx} {ks : List (Nat × Tr)} {k : Nat} (h : (Tr.node s v ks).num M = some k) : ∃ r, nums M ks = some r ∧ M (textTx s v r) = some k := by
  unfold Tr.num at h
  cases e : nums M ks with
  | none => rw [e] at h; cases h
  | some r => rw [e] at h; exact ⟨r, rfl, h⟩
theorem num_of {M : Known} {s : Tx} {v : Option Tx} {ks : List (Nat × Tr)} {k : Nat} {r : List (Nat × Nat)} (h1 : nums M ks = some r) (h2 : M (textTx s v r) = some k) : (Tr.node s v ks).num M = some k := by
  unfold Tr.num
  rw [h1]
  exact h2
theorem text_of {M : Known} {s : Tx} {v : Option Tx} {ks : List (Nat × Tr)} {r : List (Nat × Nat)} (h1 : nums M ks = some r) : (Tr.node s v ks).text M = some (textTx s v r) := by
  show (nums M ks).map (fun r => textTx s v r) = _
  rw [h1] <;> rfl

/-! ### the texts that are seen -/
def txs (M : Known) (t : Tr) : List Tx := t.nodes.filterMap fun n => n.text M
def Clash (M : Known) (ts : List Tx) : Prop := ∃ a b n, a ∈ ts ∧ b ∈ ts ∧ a ≠ b ∧ M a = some n ∧ M b = some n
theorem Clash.mono {M M' : Known} (h : M.Le M') {ts ts' : List Tx} (hs : ∀ t ∈ ts, t ∈ ts') : Clash M ts → Clash M' ts'
  | ⟨a, b, n, ha, hb, ne, ea, eb⟩ => ⟨a, b, n, hs a ha, hs b hb, ne, h _ _ ea, h _ _ eb⟩
theorem nodes_self (s : Tx) (v : Option Tx) (ks : List (Nat × Tr)) : Tr.node s v ks ∈ (Tr.node s v ks).nodes := by
  unfold Tr.nodes
  exact List.mem_cons_self
theorem nodes_kid {s : Tx} {v : Option Tx} : ∀ {ks : List (Nat × Tr)} {p : Nat × Tr} {n : Tr}, p ∈ ks → n ∈ p.2.nodes → n ∈ nodess ks
  | (c, t) :: ks, p, n, h, hn => by
    unfold nodess
    rcases List.mem_cons.mp h with e | h
    · subst e
      exact List.mem_append_left _ hn
    · exact List.mem_append_right _ (nodes_kid (s := s) (v := v) h hn)
theorem txs_self {M : Known} {s : Tx} {v : Option Tx} {ks : List (Nat × Tr)} {r : List (Nat × Nat)} (h : nums M ks = some r) : textTx s v r ∈ txs M (.node s v ks) :=
  List.mem_filterMap.mpr ⟨_, nodes_self s v ks, text_of h⟩
theorem txs_kid {M : Known} {s : Tx} {v : Option Tx} {ks : List (Nat × Tr)} {p : Nat × Tr} (hp : p ∈ ks) {x : Tx} (h : x ∈ txs M p.2) : x ∈ txs M (.node s v ks) := by
  obtain ⟨n, h1, h2⟩ := List.mem_filterMap.mp h
  refine List.mem_filterMap.mpr ⟨n, ?_, h2⟩
  unfold Tr.nodes
  exact List.mem_cons_of_mem _ (nodes_kid (s := s) (v := v) hp h1)

/-! ### slices -/
mutual
def Tr.SliceOf : Tr → Tr → Prop
  | .stub _, _ => True
  | .node _ _ _, .stub _ => False
  | .node s v ks, .node s' v' ks' => s = s' ∧ v = v' ∧ slices ks ks'
def slices : List (Nat × Tr) → List (Nat × Tr) → Prop
  | [], [] => True
  | (c, t) :: r, (c', t') :: r' => c = c' ∧ t.SliceOf t' ∧ slices r r'
  | [], _ :: _ => False
  | _ :: _, [] => False
end
mutual
/-- every stem is of small letters -/
def Tr.LowS : Tr → Prop
  | .stub _ => True
  | .node s _ ks => Lows s ∧ lowSs ks
def lowSs : List (Nat × Tr) → Prop
  | [] => True
  | (_, t) :: r => t.LowS ∧ lowSs r
end
theorem lowSs_mem : ∀ {ks : List (Nat × Tr)}, lowSs ks → ∀ p ∈ ks, p.2.LowS
  | (c, t) :: r, h, p, hp => by
    unfold lowSs at h
    rcases List.mem_cons.mp hp with e | hp
    · subst e; exact h.1
    · exact lowSs_mem h.2 p hp
theorem wholes_mem : ∀ {ks : List (Nat × Tr)}, wholes ks → ∀ p ∈ ks, p.2.Whole
  | (c, t) :: r, h, p, hp => by
    unfold wholes at h
    rcases List.mem_cons.mp hp with e | hp
    · subst e; exact h.1
    · exact wholes_mem h.2 p hp
/-- THE SLICE: a part of a whole tree's number, where no clash stands in the texts of both, is a slice of it -/
theorem slice_of {M : Known} : ∀ (P W : Tr) (k : Nat), P.num M = some k → W.num M = some k → W.Whole → P.LowS → W.LowS → ¬ Clash M (txs M P ++ txs M W) → P.SliceOf W := by
  refine Tr.ind (fun n W k _ _ _ _ _ _ => by unfold Tr.SliceOf; trivial) fun s v ks ih W k hP hW wh lp lw nc => ?_
  cases W with
  | stub n => unfold Tr.Whole at wh; exact wh.elim
  | node s' v' ks' =>
    obtain ⟨r, n1, m1⟩ := num_node hP
    obtain ⟨r', n2, m2⟩ := num_node hW
    unfold Tr.LowS at lp lw
    unfold Tr.Whole at wh
    have et : textTx s v r = textTx s' v' r' := by
      apply Classical.byContradiction
      intro ne
      exact nc ⟨_, _, k, List.mem_append_left _ (txs_self n1), List.mem_append_right _ (txs_self n2), ne, m1, m2⟩
    obtain ⟨e1, e2, e3⟩ := text_inj lp.1 lw.1 et
    unfold Tr.SliceOf
    refine ⟨e1, e2, ?_⟩
    subst e3
    have go : ∀ (l l' : List (Nat × Tr)) (q : List (Nat × Nat)), (∀ p ∈ l, p ∈ ks) → (∀ p ∈ l', p ∈ ks') → nums M l = some q → nums M l' = some q → slices l l' := by
      intro l
      induction l with
      | nil =>
        intro l' q _ _ h1 h2
        cases l' with
        | nil => unfold slices; trivial
        | cons p l' =>
          obtain ⟨c, t⟩ := p
          obtain ⟨n, m, _, _, e⟩ := nums_of_cons h2
          have h1' : (some [] : Option (List (Nat × Nat))) = some q := by unfold nums at h1; exact h1
          have := Option.some.inj h1'
          rw [e] at this
          cases this
      | cons p l ihl =>
        obtain ⟨c, t⟩ := p
        intro l' q hl hl' h1 h2
        obtain ⟨n, m, a1, a2, a3⟩ := nums_of_cons h1
        cases l' with
        | nil =>
          have h2' : (some [] : Option (List (Nat × Nat))) = some q := by unfold nums at h2; exact h2
          have := Option.some.inj h2'
          rw [a3] at this
          cases this
        | cons p' l' =>
          obtain ⟨c', t'⟩ := p'
          obtain ⟨n', m', b1, b2, b3⟩ := nums_of_cons h2
          rw [a3] at b3
          injection b3 with b4 b5
          injection b4 with b6 b7
          subst b6 b7 b5
          unfold slices
          have hp := hl _ (List.mem_cons_self (a := (c, t)))
          have hp' := hl' _ (List.mem_cons_self (a := (c, t')))
          refine ⟨rfl, ih (c, t) hp t' n a1 b1 (wholes_mem wh _ hp') (lowSs_mem lp.2 _ hp) (lowSs_mem lw.2 _ hp') (fun cl => nc ?_), ihl l' m (fun p h => hl p (List.mem_cons_of_mem _ h)) (fun p h => hl' p (List.mem_cons_of_mem _ h)) a2 b2⟩
          refine Clash.mono (Known.Le.refl M) (fun x hx => ?_) cl
          rcases List.mem_append.mp hx with hx | hx
          · exact List.mem_append_left _ (txs_kid hp hx)
          · exact List.mem_append_right _ (txs_kid hp' hx)
    exact go ks ks' r (fun _ h => h) (fun _ h => h) n1 n2
end Seal
/-! SealB: the order of texts, ranges, the walk for a range, and that a slice that shows enough tells the whole's range. -/
namespace Seal

/-! ### the order of texts -/
theorem lt_app_of_lt (x : Tx) : ∀ {a b : Tx}, a < b → ¬ a <+: b → a ++ x < b
  | [], _, _, n => absurd (List.nil_prefix) n
  | _ :: _, [], h, _ => absurd h (List.not_lt_nil _)
  | c :: a, d :: b, h, n => by
    rw [List.cons_append]
    rcases List.cons_lt_cons_iff.mp h with h1 | ⟨e, h1⟩
    · exact List.cons_lt_cons_iff.mpr (.inl h1)
    · exact List.cons_lt_cons_iff.mpr (.inr ⟨e, lt_app_of_lt x h1 fun p => n (List.cons_prefix_cons.mpr ⟨e, p⟩)⟩)
theorem not_lt_of_prefix : ∀ {a b : Tx}, a <+: b → ¬ b < a
  | [], _, _ => List.not_lt_nil _
  | c :: a, [], h => absurd h (by simp)
  | c :: a, d :: b, h => by
    obtain ⟨e, h1⟩ := List.cons_prefix_cons.mp h
    intro z
    rcases List.cons_lt_cons_iff.mp z with z1 | ⟨_, z1⟩
    · rw [e] at z1
      exact Nat.lt_irrefl _ z1
    · exact not_lt_of_prefix h1 z1
theorem lt_of_lt_of_not {a b c : Tx} (h1 : a < b) (h2 : ¬ c < b) : a < c := by
  apply Classical.byContradiction
  intro h3
  by_cases e : c < a
  · exact h2 (List.lt_trans e h1)
  · have : a = c := List.le_antisymm (List.not_lt.mp e) (List.not_lt.mp h3)
    exact h2 (this ▸ h1)
theorem app_lt_app {a b c : Tx} : a ++ b < a ++ c ↔ b < c := by
  induction a with
  | nil => exact Iff.rfl
  | cons d a ih =>
    rw [List.cons_append, List.cons_append, List.cons_lt_cons_iff]
    constructor
    · rintro (h | ⟨_, h⟩)
      · exact absurd h (Nat.lt_irrefl _)
      · exact ih.mp h
    · intro h
      exact .inr ⟨rfl, ih.mpr h⟩
theorem tri {a b : Tx} (h1 : ¬ a < b) (h2 : ¬ b < a) : a = b := List.le_antisymm (List.not_lt.mp h2) (List.not_lt.mp h1)
theorem not_lt_trans {a b c : Tx} (h1 : ¬ b < a) (h2 : ¬ c < b) : ¬ c < a := List.not_lt.mpr (List.le_trans (List.not_lt.mp h1) (List.not_lt.mp h2))

/-! ### ranges -/
structure Bd where
  lo : Tx
  hi : Option Tx
  mo : Option Nat
/-- a key stands from the least to the last -/
def Bd.has (B : Bd) (k : Tx) : Bool := !decide (k < B.lo) && (match B.hi with | none => true | some h => !decide (h < k))
def Bd.first (B : Bd) (w : Tx) : Tx := if w.isPrefixOf B.lo then B.lo else w
/-- a key that goes on by a way may stand there -/
def Bd.could (B : Bd) (w : Tx) : Bool := !decide (B.first w < B.lo) && (match B.hi with | none => true | some h => !decide (h < B.first w))
def Bd.full (B : Bd) (n : Nat) : Bool := match B.mo with | none => false | some m => decide (m ≤ n)
def Bd.cut (B : Bd) {α : Type} (l : List α) : List α := match B.mo with | none => l | some m => l.take m
theorem Bd.could_of {B : Bd} {w k : Tx} (hp : w <+: k) (h : B.has k = true) : B.could w = true := by
  unfold Bd.has at h
  unfold Bd.could Bd.first
  obtain ⟨h1, h2⟩ := Bool.and_eq_true_iff.mp h
  have h1 : ¬ k < B.lo := by simpa using h1
  by_cases c : w.isPrefixOf B.lo = true
  · rw [if_pos c]
    refine Bool.and_eq_true_iff.mpr ⟨by simpa using List.lt_irrefl B.lo, ?_⟩
    cases e : B.hi with
    | none => rfl
    | some z =>
      rw [e] at h2
      have h2 : ¬ z < k := by simpa using h2
      show (!decide (z < B.lo)) = true
      have : ¬ z < B.lo := not_lt_trans h1 h2
      simpa using this
  · rw [if_neg c]
    have np : ¬ w <+: B.lo := fun z => c (List.isPrefixOf_iff_prefix.mpr z)
    refine Bool.and_eq_true_iff.mpr ⟨?_, ?_⟩
    · have : ¬ w < B.lo := fun z => by
        obtain ⟨x, e⟩ := hp
        exact h1 (by rw [← e]; exact lt_app_of_lt x z np)
      simpa using this
    · cases e : B.hi with
      | none => rfl
      | some z =>
        rw [e] at h2
        have h2 : ¬ z < k := by simpa using h2
        show (!decide (z < w)) = true
        have : ¬ z < w := fun q => h2 (lt_of_lt_of_not q (not_lt_of_prefix hp))
        simpa using this
/-- the program's own words for it -/
theorem Bd.could_eq (B : Bd) (w : Tx) : B.could w = (if (match B.hi with | none => false | some h => decide (h < w) || decide (h < B.lo)) = true then false else !decide (w < B.lo) || w.isPrefixOf B.lo) := by
  unfold Bd.could Bd.first
  by_cases c : w.isPrefixOf B.lo = true
  · have hp : w <+: B.lo := List.isPrefixOf_iff_prefix.mp c
    have nw := not_lt_of_prefix hp
    rw [if_pos c, c]
    have e0 : (!decide (B.lo < B.lo)) = true := by simpa using List.lt_irrefl B.lo
    rw [e0, Bool.true_and, Bool.or_true]
    cases e : B.hi with
    | none => rfl
    | some z =>
      show (!decide (z < B.lo)) = if (decide (z < w) || decide (z < B.lo)) = true then false else true
      by_cases h : z < B.lo
      · rw [if_pos (by simp [h])]
        simp [h]
      · have : ¬ z < w := fun q => h (lt_of_lt_of_not q nw)
        rw [if_neg (by simp [h, this])]
        simp [h]
  · rw [if_neg c]
    have c' : w.isPrefixOf B.lo = false := Bool.eq_false_iff.mpr c
    rw [c', Bool.or_false]
    cases e : B.hi with
    | none =>
      show (!decide (w < B.lo) && true) = if false = true then false else !decide (w < B.lo)
      simp
    | some z =>
      show (!decide (w < B.lo) && !decide (z < w)) = if (decide (z < w) || decide (z < B.lo)) = true then false else !decide (w < B.lo)
      by_cases h1 : z < w
      · rw [if_pos (by simp [h1])]
        simp [h1]
      · by_cases h2 : z < B.lo
        · have : w < B.lo := Classical.byContradiction fun q => h1 (lt_of_lt_of_not h2 q)
          rw [if_pos (by simp [h2])]
          simp [this]
        · rw [if_neg (by simp [h1, h2])]
          simp [h1]

/-! ### the walk for a range -/
def Bd.here (B : Bd) (v : Option Tx) (k : Tx) : List (Tx × Tx) := match v with
  | none => []
  | some x => if B.has k = true then [(k, x)] else []
mutual
/-- the way that lacks, or none; what is found, behind what was found -/
def Tr.wk (B : Bd) : Tr → Tx → List (Tx × Tx) → Option Tx × List (Tx × Tx)
  | .stub _, w, f => if (B.full f.length || !B.could w) = true then (none, f) else (some w, f)
  | .node s v ks, w, f => if (B.full f.length || !B.could w) = true then (none, f) else wks B ks (w ++ s) (f ++ B.here v (w ++ s))
def wks (B : Bd) : List (Nat × Tr) → Tx → List (Tx × Tx) → Option Tx × List (Tx × Tx)
  | [], _, f => (none, f)
  | (c, t) :: r, k, f => match t.wk B (k ++ [c]) f with
    | (some w, f') => (some w, f')
    | (none, f') => wks B r k f'
end
def Bd.rows (B : Bd) (l : List (Tx × Tx)) : List (Tx × Tx) := B.cut (l.filter fun p => B.has p.1)

/-! ### keys of a tree go on by its way -/
theorem pairs_prefix : ∀ (t : Tr) (w : Tx), ∀ p ∈ t.pairs w, w <+: p.1 := by
  refine Tr.ind (fun n w p h => ?_) fun s v ks ih w p h => ?_
  · unfold Tr.pairs at h; cases h
  · unfold Tr.pairs at h
    rcases List.mem_append.mp h with h | h
    · cases v with
      | none => cases h
      | some x =>
        rw [List.mem_singleton.mp h]
        exact List.prefix_append _ _
    · have go : ∀ l : List (Nat × Tr), (∀ q ∈ l, q ∈ ks) → p ∈ pairss l (w ++ s) → w <+: p.1 := by
        intro l
        induction l with
        | nil => intro _ h; unfold pairss at h; cases h
        | cons q l ihl =>
          obtain ⟨c, t⟩ := q
          intro hl h
          unfold pairss at h
          rcases List.mem_append.mp h with h | h
          · have := ih (c, t) (hl _ List.mem_cons_self) _ p h
            exact List.IsPrefix.trans ⟨s ++ [c], by rw [List.append_assoc]⟩ this
          · exact ihl (fun q hq => hl q (List.mem_cons_of_mem _ hq)) h
      exact go ks (fun _ h => h) h
theorem filter_none {B : Bd} {w : Tx} {l : List (Tx × Tx)} (hp : ∀ p ∈ l, w <+: p.1) (h : B.could w = false) : l.filter (fun p => B.has p.1) = [] := by
  refine List.filter_eq_nil_iff.mpr fun p hm z => ?_
  have := Bd.could_of (B := B) (hp p hm) z
  rw [h] at this
  cases this
theorem pairss_prefix (l : List (Nat × Tr)) (k : Tx) : ∀ p ∈ pairss l k, k <+: p.1 := by
  induction l with
  | nil => intro p h; unfold pairss at h; cases h
  | cons q l ih =>
    obtain ⟨c, t⟩ := q
    intro p h
    unfold pairss at h
    rcases List.mem_append.mp h with h | h
    · exact List.IsPrefix.trans (List.prefix_append _ _) (pairs_prefix t _ p h)
    · exact ih p h

theorem Bd.cut_le {B : Bd} {α : Type} {f : List α} (h : B.full f.length = true → B.mo = some f.length) : B.cut f = f ∨ True := .inr trivial
/-- what is found stays below the most -/
def Bd.Fits (B : Bd) {α : Type} (f : List α) : Prop := match B.mo with | none => True | some m => f.length ≤ m
theorem cut_full {B : Bd} {α : Type} {f x : List α} (hf : B.Fits f) (h : B.full f.length = true) : B.cut (f ++ x) = f := by
  unfold Bd.Fits at hf
  unfold Bd.full at h
  unfold Bd.cut
  cases e : B.mo with
  | none => rw [e] at h; cases h
  | some m =>
    rw [e] at h hf
    have h : m ≤ f.length := of_decide_eq_true h
    have hm : m = f.length := Nat.le_antisymm h hf
    show (f ++ x).take m = f
    rw [hm, List.take_left]
theorem cut_self {B : Bd} {α : Type} {f : List α} (hf : B.Fits f) : B.cut f = f := by
  unfold Bd.Fits at hf
  unfold Bd.cut
  cases e : B.mo with
  | none => rfl
  | some m =>
    rw [e] at hf
    exact List.take_of_length_le hf
theorem cut_fits (B : Bd) {α : Type} (f : List α) : B.Fits (B.cut f) := by
  unfold Bd.Fits Bd.cut
  cases e : B.mo with
  | none => trivial
  | some m => exact List.length_take_le _ _
theorem cut_app (B : Bd) {α : Type} (f x : List α) : B.cut (B.cut f ++ x) = B.cut (f ++ x) := by
  unfold Bd.cut
  cases e : B.mo with
  | none => rfl
  | some m =>
    show (f.take m ++ x).take m = (f ++ x).take m
    rw [List.take_append, List.take_append, List.take_take, Nat.min_self, List.length_take]
    by_cases h : m ≤ f.length
    · rw [Nat.min_eq_left h, Nat.sub_self, Nat.sub_eq_zero_of_le h]
    · rw [Nat.min_eq_right (by omega)]
theorem cut_one {B : Bd} {α : Type} {f : List α} {x : α} (hf : B.Fits f) (h : B.full f.length = false) : B.cut (f ++ [x]) = f ++ [x] := by
  refine cut_self ?_
  unfold Bd.Fits at hf ⊢
  unfold Bd.full at h
  cases e : B.mo with
  | none => trivial
  | some m =>
    rw [e] at h
    have h : ¬ m ≤ f.length := of_decide_eq_false h
    show (f ++ [x]).length ≤ m
    rw [List.length_append, List.length_singleton]
    omega
/-- THE RANGE: where a slice lacks no way, its walk finds what the whole has -/
theorem wk_slice (B : Bd) : ∀ (P W : Tr) (w : Tx) (f : List (Tx × Tx)), P.SliceOf W → B.Fits f → (P.wk B w f).1 = none → (P.wk B w f).2 = B.cut (f ++ (W.pairs w).filter fun p => B.has p.1) := by
  refine Tr.ind (fun n W w f _ hf h => ?_) fun s v ks ih W w f hs hf h => ?_
  · unfold Tr.wk at h ⊢
    by_cases c : (B.full f.length || !B.could w) = true
    · rw [if_pos c] at h ⊢
      rcases Bool.or_eq_true_iff.mp c with c | c
      · rw [cut_full hf c]
      · rw [filter_none (pairs_prefix W w) (by simpa using c), List.append_nil, cut_self hf]
    · rw [if_neg c] at h
      cases h
  · cases W with
    | stub n => unfold Tr.SliceOf at hs; exact hs.elim
    | node s' v' ks' =>
      unfold Tr.SliceOf at hs
      obtain ⟨e1, e2, e3⟩ := hs
      subst e1 e2
      unfold Tr.wk at h ⊢
      by_cases c : (B.full f.length || !B.could w) = true
      · rw [if_pos c] at h ⊢
        rcases Bool.or_eq_true_iff.mp c with c | c
        · rw [cut_full hf c]
        · rw [filter_none (pairs_prefix _ w) (by simpa using c), List.append_nil, cut_self hf]
      · rw [if_neg c] at h ⊢
        have nf : B.full f.length = false := by
          cases q : B.full f.length with
          | false => rfl
          | true => rw [q] at c; exact absurd rfl c
        have go : ∀ (l l' : List (Nat × Tr)) (f : List (Tx × Tx)), (∀ q ∈ l, q ∈ ks) → slices l l' → B.Fits f → (wks B l (w ++ s) f).1 = none → (wks B l (w ++ s) f).2 = B.cut (f ++ (pairss l' (w ++ s)).filter fun p => B.has p.1) := by
          intro l
          induction l with
          | nil =>
            intro l' f _ hs hf h
            cases l' with
            | nil =>
              unfold wks pairss
              rw [List.filter_nil, List.append_nil, cut_self hf]
            | cons q l' => unfold slices at hs; exact hs.elim
          | cons q l ihl =>
            obtain ⟨c, t⟩ := q
            intro l' f hl hs hf h
            cases l' with
            | nil => unfold slices at hs; exact hs.elim
            | cons q' l' =>
              obtain ⟨c', t'⟩ := q'
              unfold slices at hs
              obtain ⟨e1, e2, e3⟩ := hs
              subst e1
              unfold wks at h ⊢
              unfold pairss
              have ht := ih (c, t) (hl _ List.mem_cons_self) t' (w ++ s ++ [c]) f e2 hf
              cases q : t.wk B (w ++ s ++ [c]) f with
              | mk a f' =>
                have q2 : (t.wk B (w ++ s ++ [c]) f) = (a, f') := q
                rw [q2] at h
                have ht : (t.wk B (w ++ s ++ [c]) f).1 = none → (t.wk B (w ++ s ++ [c]) f).2 = B.cut (f ++ (t'.pairs (w ++ s ++ [c])).filter fun p => B.has p.1) := ht
                rw [q2] at ht
                cases a with
                | some x => cases h
                | none =>
                  have h : (wks B l (w ++ s) f').1 = none := h
                  show (wks B l (w ++ s) f').2 = _
                  have e := ht rfl
                  have e : f' = B.cut (f ++ (t'.pairs (w ++ s ++ [c])).filter fun p => B.has p.1) := e
                  rw [ihl l' f' (fun q hq => hl q (List.mem_cons_of_mem _ hq)) e3 (by rw [e]; exact cut_fits B _) h, e, cut_app, List.append_assoc, List.filter_append]
        have hhere : B.Fits (f ++ B.here v (w ++ s)) := by
          unfold Bd.here
          cases v with
          | none => rw [List.append_nil]; exact hf
          | some x =>
            show B.Fits (f ++ if B.has (w ++ s) = true then [(w ++ s, x)] else [])
            split
            · rw [← cut_one hf nf]; exact cut_fits B _
            · rw [List.append_nil]; exact hf
        rw [go ks ks' _ (fun _ h => h) e3 hhere h]
        unfold Tr.pairs
        rw [List.filter_append, ← List.append_assoc]
        congr 2
        congr 1
        unfold Bd.here
        cases v with
        | none => rfl
        | some x =>
          show (if B.has (w ++ s) = true then [(w ++ s, x)] else []) = [(w ++ s, x)].filter fun p => B.has p.1
          by_cases z : B.has (w ++ s) = true
          · rw [if_pos z, List.filter_cons_of_pos (by exact z), List.filter_nil]
          · rw [if_neg z, List.filter_cons_of_neg (by exact z), List.filter_nil]

/-! ### the whole, which may be nothing -/
def pairsO : Option Tr → List (Tx × Tx)
  | none => []
  | some t => t.pairs []
def numO (M : Known) : Option Tr → Option Nat
  | none => M []
  | some t => t.num M
def txsO (M : Known) : Option Tr → List Tx
  | none => [[]]
  | some t => txs M t
/-- THE LAW's heart: a part under the root of a whole that lacks no way tells the whole's rows, or a clash stands -/
theorem heart {M : Known} {B : Bd} {P : Tr} {W : Option Tr} {k : Nat} (hP : P.num M = some k) (hW : numO M W = some k) (wh : ∀ t, W = some t → t.Whole ∧ t.LowS) (lp : P.LowS) (hl : (P.wk B [] []).1 = none) :
    (P.wk B [] []).2 = B.rows (pairsO W) ∨ Clash M (txs M P ++ txsO M W) := by
  have f0 : B.Fits ([] : List (Tx × Tx)) := by
    unfold Bd.Fits
    cases B.mo with
    | none => trivial
    | some m => exact Nat.zero_le _
  cases W with
  | none =>
    cases P with
    | stub n =>
      left
      unfold Tr.wk at hl ⊢
      split at hl
      · rename_i c
        rw [if_pos c]
        unfold Bd.rows pairsO
        rw [List.filter_nil]
        exact (cut_self f0).symm
      · cases hl
    | node s v ks =>
      right
      obtain ⟨r, n1, m1⟩ := num_node hP
      exact ⟨_, [], k, List.mem_append_left _ (txs_self n1), List.mem_append_right _ (List.mem_singleton.mpr rfl), textTx_ne _ _ _, m1, hW⟩
  | some t =>
    obtain ⟨h1, h2⟩ := wh t rfl
    by_cases c : Clash M (txs M P ++ txs M t)
    · exact .inr c
    · left
      have sl := slice_of P t k hP hW h1 lp h2 c
      rw [wk_slice B P t [] [] sl f0 hl, List.nil_append]
      rfl
end Seal
/-! SealH: the head: what the top leaves, by names, and its run. Printed in part by gen_head.py. -/
namespace Seal
open PySem PySem.Spec PyProof.Rows L2
/-! ### the text by places -/
def top (i : Nat) : Stmt := PySem.Challenge.pw_sealroot_k34_whole_strange_slices.main.body.getD i (.Pass ⟨0, 0, 0, 0⟩)
abbrev s_Unseen_init : Stmt := inClass (top 5) 0
abbrev s_NoRoot_init : Stmt := inClass (top 6) 0
abbrev s_is_key : Stmt := top 13
abbrev s_is_value : Stmt := top 14
abbrev s_is_number : Stmt := top 15
abbrev s_need_key : Stmt := top 16
abbrev s_Node_init : Stmt := inClass (top 19) 0
abbrev s_Node_start : Stmt := inClass (top 19) 5
abbrev s_Node_height : Stmt := inClass (top 19) 6
abbrev s_Node_all_nodes : Stmt := inClass (top 19) 8
abbrev s_Stub_init : Stmt := inClass (top 20) 0
abbrev s_Stub_height : Stmt := inClass (top 20) 5
abbrev s_Stub_all_nodes : Stmt := inClass (top 20) 6
abbrev s_are_kids : Stmt := top 21
abbrev s_is_tree : Stmt := top 22
abbrev s_need_tree : Stmt := top 23
abbrev s_part_of : Stmt := top 24
abbrev s_kid_of : Stmt := top 25
abbrev s_written : Stmt := top 26
abbrev s_text_of : Stmt := top 27
abbrev s_number_of : Stmt := top 28
abbrev s_clash_in : Stmt := top 29
abbrev s_need_ends : Stmt := top 31
abbrev s_may_hold : Stmt := top 32
abbrev s_Between_init : Stmt := inClass (top 33) 0
abbrev s_Between_is_full : Stmt := inClass (top 33) 1
abbrev s_Between_go_into : Stmt := inClass (top 33) 2
abbrev s_range_of : Stmt := top 34
abbrev s_need_root : Stmt := top 35
abbrev s_range_told : Stmt := top 36
abbrev s_seen_texts : Stmt := top 37
abbrev s__law_begun : Stmt := top 39
abbrev s__law_draw : Stmt := top 40
abbrev s__law_key : Stmt := top 41
abbrev s__law_value : Stmt := top 42
abbrev s__law_content : Stmt := top 43
abbrev s__law_told : Stmt := top 44
abbrev s__law_part : Stmt := top 45
abbrev s__law_text : Stmt := top 46
abbrev s__law_number : Stmt := top 47
abbrev s__law_shown : Stmt := top 48
abbrev s__law_digest : Stmt := top 49
abbrev s__law_bound : Stmt := top 50
abbrev s__law_bounds : Stmt := top 51
abbrev s__law_rows : Stmt := top 52
abbrev s__law_could : Stmt := top 53
abbrev s__law_is_clash : Stmt := top 55
abbrev s__law_ways : Stmt := top 56
abbrev s__law_lack : Stmt := top 57
abbrev s__law_changed : Stmt := top 58
abbrev s__law_spoilt : Stmt := top 59
abbrev s__law_made : Stmt := top 60
abbrev s__law_asked : Stmt := top 61
abbrev s__law_right : Stmt := top 62
abbrev s_law : Stmt := top 63
/-! ### each def as a datum -/
def d_Unseen_init : He.DefD := ⟨("Unseen", some "__init__"), "__init__", "Unseen.__init__", defArgs s_Unseen_init, defBody s_Unseen_init, defScope s_Unseen_init, [], []⟩
def d_NoRoot_init : He.DefD := ⟨("NoRoot", some "__init__"), "__init__", "NoRoot.__init__", defArgs s_NoRoot_init, defBody s_NoRoot_init, defScope s_NoRoot_init, [], []⟩
def d_is_key : He.DefD := ⟨("is_key", none), "is_key", "is_key", defArgs s_is_key, defBody s_is_key, defScope s_is_key, [], []⟩
def d_is_value : He.DefD := ⟨("is_value", none), "is_value", "is_value", defArgs s_is_value, defBody s_is_value, defScope s_is_value, [], []⟩
def d_is_number : He.DefD := ⟨("is_number", none), "is_number", "is_number", defArgs s_is_number, defBody s_is_number, defScope s_is_number, [], []⟩
def d_need_key : He.DefD := ⟨("need_key", none), "need_key", "need_key", defArgs s_need_key, defBody s_need_key, defScope s_need_key, [], []⟩
def d_Node_init : He.DefD := ⟨("Node", some "__init__"), "__init__", "Node.__init__", defArgs s_Node_init, defBody s_Node_init, defScope s_Node_init, [], []⟩
def d_Node_start : He.DefD := ⟨("Node", some "start"), "start", "Node.start", defArgs s_Node_start, defBody s_Node_start, defScope s_Node_start, [], []⟩
def d_Node_height : He.DefD := ⟨("Node", some "height"), "height", "Node.height", defArgs s_Node_height, defBody s_Node_height, defScope s_Node_height, [], []⟩
def d_Node_all_nodes : He.DefD := ⟨("Node", some "all_nodes"), "all_nodes", "Node.all_nodes", defArgs s_Node_all_nodes, defBody s_Node_all_nodes, defScope s_Node_all_nodes, [], []⟩
def d_Stub_init : He.DefD := ⟨("Stub", some "__init__"), "__init__", "Stub.__init__", defArgs s_Stub_init, defBody s_Stub_init, defScope s_Stub_init, [], []⟩
def d_Stub_height : He.DefD := ⟨("Stub", some "height"), "height", "Stub.height", defArgs s_Stub_height, defBody s_Stub_height, defScope s_Stub_height, [], []⟩
def d_Stub_all_nodes : He.DefD := ⟨("Stub", some "all_nodes"), "all_nodes", "Stub.all_nodes", defArgs s_Stub_all_nodes, defBody s_Stub_all_nodes, defScope s_Stub_all_nodes, [], []⟩
def d_are_kids : He.DefD := ⟨("are_kids", none), "are_kids", "are_kids", defArgs s_are_kids, defBody s_are_kids, defScope s_are_kids, [], []⟩
def d_is_tree : He.DefD := ⟨("is_tree", none), "is_tree", "is_tree", defArgs s_is_tree, defBody s_is_tree, defScope s_is_tree, [], []⟩
def d_need_tree : He.DefD := ⟨("need_tree", none), "need_tree", "need_tree", defArgs s_need_tree, defBody s_need_tree, defScope s_need_tree, [], []⟩
def d_part_of : He.DefD := ⟨("part_of", none), "part_of", "part_of", defArgs s_part_of, defBody s_part_of, defScope s_part_of, [], []⟩
def d_kid_of : He.DefD := ⟨("kid_of", none), "kid_of", "kid_of", defArgs s_kid_of, defBody s_kid_of, defScope s_kid_of, [], []⟩
def d_written : He.DefD := ⟨("written", none), "written", "written", defArgs s_written, defBody s_written, defScope s_written, [], []⟩
def d_text_of : He.DefD := ⟨("text_of", none), "text_of", "text_of", defArgs s_text_of, defBody s_text_of, defScope s_text_of, [], []⟩
def d_number_of : He.DefD := ⟨("number_of", none), "number_of", "number_of", defArgs s_number_of, defBody s_number_of, defScope s_number_of, [], []⟩
def d_clash_in : He.DefD := ⟨("clash_in", none), "clash_in", "clash_in", defArgs s_clash_in, defBody s_clash_in, defScope s_clash_in, [], []⟩
def d_need_ends : He.DefD := ⟨("need_ends", none), "need_ends", "need_ends", defArgs s_need_ends, defBody s_need_ends, defScope s_need_ends, [], []⟩
def d_may_hold : He.DefD := ⟨("may_hold", none), "may_hold", "may_hold", defArgs s_may_hold, defBody s_may_hold, defScope s_may_hold, [], []⟩
def d_Between_init : He.DefD := ⟨("Between", some "__init__"), "__init__", "Between.__init__", defArgs s_Between_init, defBody s_Between_init, defScope s_Between_init, [], [("most", .non)]⟩
def d_Between_is_full : He.DefD := ⟨("Between", some "is_full"), "is_full", "Between.is_full", defArgs s_Between_is_full, defBody s_Between_is_full, defScope s_Between_is_full, [], []⟩
def d_Between_go_into : He.DefD := ⟨("Between", some "go_into"), "go_into", "Between.go_into", defArgs s_Between_go_into, defBody s_Between_go_into, defScope s_Between_go_into, [], []⟩
def d_range_of : He.DefD := ⟨("range_of", none), "range_of", "range_of", defArgs s_range_of, defBody s_range_of, defScope s_range_of, [], [("low", .str ""), ("high", .non), ("most", .non)]⟩
def d_need_root : He.DefD := ⟨("need_root", none), "need_root", "need_root", defArgs s_need_root, defBody s_need_root, defScope s_need_root, [], []⟩
def d_range_told : He.DefD := ⟨("range_told", none), "range_told", "range_told", defArgs s_range_told, defBody s_range_told, defScope s_range_told, [], [("low", .str ""), ("high", .non), ("most", .non)]⟩
def d_seen_texts : He.DefD := ⟨("seen_texts", none), "seen_texts", "seen_texts", defArgs s_seen_texts, defBody s_seen_texts, defScope s_seen_texts, [], []⟩
def d__law_begun : He.DefD := ⟨("_law_begun", none), "_law_begun", "_law_begun", defArgs s__law_begun, defBody s__law_begun, defScope s__law_begun, [], []⟩
def d__law_draw : He.DefD := ⟨("_law_draw", none), "_law_draw", "_law_draw", defArgs s__law_draw, defBody s__law_draw, defScope s__law_draw, [], []⟩
def d__law_key : He.DefD := ⟨("_law_key", none), "_law_key", "_law_key", defArgs s__law_key, defBody s__law_key, defScope s__law_key, [], []⟩
def d__law_value : He.DefD := ⟨("_law_value", none), "_law_value", "_law_value", defArgs s__law_value, defBody s__law_value, defScope s__law_value, [], []⟩
def d__law_content : He.DefD := ⟨("_law_content", none), "_law_content", "_law_content", defArgs s__law_content, defBody s__law_content, defScope s__law_content, [], []⟩
def d__law_told : He.DefD := ⟨("_law_told", none), "_law_told", "_law_told", defArgs s__law_told, defBody s__law_told, defScope s__law_told, [], []⟩
def d__law_part : He.DefD := ⟨("_law_part", none), "_law_part", "_law_part", defArgs s__law_part, defBody s__law_part, defScope s__law_part, [], []⟩
def d__law_text : He.DefD := ⟨("_law_text", none), "_law_text", "_law_text", defArgs s__law_text, defBody s__law_text, defScope s__law_text, [], []⟩
def d__law_number : He.DefD := ⟨("_law_number", none), "_law_number", "_law_number", defArgs s__law_number, defBody s__law_number, defScope s__law_number, [], []⟩
def d__law_shown : He.DefD := ⟨("_law_shown", none), "_law_shown", "_law_shown", defArgs s__law_shown, defBody s__law_shown, defScope s__law_shown, [], []⟩
def d__law_digest : He.DefD := ⟨("_law_digest", none), "_law_digest", "_law_digest", defArgs s__law_digest, defBody s__law_digest, defScope s__law_digest, [], []⟩
def d__law_bound : He.DefD := ⟨("_law_bound", none), "_law_bound", "_law_bound", defArgs s__law_bound, defBody s__law_bound, defScope s__law_bound, [], []⟩
def d__law_bounds : He.DefD := ⟨("_law_bounds", none), "_law_bounds", "_law_bounds", defArgs s__law_bounds, defBody s__law_bounds, defScope s__law_bounds, [], []⟩
def d__law_rows : He.DefD := ⟨("_law_rows", none), "_law_rows", "_law_rows", defArgs s__law_rows, defBody s__law_rows, defScope s__law_rows, [], []⟩
def d__law_could : He.DefD := ⟨("_law_could", none), "_law_could", "_law_could", defArgs s__law_could, defBody s__law_could, defScope s__law_could, [], []⟩
def d__law_is_clash : He.DefD := ⟨("_law_is_clash", none), "_law_is_clash", "_law_is_clash", defArgs s__law_is_clash, defBody s__law_is_clash, defScope s__law_is_clash, [], []⟩
def d__law_ways : He.DefD := ⟨("_law_ways", none), "_law_ways", "_law_ways", defArgs s__law_ways, defBody s__law_ways, defScope s__law_ways, [], []⟩
def d__law_lack : He.DefD := ⟨("_law_lack", none), "_law_lack", "_law_lack", defArgs s__law_lack, defBody s__law_lack, defScope s__law_lack, [], []⟩
def d__law_changed : He.DefD := ⟨("_law_changed", none), "_law_changed", "_law_changed", defArgs s__law_changed, defBody s__law_changed, defScope s__law_changed, [], []⟩
def d__law_spoilt : He.DefD := ⟨("_law_spoilt", none), "_law_spoilt", "_law_spoilt", defArgs s__law_spoilt, defBody s__law_spoilt, defScope s__law_spoilt, [], []⟩
def d__law_made : He.DefD := ⟨("_law_made", none), "_law_made", "_law_made", defArgs s__law_made, defBody s__law_made, defScope s__law_made, [], []⟩
def d__law_asked : He.DefD := ⟨("_law_asked", none), "_law_asked", "_law_asked", defArgs s__law_asked, defBody s__law_asked, defScope s__law_asked, [], []⟩
def d__law_right : He.DefD := ⟨("_law_right", none), "_law_right", "_law_right", defArgs s__law_right, defBody s__law_right, defScope s__law_right, [], []⟩
def d_law : He.DefD := ⟨("law", none), "law", "law", defArgs s_law, defBody s_law, defScope s_law, [], []⟩
def fn : List He.DefD := [d_Unseen_init, d_NoRoot_init, d_is_key, d_is_value, d_is_number, d_need_key, d_Node_init, d_Node_start, d_Node_height, d_Node_all_nodes, d_Stub_init, d_Stub_height, d_Stub_all_nodes, d_are_kids, d_is_tree, d_need_tree, d_part_of, d_kid_of, d_written, d_text_of, d_number_of, d_clash_in, d_need_ends, d_may_hold, d_Between_init, d_Between_is_full, d_Between_go_into, d_range_of, d_need_root, d_range_told, d_seen_texts, d__law_begun, d__law_draw, d__law_key, d__law_value, d__law_content, d__law_told, d__law_part, d__law_text, d__law_number, d__law_shown, d__law_digest, d__law_bound, d__law_bounds, d__law_rows, d__law_could, d__law_is_clash, d__law_ways, d__law_lack, d__law_changed, d__law_spoilt, d__law_made, d__law_asked, d__law_right, d_law]
def loose1 : List PySem.Str := ["_wall", "SealError", "BadKey", "BadNode", "Unseen", "NoRoot", "LETTERS", "MOST_LETTERS", "MOST_SIGNS", "MOST_NUMBER", "FIRST", "is_key", "is_value", "is_number", "need_key", "Part", "Node", "Stub", "are_kids", "is_tree", "need_tree", "part_of", "kid_of", "written", "text_of", "number_of", "clash_in", "need_ends", "may_hold", "Between"]
def loose2 : List PySem.Str := ["range_of", "need_root", "range_told", "seen_texts", "_law_begun", "_law_draw", "_law_key", "_law_value", "_law_content", "_law_told", "_law_part", "_law_text", "_law_number", "_law_shown", "_law_digest", "_law_bound", "_law_bounds", "_law_rows", "_law_could", "_law_texts", "_law_is_clash", "_law_ways", "_law_lack", "_law_changed", "_law_spoilt", "_law_made", "_law_asked", "_law_right"]
def loose : List PySem.Str := loose1 ++ loose2
/-! ### facts -/
def fa0 : List He.Fa := [.glo "is_key", .glo "is_value", .glo "is_number", .glo "need_key", .glo "are_kids", .glo "is_tree", .glo "need_tree", .glo "part_of", .glo "kid_of", .glo "written", .glo "text_of", .glo "number_of", .glo "clash_in", .glo "need_ends", .glo "may_hold", .glo "range_of", .glo "need_root", .glo "range_told", .glo "seen_texts", .glo "_law_begun", .glo "_law_draw", .glo "_law_key", .glo "_law_value", .glo "_law_content", .glo "_law_told", .glo "_law_part", .glo "_law_text", .glo "_law_number", .glo "_law_shown", .glo "_law_digest"]
def fa1 : List He.Fa := [.glo "_law_bound", .glo "_law_bounds", .glo "_law_rows", .glo "_law_could", .glo "_law_is_clash", .glo "_law_ways", .glo "_law_lack", .glo "_law_changed", .glo "_law_spoilt", .glo "_law_made", .glo "_law_asked", .glo "_law_right", .glo "law", .glo "BadNode", .glo "Unseen", .glo "NoRoot", .glo "Part", .glo "Node", .glo "Stub", .glo "Between", .free "isinstance", .free "len", .free "all", .free "str", .free "int", .free "bool", .free "list", .free "tuple", .free "set", .free "sorted"]
def fa2 : List He.Fa := [.free "min", .free "max", .free "sum", .free "abs", .free "range", .free "enumerate", .free "ord", .str "LETTERS" "abcdefghijklmnopqrstuvwxyz", .int "MOST_LETTERS" 8, .int "MOST_SIGNS" 40, .int "MOST_NUMBER" 1000000000000000000000000000000, .str "FIRST" "", .cls "Node", .cls "Stub", .cls "Between", .noat "Node" "stem", .noat "Node" "value", .noat "Node" "kids", .noat "Stub" "number", .noat "Between" "low", .noat "Between" "high", .noat "Between" "most", .noat "Between" "found", .noat "Between" "ways", .meth "Node" "start", .meth "Node" "height", .meth "Node" "all_nodes", .meth "Stub" "height", .meth "Stub" "all_nodes", .meth "Between" "is_full"]
def fa3 : List He.Fa := [.meth "Between" "go_into", .mkr "Node", .mkr "Stub", .mkr "Between", .exc "BadNode", .exm "BadNode" "BadNode" true, .exm "NoRoot" "NoRoot" true, .exm "Unseen" "NoRoot" false, .exm "Unseen" "Unseen" true]
def fa : List He.Fa := fa0 ++ fa1 ++ fa2 ++ fa3

/-! ### further facts -/
/-- an own error with an __init__ of its own -/
def oexB (K : PySem.W.Frag) (x : Str) : Bool := (match K.lookup (He.ga K x) with
  | some ⟨.type c, _, .cls cd, sl⟩ => (match cd.mro, sl.toList with
    | .ref C' :: bm, [_, _, _, _, some (.builtin n), _] => decide (c = "type") && (C' == He.ga K x && (n == "ValueError.__new__" && (!cd.hasDel && (cd.hasDict && PySem.HandSPX.refsVE bm))))
    | _, _ => false)
  | _ => false) && (He.eqO (PySem.W.findIn K (.ref (He.ga K x)) "__setattr__") (some (some (.builtin "object.__setattr__"))) && (decide (PySem.W.subIn K (.ref (He.ga K x)) (.type "BaseException") = some true) &&
    (decide (PySem.W.typeIn K (.ref (He.ga K x)) = some (.type "type")) && PySem.W.keepIn K (.ref (He.ga K x)))))
/-- .. its __init__, its field -/
def oexI (K : PySem.W.Frag) (x f : Str) : Bool := He.eqO (PySem.W.findIn K (.ref (He.ga K x)) "__init__") (some (some (.ref (He.ma K (He.ga K x) "__init__")))) && (decide (PySem.W.typeIn K (.ref (He.ma K (He.ga K x) "__init__")) = some (.type "function")) &&
  (He.eqO (PySem.W.findIn K (.ref (He.ga K x)) f) (some none) && xfB K (He.ga K x)))
/-- what isinstance asks of an own class -/
def insB (K : PySem.W.Frag) (x : Str) : Bool := He.eqO (PySem.W.findIn K (.ref (He.ga K x)) "__class__") (some (some (.builtin "object.__class__"))) && (decide (PySem.W.mroIn K (He.ga K x) (.type "object") = some true))
def kitB2 (K : PySem.W.Frag) (x y : Str) (b : Bool) : Bool := decide (PySem.W.kitOne K (.ref (He.ga K x)) (.ref (He.ga K y)) = some b)
def exB (K : PySem.W.Frag) : Bool := oexB K "Unseen" && (oexB K "NoRoot" && (oexI K "Unseen" "way" && (oexI K "NoRoot" "number" && (insB K "Node" && (insB K "Stub" &&
  (decide (PySem.W.specialIn K (.builtin "object.__class__") "__get__" = some (some (.builtin "getset_descriptor.__get__"))) && (decide (PySem.W.takesIn K (.builtin "object.__class__") = some true) &&
  (kitB2 K "Node" "Stub" false && (kitB2 K "Stub" "Stub" true && (kitB2 K "Node" "Part" true && kitB2 K "Stub" "Part" true))))))))))
def tf : List He.Defn := [("_law_digest", none)]
/-! ### the run -/
abbrev R : PySem.W.OpenRow := PySem.W.OpenLaw.row PySem.Challenge.rw_sealroot_k34_whole_strange_slices
abbrev qv : Program := PySem.W.view R.prog [63]
abbrev hk : PySem.W.Hook := He.hookX 4 fa fn [] tf exB
def ob (s : PySem.W.SharedT) : He.AlX := He.obsX 4 fa fn [] tf exB (HandSHeadRun.getT s)
theorem ob_eq (s : PySem.W.SharedT) : ob s = hk.obs s.abs := He.obsX_eq (HandSHeadRun.getT_eq s)
/-- the run's equation in three, so that no one declaration holds all that the kernel keeps: what the top's end looks like, what is seen there, what is told of it -/
theorem map3 {A B C D : Type} {X : Option A} {f : A → B} {g : A → C} {h : A → D} {x : B} {y : C} {z : D} (a : X.map f = some x) (b : X.map g = some y) (c : X.map h = some z) : X.map (fun s => (f s, g s, h s)) = some (x, y, z) := by
  cases X with
  | none => cases a
  | some s =>
    cases a
    cases b
    cases c
    rfl
section
open PySem.W PySem.Calls HandSHeadRun
theorem run_looks (w : World) (os : OsState) : (endF (stepQ (denQ tabQ) R.prog w) 6000 R.prog w os).map (fun s => looksF R.prog (boot_heap w.params) s.abs) = some true := by
  kernel_rfl
theorem run_seen (w : World) (os : OsState) : (endF (stepQ (denQ tabQ) R.prog w) 6000 R.prog w os).map (fun s => seenQ qv loose (importedModules R.prog.main.body) (fun s => xlAt qv [] s && recOk R.toRowW.records s) s.abs) = some (openGood qv loose) := by
  kernel_rfl
theorem run_told (w : World) (os : OsState) : (endF (stepQ (denQ tabQ) R.prog w) 6000 R.prog w os).map ob = some (hk.val w) := by
  kernel_rfl
end
theorem run (w : World) : HandSHeadRun.RunEq R qv hk ob 6000 loose w := by
  intro os
  exact map3 (run_looks w os) (run_seen w os) (run_told w os)
end Seal
/-! SealR1: rules that the hand layer lacks: min and max of a dict with text keys, max(.., default=d) of a list of ints. -/
namespace SealR
open PySem PySem.Spec PyProof.Rows L2

/-! ### the least of a row, by its places -/
theorem best_lt {α : Type} (lt : α → α → Bool) (key : Nat → α) (irr : ∀ a, lt a a = false) (tr : ∀ a b c, lt a b = true → lt c a = false → lt c b = true ∨ True)
    (nt : ∀ a b c, lt b a = false → lt c b = false → lt c a = false) (as : ∀ a b, lt a b = true → lt b a = false) :
    ∀ k, argBest (fun i j => lt (key i) (key j)) k ≤ k ∧ ∀ j, j ≤ k → lt (key j) (key (argBest (fun i j => lt (key i) (key j)) k)) = false
  | 0 => ⟨Nat.le_refl _, fun j hj => by
      have e : j = 0 := Nat.le_zero.mp hj
      subst e
      exact irr _⟩
  | k + 1 => by
    obtain ⟨h1, h2⟩ := best_lt lt key irr tr nt as k
    by_cases c : lt (key (k + 1)) (key (argBest (fun i j => lt (key i) (key j)) k)) = true
    · have e : argBest (fun i j => lt (key i) (key j)) (k + 1) = k + 1 := if_pos c
      rw [e]
      refine ⟨Nat.le_refl _, fun j hj => ?_⟩
      by_cases hk : j = k + 1
      · subst hk
        exact irr _
      · exact nt (key (k + 1)) (key (argBest (fun i j => lt (key i) (key j)) k)) (key j) (as _ _ c) (h2 j (by omega))
    · have e : argBest (fun i j => lt (key i) (key j)) (k + 1) = argBest (fun i j => lt (key i) (key j)) k := if_neg c
      rw [e]
      refine ⟨Nat.le_succ_of_le h1, fun j hj => ?_⟩
      by_cases hk : j = k + 1
      · subst hk
        exact Bool.eq_false_iff.mpr c
      · exact h2 j (by omega)

/-- texts, by their signs -/
def sLt (x y : Str) : Bool := decide (x.cps.toList < y.cps.toList)
theorem sLt_irr (x : Str) : sLt x x = false := decide_eq_false (List.lt_irrefl _)
theorem sLt_as (x y : Str) (h : sLt x y = true) : sLt y x = false := decide_eq_false fun z => List.lt_irrefl _ (List.lt_trans (of_decide_eq_true h) z)
theorem sLt_nt (x y z : Str) (h1 : sLt y x = false) (h2 : sLt z y = false) : sLt z x = false :=
  decide_eq_false (List.not_lt.mpr (List.le_trans (List.not_lt.mp (of_decide_eq_false h1)) (List.not_lt.mp (of_decide_eq_false h2))))

section
variable {X : Cx}
/-- what the least (greatest) key of a dict of texts is asked for -/
def rBestD (gt : Bool) : List V → Hp → VK → Prop := fun xs H Q => ∃ (a : Addr) (kvs : List (Key × V)) (ks : List Str), xs = [.ref a] ∧ Rd H a (.dK kvs) ∧ kvs.map (·.1) = ks.map Sum.inr ∧ 0 < ks.length ∧
  ∀ m, m ∈ ks → (∀ y, y ∈ ks → (if gt = true then sLt m y else sLt y m) = false) → Q (.str m) H
/-- the state behind a walk over a dict -/
theorem walked_kept {pins : List (Addr × Obj)} {σ : L2.St} {H : Hp} {s s2 s' : Shared} {o : Obj} (I : Inv X pins σ H s) (e : s2 = { s with heap := s.heap.push o }) (m : Moved [s.heap.objs.size] (fun a b => b = a) s2 s') : Inv X pins σ H s' := by
  obtain ⟨h', tk, rfl, hk⟩ := PySem.W.moved_old e rfl m
  exact I.kept hk
theorem key_val {vs : List (Key × Value)} {ks : List Str} (hkeys : vs.map (·.1) = ks.map Sum.inr) {P : Program} {w : World} {i : Nat} {v : Value} (h : ∃ k x, vs[i]? = some (k, x) ∧ (mixKind P w).is k v = true) :
    ∃ t, i < ks.length ∧ v = Value.str (ks.getD i Str.empty) t := by
  obtain ⟨k, x, e1, e2⟩ := h
  have e3 : (vs.map (·.1))[i]? = some k := by rw [List.getElem?_map, e1] <;> rfl
  rw [hkeys, List.getElem?_map] at e3
  cases e4 : ks[i]? with
  | none => rw [e4] at e3; cases e3
  | some y =>
    rw [e4] at e3
    have e5 : Sum.inr y = k := Option.some.inj e3
    subst e5
    obtain ⟨t, ev⟩ := Value.isStrOf_shape (x := y) (v := v) e2
    refine ⟨t, (List.getElem?_eq_some_iff.mp e4).1, ?_⟩
    rw [List.getD_eq_getElem?_getD, e4]
    exact ev
theorem cr_minD (hc : X.calm = true) : CallR X (.builtin "min") (rBestD false) := by
  intro pins s σ H xs us Q I r q
  obtain ⟨a, kvs, ks, rfl, hd, hks, hne, q⟩ := q
  rw [Vals.ref1 r]
  obtain ⟨z, lo, vs, rel, dd⟩ := dk_rd I.hok hd
  obtain ⟨ep, hat⟩ := dd.dictAt
  have hkeys : vs.map (·.1) = ks.map Sum.inr := rel.keys.symm.trans hks
  have hl : vs.length = ks.length := by
    have e := congrArg List.length hkeys
    rwa [List.length_map, List.length_map] at e
  have hda := hat
  obtain ⟨o, es, ho, hx, hdt, _, hen, _⟩ := hat
  have hlt : a < s.heap.objs.size := Heap.lt_size ho
  have hsz : es.size = vs.length := by
    have l1 := hen.length
    rwa [Array.length_toList] at l1
  refine PySem.call_min_walkH (iter_keys lo ho hx hdt ?_)
  have W := (Walks.dictKeys (prog := X.prog) (w := X.w) (knd := mixKind X.prog X.w) (A := X.A.in1) (I.ok.hd hc) s.heap.objs.size a (Nat.ne_of_lt hlt) vs ep).toS
  refine ⟨_, _, _, _, _, _, _, s.heap, (fun i j => sLt (ks.getD i Str.empty) (ks.getD j Str.empty)), rfl, W, ⟨⟨_, Heap.get?_push_size _ rfl, rfl, ?_⟩, hda.push _⟩, fun b hb => ?_, by omega, fun b o e hb => ?_, fun b o e => Heap.get?_push_of_some _ e, ?_, fun v s' hP m => ?_⟩
  · rw [← hsz] <;> rfl
  · show b < (s.heap.push _).objs.size
    rw [Heap.size_push]
    rcases List.mem_cons.mp hb with rfl | hb
    · exact Nat.lt_succ_self _
    · rw [List.mem_singleton.mp hb]
      exact Nat.lt_succ_of_lt hlt
  · rw [List.mem_singleton.mp hb] at e
    exact Nat.lt_irrefl _ (Heap.lt_size e)
  · intro i j vi vj s' Q' E' _ hi hj hq
    obtain ⟨t, _, rfl⟩ := key_val hkeys hi
    obtain ⟨t', _, rfl⟩ := key_val hkeys hj
    exact PySem.P.lt_str hq
  · have I' := walked_kept I rfl m
    obtain ⟨t, hi, rfl⟩ := key_val hkeys hP
    obtain ⟨b1, b2⟩ := best_lt sLt (fun i => ks.getD i Str.empty) sLt_irr (fun _ _ _ _ _ => .inr trivial) sLt_nt sLt_as (vs.length - 1)
    refine ⟨.str _, H, I', ⟨t, rfl⟩, q _ ?_ fun y hy => ?_⟩
    · rw [List.getD_eq_getElem?_getD, List.getElem?_eq_getElem hi]
      exact List.getElem_mem hi
    · obtain ⟨j, hj, e⟩ := List.mem_iff_getElem.mp hy
      have z := b2 j (by omega)
      rw [show ks.getD j Str.empty = y by rw [List.getD_eq_getElem?_getD, List.getElem?_eq_getElem hj, ← e] <;> rfl] at z
      exact z
theorem cr_maxD (hc : X.calm = true) : CallR X (.builtin "max") (rBestD true) := by
  intro pins s σ H xs us Q I r q
  obtain ⟨a, kvs, ks, rfl, hd, hks, hne, q⟩ := q
  rw [Vals.ref1 r]
  obtain ⟨z, lo, vs, rel, dd⟩ := dk_rd I.hok hd
  obtain ⟨ep, hat⟩ := dd.dictAt
  have hkeys : vs.map (·.1) = ks.map Sum.inr := rel.keys.symm.trans hks
  have hl : vs.length = ks.length := by
    have e := congrArg List.length hkeys
    rwa [List.length_map, List.length_map] at e
  have hda := hat
  obtain ⟨o, es, ho, hx, hdt, _, hen, _⟩ := hat
  have hlt : a < s.heap.objs.size := Heap.lt_size ho
  have hsz : es.size = vs.length := by
    have l1 := hen.length
    rwa [Array.length_toList] at l1
  refine PySem.call_max_walkH (iter_keys lo ho hx hdt ?_)
  have W := (Walks.dictKeys (prog := X.prog) (w := X.w) (knd := mixKind X.prog X.w) (A := X.A.in1) (I.ok.hd hc) s.heap.objs.size a (Nat.ne_of_lt hlt) vs ep).toS
  refine ⟨_, _, _, _, _, _, _, s.heap, (fun i j => sLt (ks.getD j Str.empty) (ks.getD i Str.empty)), rfl, W, ⟨⟨_, Heap.get?_push_size _ rfl, rfl, ?_⟩, hda.push _⟩, fun b hb => ?_, by omega, fun b o e hb => ?_, fun b o e => Heap.get?_push_of_some _ e, ?_, fun v s' hP m => ?_⟩
  · rw [← hsz] <;> rfl
  · show b < (s.heap.push _).objs.size
    rw [Heap.size_push]
    rcases List.mem_cons.mp hb with rfl | hb
    · exact Nat.lt_succ_self _
    · rw [List.mem_singleton.mp hb]
      exact Nat.lt_succ_of_lt hlt
  · rw [List.mem_singleton.mp hb] at e
    exact Nat.lt_irrefl _ (Heap.lt_size e)
  · intro i j vi vj s' Q' E' _ hi hj hq
    obtain ⟨t, _, rfl⟩ := key_val hkeys hi
    obtain ⟨t', _, rfl⟩ := key_val hkeys hj
    exact PySem.P.gt_str hq
  · have I' := walked_kept I rfl m
    obtain ⟨t, hi, rfl⟩ := key_val hkeys hP
    obtain ⟨b1, b2⟩ := best_lt (fun x y => sLt y x) (fun i => ks.getD i Str.empty) sLt_irr (fun _ _ _ _ _ => .inr trivial) (fun a b c h1 h2 => sLt_nt c b a h2 h1) (fun a b h => sLt_as b a h) (vs.length - 1)
    refine ⟨.str _, H, I', ⟨t, rfl⟩, q _ ?_ fun y hy => ?_⟩
    · rw [List.getD_eq_getElem?_getD, List.getElem?_eq_getElem hi]
      exact List.getElem_mem hi
    · obtain ⟨j, hj, e⟩ := List.mem_iff_getElem.mp hy
      have z := b2 j (by omega)
      rw [show ks.getD j Str.empty = y by rw [List.getD_eq_getElem?_getD, List.getElem?_eq_getElem hj, ← e] <;> rfl] at z
      exact z
end
end SealR
/-! SealR2: rules that the hand layer lacks: enumerate of a text, a dict against the empty one, max(.., default=d) of a list of ints, either of two readings. -/
namespace SealR
open PySem PySem.Spec PyProof.Rows L2

/-! ### either of two readings -/
theorem pe_or {X : Cx} {e : Expr} {t u : TE} (h1 : PE X e t) (h2 : PE X e u) : PE X e (fun σ H Q => t σ H Q ∨ u σ H Q) :=
  ⟨fun pins s σ H Q I h => h.elim (fun z => h1.run pins s σ H Q I z) fun z => h2.run pins s σ H Q I z⟩

/-! ### enumerate(text) -/
/-- the signs of x, each in a new pair behind its place -/
def ItE (x : Str) : It :=
  ⟨fun i _ => i < x.cps.size, fun i H v H' => ∃ T c, v = .ref T ∧ H T = none ∧ H' = upd H T (.tup [.int (i : Nat), .str ⟨#[c]⟩]) ∧ x.cps[i]? = some c, fun i _ => i = x.cps.size⟩
theorem turn_enumS {P : Program} {w : World} {K : PySem.W.Frag} {elts : List Expr} {kk : Nat} {tpos : Pos} (x : Str) (t : Tok) (e it : Addr) :
    Turn P w K (.Tuple elts kk tpos) (ItE x) [e, it] e (fun i h => (∃ old, IsEnum h e it ((i : Nat) : Int) old) ∧ h.IsStrIter it (strIterType x) x t i ∧ e ≠ it) where
  mem := List.mem_cons_self
  obj := fun i h st b hb => by
    obtain ⟨⟨old, he⟩, ⟨o, ho, hc, hd⟩, _⟩ := st
    have hb2 : b = e ∨ b = it := by simpa using hb
    rcases hb2 with z | z
    · subst z
      exact ⟨_, he, fun v q => nomatch q⟩
    · subst z
      exact ⟨o, ho, fun v q => by rw [hd] at q; cases q⟩
  keep := fun i h h' st k => by
    obtain ⟨⟨old, he⟩, ⟨o, ho, r⟩, hne⟩ := st
    exact ⟨⟨old, k e (by simp) _ he⟩, ⟨o, k it (by simp) o ho, r⟩, hne⟩
  item := by
    intro X hP hw hK hc i pins s σ H E I hf st hg
    subst hP hw hK
    obtain ⟨⟨old, he⟩, hit, hne⟩ := st
    have hel : e < s.heap.objs.size := Heap.lt_size he
    have hil : it < s.heap.objs.size := by
      obtain ⟨_, q, _⟩ := id hit
      exact Heap.lt_size q
    have D : Draws X.prog X.w X.A.in1 it [it] x.cps.size (fun i v => ∃ c u, x.cps[i]? = some c ∧ v = .str ⟨#[c]⟩ u) (fun i h => h.IsStrIter it (strIterType x) x t i) := Draws.text (A := X.A.in1) (I.ok.hd hc) it x t
    refine wpAny_pyNext_enum_itemD D he hit hg hne (fun z => hne (List.mem_singleton.mp z)) fun y h' tk hy ho hit' hT hsz hk => ?_
    obtain ⟨c, u, hcx, rfl⟩ := hy
    refine ⟨_, rfl, wpAny_letOwnedTupleGo_enum (s := { s with heap := h', toks := tk + 1 }) ho fun h'' he' sb => ?_⟩
    have tup2 : h''.get? s.heap.objs.size = some { cls := .type "tuple", data := .seq #[.int i tk, .str ⟨#[c]⟩ u] } := (sb.2 _ (Nat.ne_of_gt hel)).trans hT
    have new : ObjOk X.prog X.w (upd H s.heap.objs.size (.tup [.int (i : Nat), .str ⟨#[c]⟩])) h'' s.heap.objs.size (.tup [.int (i : Nat), .str ⟨#[c]⟩]) :=
      ⟨by show 2 ≤ sizeLine; decide, [.int i tk, .str ⟨#[c]⟩ u], .cons ⟨_, rfl⟩ (.cons ⟨_, rfl⟩ .nil), ⟨_, tup2, rfl, _, rfl⟩⟩
    have stays : ∀ b ob, b ∉ [e, it] → s.heap.get? b = some ob → h''.get? b = some ob := fun b ob hb q =>
      (sb.2 b (fun z => hb (by simp [z]))).trans (hk b ob (fun z => hb (by simp [z])) (fun z => hb (by simp [z])) q)
    have I1 := I.turnedNew (t' := tk + 1) (ch := [e, it]) stays hf (Nat.le_refl _) new
    refine ⟨.ref s.heap.objs.size, _, I1, rfl, ⟨_, c, rfl, I.hok.fresh (Nat.le_refl _), rfl, hcx⟩, ⟨⟨.str ⟨#[c]⟩ u, ?_⟩, ?_, hne⟩, fun b hb => ?_⟩
    · have cast : ((i + 1 : Nat) : Int) = (i : Int) + 1 := by omega
      rw [cast]
      exact he'
    · obtain ⟨o, q, r⟩ := hit'
      exact ⟨o, (sb.2 it (Ne.symm hne)).trans q, r⟩
    · have hb' : b < s.heap.objs.size := by
        have hb2 : b = e ∨ b = it := by simpa using hb
        rcases hb2 with z | z <;> (rw [z]; assumption)
      rw [upd_ne (Nat.ne_of_lt hb')]
      exact (hf b hb).1
  done := by
    intro X hP hw hK hc i pins s σ H E I hf st hg
    subst hP hw hK
    obtain ⟨⟨old, he⟩, hit, hne⟩ := st
    obtain ⟨f0, f1, f2, f3, f4, f5⟩ := hf it (by simp)
    have hg' : i = x.cps.size := hg
    have D : Draws X.prog X.w X.A.in1 it [it] x.cps.size (fun i v => ∃ c u, x.cps[i]? = some c ∧ v = .str ⟨#[c]⟩ u) (fun i h => h.IsStrIter it (strIterType x) x t i) := Draws.text (A := X.A.in1) (I.ok.hd hc) it x t
    exact wpAny_pyNext_enum_endD D he (by rw [← hg']; exact hit) fun h' eb => ⟨rfl, I.turned (t' := s.toks) (fun b o hb q => eb b o hb q) f0 f1 f3 f4 f5⟩
  self := fun A i s Q E st h => by
    obtain ⟨⟨old, he⟩, _⟩ := st
    exact wpAny_pyIter_enum he h
def iEnumS (ta : TA) : TI := fun σ H R => ta σ H fun vs H1 => ∃ x, vs = [.str x] ∧ R (ItE x) H1
theorem pi_enumS {X : Cx} {e : Expr} {ta : TA} {p pos tpos : Pos} {elts : List Expr} {kk : Nat} (hg : Gl X "enumerate") (hm : X.mg "enumerate" = none) (ha : PA X [e] ta) (hs : starEach [e] X.env = [(false, eval e X.env)] := by rfl) :
    PI X (.Tuple elts kk tpos) (.Call (.Name "enumerate" p) [e] [] pos) (iEnumS ta) := by
  refine ⟨fun pins s σ H R I h => ?_⟩
  refine Call_ (ld_blt I hg hm boot_enumerate (PyProof.Rows.callWith_type1 (thn (ha.run pos pins s σ H _ I h) fun us s1 hq => ?_) hs rfl))
  obtain ⟨vs, H1, I1, r1, x, ex, q⟩ := hq
  subst ex
  obtain ⟨u, rfl, t, rfl⟩ := vals1 r1
  refine call_enumerate_str fun h' he hit hsz hk => wpAny_pyIter_enum he ?_
  have I2 : Inv X pins σ H1 { s1 with heap := h' } := I1.kept (t' := s1.toks) hk
  refine ⟨_, [_, s1.heap.objs.size], _, _, H1, rfl, I2, turn_enumS x t (s1.heap.objs.size + 1) s1.heap.objs.size, ⟨⟨.none, he⟩, hit, Nat.succ_ne_self _⟩, fun b hb => ?_, q⟩
  have hle : s1.heap.objs.size ≤ b := by
    have hb2 : b = s1.heap.objs.size + 1 ∨ b = s1.heap.objs.size := by simpa using hb
    rcases hb2 with z | z
    · rw [z]
      exact Nat.le_add_right _ _
    · rw [z]
      exact Nat.le_refl _
  exact I1.fpOk hle (I1.hok.fresh hle)
/-- a comprehension over enumerate(text) -/
theorem lc_enumS {x : Str} {g : TG} {tt : TT} {te : TE} {vs : List Nat} {σ : L2.St} {H1 : Hp} {D : Addr} {Qd : Hp → Prop} (Pv : Nat → Hp → Prop) (h0 : Pv 0 (upd H1 D (.lst [])))
    (hs : ∀ i c T H, x.cps[i]? = some c → Pv i H → H T = none → g (.ref T) (wipe σ vs) (upd H T (.tup [.int (i : Nat), .str ⟨#[c]⟩])) fun σ2 H2 => wipe σ2 vs = wipe σ vs ∧ tt σ2 H2 fun b H3 =>
      if b = true then te σ2 H3 fun y H4 => ∃ acc, H4 D = some (.lst acc) ∧ acc.length < sizeLine ∧ Pv (i + 1) (upd H4 D (.lst (acc ++ [y]))) else Pv (i + 1) H3) (hd : ∀ H, Pv x.cps.size H → Qd H) :
    ∃ W : Nat → Nat → Hp → Prop, (∃ m, W 0 m (upd H1 D (.lst []))) ∧ ∀ i m H, W i m H →
      ((ItE x).stop i H ∧ Qd H) ∨ ((ItE x).go i H ∧ ∃ Nx : Hp → Prop, (∀ H', Nx H' → ∃ m', m' < m ∧ W (i + 1) m' H') ∧ ∀ z H', (ItE x).yld i H z H' → g z (wipe σ vs) H' fun σ2 H2 => wipe σ2 vs = wipe σ vs ∧ tt σ2 H2 fun b H3 =>
        if b = true then te σ2 H3 fun y H4 => ∃ acc, H4 D = some (.lst acc) ∧ acc.length < sizeLine ∧ Nx (upd H4 D (.lst (acc ++ [y]))) else Nx H3) := by
  refine ⟨fun i m H => m = x.cps.size - i ∧ i ≤ x.cps.size ∧ Pv i H, ⟨x.cps.size, by simp, Nat.zero_le _, h0⟩, ?_⟩
  rintro i m H ⟨rfl, hi, p⟩
  by_cases hlt : i < x.cps.size
  · refine .inr ⟨hlt, Pv (i + 1), fun H' p' => ⟨x.cps.size - (i + 1), by omega, rfl, hlt, p'⟩, fun z H' y => ?_⟩
    obtain ⟨T, c, e1, e2, e3, e4⟩ := y
    subst e1 e3
    exact hs i c T H e4 p e2
  · have e : i = x.cps.size := Nat.le_antisymm hi (Nat.le_of_not_lt hlt)
    subst e
    exact .inl ⟨rfl, hd H p⟩

/-! ### a dict against the empty one -/
section
variable {X : Cx}
theorem hits_empty {A : Around} {s : Shared} {ks : List (Key × Value)} : ks.length = ([] : List (Key × Value)).length → PySem.W.KeqHits A s [] ks true := fun h => by
  cases ks with
  | nil => exact .nil
  | cons _ _ => cases h
def rEqNo (neg : Bool) : R2 := fun x y H Q => ∃ a b ks, x = .ref a ∧ y = .ref b ∧ H a = some (.dK ks) ∧ H b = some (.dK []) ∧ Q (.bl (if neg = true then !ks.isEmpty else ks.isEmpty)) H
theorem len_empty {ks : List (Key × V)} {va vb : List (Key × Value)} (ra : KV ks va) (rb : KV ([] : List (Key × V)) vb) : (va.length == vb.length && true) = ks.isEmpty := by
  have h1 : ks.length = va.length := Paired.length ra
  have h2 : ([] : List (Key × V)).length = vb.length := Paired.length rb
  rw [← h1, ← h2, Bool.and_true]
  cases ks <;> rfl
theorem op_eqNo (hu : X.A.units < cLine) : OpR X (compareOp .Eq) (rEqNo false) := by
  intro pins s σ H x y v u Q I rx ry h
  obtain ⟨a, b, ks, rfl, rfl, ea, eb, q⟩ := h
  cases rx
  cases ry
  obtain ⟨_, ya, va, ra, da⟩ := (show ObjOk X.prog X.w H s.heap a (.dK ks) from I.hok a _ ea)
  obtain ⟨_, yb, vb, rb, db⟩ := (show ObjOk X.prog X.w H s.heap b (.dK []) from I.hok b _ eb)
  have e := len_empty ra rb
  cases vb with
  | cons _ _ => cases rb
  | nil => exact PySem.W.keq_eq (knd := mixKind X.prog X.w) (r := true) ya yb da db hu hits_empty (fin_bl I q e.symm)
theorem op_neNo (hu : X.A.units < cLine) : OpR X (compareOp .NotEq) (rEqNo true) := by
  intro pins s σ H x y v u Q I rx ry h
  obtain ⟨a, b, ks, rfl, rfl, ea, eb, q⟩ := h
  cases rx
  cases ry
  obtain ⟨_, ya, va, ra, da⟩ := (show ObjOk X.prog X.w H s.heap a (.dK ks) from I.hok a _ ea)
  obtain ⟨_, yb, vb, rb, db⟩ := (show ObjOk X.prog X.w H s.heap b (.dK []) from I.hok b _ eb)
  have e := len_empty ra rb
  cases vb with
  | cons _ _ => cases rb
  | nil => exact PySem.W.keq_ne (knd := mixKind X.prog X.w) (r := true) ya yb da db hu hits_empty (fin_bl I q (by rw [e] <;> rfl))
end

/-! ### max(xs, default=d) of a list of ints -/
theorem maxI_fold (d : Int) : ∀ (n : Int) (ns : List Int), PySem.W.maxD (.int n) (ns.map .int) = .int (ns.foldl max n) := fun n ns => PySem.W.maxD_ints n ns
def maxOr (d : Int) : List Int → Int
  | [] => d
  | n :: ns => ns.foldl max n
/-- the values behind: a list of ints, the default's int -/
def tMaxD (K : PySem.W.Frag) (ta : TA) (d : Int) : TE := fun σ H Q => ta σ H fun vs H1 => ∃ (a : Addr) (ns : List Int), vs = [.ref a] ∧ SqL K H1 a (ns.map V.int) ∧ Q (.int (maxOr d ns)) H1
theorem reads_ints {h : Heap} : ∀ {us : List Value} {ns : List Int}, IntsAre us ns → ∃ as, ReadsAll h us (ns.map PyData.int) as
  | _, _, .nil => ⟨_, ReadsAll.nil⟩
  | _, _, .cons n t r => by
    obtain ⟨as, q⟩ := reads_ints (h := h) r
    exact ⟨_, ReadsAll.cons (Reads.int n t) q⟩
theorem alike_ints (ns : List Int) : PySem.W.AlikeAll (ns.map PyData.int) := by
  refine ⟨fun x hx y hy => ?_, fun x hx => ?_⟩
  · obtain ⟨i, _, rfl⟩ := List.mem_map.mp hx
    obtain ⟨j, _, rfl⟩ := List.mem_map.mp hy
    rfl
  · obtain ⟨i, _, rfl⟩ := List.mem_map.mp hx
    intro z
    cases z
theorem depth_ints (ns : List Int) : PyData.depthAll (ns.map PyData.int) = 0 := by
  induction ns with
  | nil => rfl
  | cons n r ih =>
    show max (PyData.depth (.int n)) (PyData.depthAll (r.map PyData.int)) = 0
    rw [ih]
    rfl
/-- the call of max on a list and the keyword default, by values -/
theorem call_maxD {X : Cx} (hc : X.calm = true) (hu : X.A.units + 1 < cLine) {pins : List (Addr × Obj)} {s : Shared} {σ : L2.St} {H : Hp} {a : Addr} {ns : List Int} {d : Int} {t : Tok} {Q : VK} (I : Inv X pins σ H s) (h : SqL X.K H a (ns.map V.int)) (q : Q (.int (maxOr d ns)) H) :
    wpAny (model X.prog X.w) X.A (call (.builtin "max") [.ref a] [(Str.ofString "default", .int d t)]) (EP X pins σ Q) X.xe s := by
  obtain ⟨its, rv, hl, _⟩ := I.list h
  obtain ⟨as, hr⟩ := reads_ints (h := s.heap) rv.ints
  refine PySem.W.max_list_default (I.ok.hd hc) hl.isList (xs := ns.map PyData.int) hr (alike_ints ns) (by rw [depth_ints]; exact hu) (fun e h' tk hk => ?_) fun y ys i v h' tk bs e hv hr' hk => ?_
  · have en : ns = [] := List.map_eq_nil_iff.mp e
    subst en
    exact ⟨.int d, H, I.kept hk, ⟨t, rfl⟩, q⟩
  · cases ns with
    | nil => cases e
    | cons n r =>
      injection e with e1 e2
      subst e1 e2
      rw [PySem.W.maxD_ints] at hr'
      cases hr' with
      | int _ tk' => exact ⟨.int _, H, I.kept hk, ⟨_, rfl⟩, q⟩
end SealR
/-! SealR3: set(a list of texts), and sorted of it. What HandS.Set does for ints, done for texts. -/
namespace SealR
open PySem PySem.Spec PyProof.Rows L2 PySem.F

theorem str_is (P : Program) (w : World) (x : Str) (t : Tok) : (strKind P w).is x (.str x t) = true := by
  show Value.isStrOf x (.str x t) = true
  simp [Value.isStrOf]
def txOf (e : Int × Value) : Str := match e.2 with
  | .str x _ => x
  | _ => Str.empty
def TxE (w : World) (e : Int × Value) : Prop := ∃ x t, e.2 = Value.str x t ∧ e.1 = hashStr w x
/-- at a: the set of the texts that S tells, at most c of them -/
def TxSet (w : World) (h : Heap) (a : Addr) (S : Str → Bool) (c : Nat) : Prop :=
  ∃ o es ep t, h.get? a = some o ∧ o.ExactSet ∧ o.data = .set es ep t ∧ (∀ e ∈ es.toList, TxE w e) ∧ (es.toList.map txOf).Nodup ∧ (∀ x, S x = true ↔ x ∈ es.toList.map txOf) ∧
    es.size ≤ c ∧ t.fits es.size = true ∧ Ris t.place.toList ∧ (w.params.followText "set-order" = true ∨ t.led = true)
section
variable {P : Program} {w : World} {h h' : Heap} {a : Addr} {S : Str → Bool} {c : Nat}
theorem TxSet.at (R : TxSet w h a S c) (k : ∀ o, h.get? a = some o → h'.get? a = some o) : TxSet w h' a S c := by
  obtain ⟨o, es, ep, t, ho, r⟩ := R
  exact ⟨o, es, ep, t, k o ho, r⟩
theorem TxSet.as (R : TxSet w h a S c) {S' : Str → Bool} {c' : Nat} (e : ∀ x, S' x = S x) (hc : c ≤ c') : TxSet w h a S' c' := by
  obtain ⟨o, es, ep, t, ho, h1, h2, h3, h4, h5, h6, r⟩ := R
  exact ⟨o, es, ep, t, ho, h1, h2, h3, h4, fun x => by rw [e x]; exact h5 x, Nat.le_trans h6 hc, r⟩
theorem txs_elems {l : List (Int × Value)} (g : ∀ e ∈ l, TxE w e) : ElemsOf (strKind P w) l := fun e he => by
  obtain ⟨x, t, e1, e2⟩ := g e he
  refine ⟨⟨x, ?_, e2⟩, by rw [e1] <;> rfl⟩
  rw [e1]
  exact str_is P w x t
theorem tx_is {e : Int × Value} (g : TxE w e) (x : Str) : (strKind P w).is x e.2 = true ↔ txOf e = x := by
  obtain ⟨y, t, e1, _⟩ := g
  unfold txOf
  rw [e1]
  constructor
  · intro z
    obtain ⟨u, q⟩ := Value.isStrOf_shape (x := x) (v := Value.str y t) z
    injection q
  · intro z
    have z : y = x := z
    subst z
    exact str_is P w y t
theorem tx_mem {l : List (Int × Value)} (g : ∀ e ∈ l, TxE w e) (x : Str) : x ∈ l.map txOf ↔ ∃ e ∈ l, (strKind P w).is x e.2 = true :=
  ⟨fun hx => by
    obtain ⟨e, he, q⟩ := List.mem_map.mp hx
    exact ⟨e, he, (tx_is (P := P) (g e he) x).mpr q⟩, fun ⟨e, he, q⟩ => List.mem_map.mpr ⟨e, he, (tx_is (P := P) (g e he) x).mp q⟩⟩
end

section
variable {P : Program} {w : World} {A : Around} {E : Value → Shared → Prop} {s : Shared} {a : Addr} {S : Str → Bool} {c : Nat}
/-- the element is laid, the table perhaps relaid -/
theorem txs_tail {g : Bool → Sem Unit} (hg : ∀ (b : Bool) (z : Shared) (K : Unit → Shared → Prop), K () z → wpAny (model P w) A (g b) K E z)
    {o : Obj} {es es1 : Array (Int × Value)} {ep m : Nat} {t t2 : SetTable} {S' : Str → Bool} (ho : s.heap.get? a = some o) (hex : o.ExactSet) (hd : o.data = .set es ep t) (g1 : ∀ e ∈ es1.toList, TxE w e) (nd1 : (es1.toList.map txOf).Nodup)
    (m1 : ∀ x, S' x = true ↔ x ∈ es1.toList.map txOf) (hm : es1.size ≤ m) (hb1 : es1.size < scanBound) (hf2 : t2.fits es1.size = true) (hr : Ris t2.place.toList) (hl : w.params.followText "set-order" = true ∨ t2.led = true) {old : Bool} {R : Option Bool → Shared → Prop}
    (hR : ∀ h', Heap.SameBut a s.heap h' → TxSet w h' a S' m → R (some true) { s with heap := h' }) :
    wpAny (model P w) A (storeSet a es1 t2 >>= fun _ => if (!old && t2.tooFull) = true then g (relayAll t2 es1 (SetTable.grown es1.size)).2.2 >>= fun _ => storeSet a (relayAll t2 es1 (SetTable.grown es1.size)).1 (relayAll t2 es1 (SetTable.grown es1.size)).2.1 >>= fun _ => pure (some true)
      else pure (some true)) R E s := by
  refine wpAny_bind (wpAny_storeSet_of ho hd ?_ (fits_of_scanBound hb1))
  have at1 := store_at (es' := es1) (t' := t2) ho hd
  have same1 := Heap.SameBut.update s.heap a (Obj.putSet es1 t2)
  by_cases full : (!old && t2.tooFull) = true
  · rw [if_pos full]
    have pm := relayAll_perm t2 es1 (SetTable.grown es1.size)
    have f3 := relayAll_fits t2 es1 (SetTable.grown es1.size)
    have r3 := relayAll_ris t2 es1 (SetTable.grown es1.size)
    have l3 := relayAll_led t2 es1 (SetTable.grown es1.size)
    revert pm f3 r3 l3
    generalize relayAll t2 es1 (SetTable.grown es1.size) = Z
    obtain ⟨es2, t3, gave⟩ := Z
    intro pm f3 r3 l3
    have pm : es2.toList.Perm es1.toList := pm
    have sz : es2.size = es1.size := by
      have := pm.length_eq
      rwa [Array.length_toList, Array.length_toList] at this
    refine wpAny_bind (hg _ _ _ (wpAny_bind (wpAny_storeSet_of at1 rfl ?_ (fits_of_scanBound (show es2.size < scanBound by rw [sz]; exact hb1)))))
    have at2 := store_at (es' := es2) (t' := t3) at1 rfl
    refine wpAny_pure (hR _ (same1.trans (Heap.SameBut.update _ a _)) ⟨_, es2, _, t3, at2, hex, rfl, fun e he => g1 e (pm.mem_iff.mp he), (pm.map txOf).nodup_iff.mpr nd1, fun x => (m1 x).trans (pm.map txOf).mem_iff.symm, by rw [sz]; exact hm, f3, r3, ?_⟩)
    rcases hl with z | z
    · exact .inl z
    · exact .inr (Eq.trans l3 z)
  · rw [if_neg full]
    exact wpAny_pure (hR _ same1 ⟨_, es1, _, t2, at1, hex, rfl, g1, nd1, m1, hm, hf2, hr, hl⟩)
theorem txs_add {x : Str} {tk : Tok} {Q : Bool → Shared → Prop} (R : TxSet w s.heap a S c) (room : c + 1 < scanBound)
    (hQ : ∀ h', Heap.SameBut a s.heap h' → TxSet w h' a (fun y => S y || decide (y = x)) (c + 1) → Q (!S x) { s with heap := h' }) :
    wpAny (model P w) A (setAddHashed a (.str x tk) (hashStr w x)) Q E s := by
  obtain ⟨o, es, ep, t, ho, hex, hd, g, nd, hm, hn, hf, hr, hl⟩ := R
  have bound : es.size < scanBound := by omega
  have el : ElemsOf (strKind P w) es.toList := txs_elems g
  unfold setAddHashed setAddHashedIn
  refine wpAny_holding (wpAny_bind (wpAny_setState_of ho hd hf ?_))
  dsimp only
  rw [byScan_of (show (Value.str x tk).scannable = true from rfl) bound el]
  simp only [↓reduceIte]
  unfold setAddByScan
  refine wpAny_bind (wpAny_bind (wpAny_rule (wpAny_bind (wpAny_setScan_of (str_is P w x tk) ho hd hf el ?_))))
  cases hfi : List.findIdx? (fun e => (strKind P w).is x e.2) es.toList with
  | some j =>
    dsimp only
    obtain ⟨hj, pj, _⟩ := List.findIdx?_eq_some_iff_getElem.mp hfi
    have inS : S x = true := (hm x).mpr ((tx_mem (P := P) g x).mpr ⟨es.toList[j], List.getElem_mem hj, pj⟩)
    refine wpAny_pure (wpAny_pure ?_)
    have q := hQ s.heap (Heap.SameBut.refl a s.heap) ⟨o, es, ep, t, ho, hex, hd, g, nd, fun y => ?_, Nat.le_succ_of_le hn, hf, hr, hl⟩
    · rw [inS] at q
      exact q
    · rw [Bool.or_eq_true, decide_eq_true_eq, ← hm y]
      exact ⟨fun z => z.elim id (fun e => by rw [e]; exact inS), .inl⟩
  | none =>
    dsimp only
    have nk : x ∉ es.toList.map txOf := fun z => by
      obtain ⟨e, he, q⟩ := (tx_mem (P := P) g x).mp z
      have cc := List.findIdx?_eq_none_iff.mp hfi e he
      rw [q] at cc
      cases cc
    have outS : S x = false := Bool.eq_false_iff.mpr fun q => nk ((hm x).mp q)
    have way : ∀ (b : Bool) {z : Shared} {K : Unit → Shared → Prop}, K () z → wpAny (model P w) A (match b with | true => rule "set.scan.the-table-gave-way" | false => pure ()) K E z := fun b z K q => by
      cases b
      · exact wpAny_pure q
      · exact wpAny_rule q
    have pm := layNew_perm t es (hashStr w x) (.str x tk)
    have f1 := layNew_fits t es (hashStr w x) (.str x tk)
    have r1 := layNew_ris t es (hashStr w x) (.str x tk) hr
    have l1 := layNew_led t es (hashStr w x) (.str x tk)
    revert pm f1 r1 l1
    show _ → _ → _ → _ → wpAny _ _ _ _ _ _
    generalize hZ : layNew t es (hashStr w x) (.str x tk) = Z
    obtain ⟨es1, t1, old, gave⟩ := Z
    intro pm f1 r1 l1
    have pm : es1.toList.Perm (es.push (hashStr w x, Value.str x tk)).toList := pm
    rw [Array.toList_push] at pm
    have pc : es1.toList.Perm ((hashStr w x, Value.str x tk) :: es.toList) := pm.trans (List.perm_append_singleton _ _)
    have pk : (es1.toList.map txOf).Perm (x :: es.toList.map txOf) := pc.map txOf
    have g1 : ∀ e ∈ es1.toList, TxE w e := fun e he => by
      rcases List.mem_cons.mp (pc.mem_iff.mp he) with z | z
      · subst z
        exact ⟨x, tk, rfl, rfl⟩
      · exact g e z
    have nd1 : (es1.toList.map txOf).Nodup := pk.nodup_iff.mpr (List.nodup_cons.mpr ⟨nk, nd⟩)
    have m1 : ∀ y, (S y || decide (y = x)) = true ↔ y ∈ es1.toList.map txOf := fun y => by
      rw [Bool.or_eq_true, decide_eq_true_eq, hm y, pk.mem_iff, List.mem_cons]
      exact Or.comm
    have sz : es1.size = es.size + 1 := by
      have := pc.length_eq
      rwa [Array.length_toList, List.length_cons, Array.length_toList] at this
    have b1 : es1.size < scanBound := by omega
    have led1 : w.params.followText "set-order" = true ∨ t1.led = true := by
      rcases hl with z | z
      · exact .inl z
      · exact .inr (Eq.trans l1 z)
    have fin : ∀ h', Heap.SameBut a s.heap h' → TxSet w h' a (fun y => S y || decide (y = x)) (c + 1) → Q true { s with heap := h' } := fun h' sb r => by
      have q := hQ h' sb r
      rw [outS] at q
      exact q
    dsimp only
    refine wpAny_bind (way _ ?_)
    split
    · refine wpAny_bind ?_
      rw [hashByValue_scannable 8 (show (Value.str x tk).scannable = true from rfl)]
      refine wpAny_pure (txs_tail ?_ ho hex hd g1 nd1 m1 (show es1.size ≤ c + 1 by omega) b1 ?_ ?_ ?_ fun h' sb r => ?_)
      · intro b z K q
        cases b <;> first | exact wpAny_pure q | exact wpAny_rule q
      · split <;> first | exact f1 | exact SetTable.fits_plain_off f1
      · split <;> exact r1
      · split <;> exact led1
      · exact wpAny_pure (fin h' sb r)
    · refine wpAny_bind (wpAny_pure ?_)
      simp only [↓reduceIte]
      refine txs_tail ?_ ho hex hd g1 nd1 m1 (show es1.size ≤ c + 1 by omega) b1 f1 r1 led1 fun h' sb r => ?_
      · intro b z K q
        cases b <;> first | exact wpAny_pure q | exact wpAny_rule q
      · exact wpAny_pure (fin h' sb r)

/-! ### set(l) of a list of texts -/
theorem txs_none {h : Heap} (e : h.get? a = some { cls := .type "set", dict := none, data := .set #[] 0 (.fresh 0 0 (!w.params.followText "set-order")) }) : TxSet w h a (fun x => decide (x ∈ ([] : List Str))) 0 := by
  refine ⟨_, #[], 0, _, e, ⟨rfl, rfl, rfl⟩, rfl, fun _ z => by simp at z, by simp, fun x => by simp, Nat.le_refl _, rfl, List.Pairwise.nil, ?_⟩
  show _ ∨ (!w.params.followText "set-order") = true
  cases w.params.followText "set-order" <;> simp
/-- the loop of set's update over a walk of texts -/
theorem txs_loop {I : Addr} {fp wr : List Addr} {G : Array GenState → Array GenState → Prop} {n : Nat} {Pv : Nat → Value → Prop} {St : Nat → Shared → Prop} {R : Result → Shared → Prop} (W : WalksS P w A.in1 I fp wr G n Pv St)
    {B : Addr} (out : B ∉ fp) {xs : List Str} (hn : n = xs.length) (small : xs.length + 1 < scanBound) (val : ∀ i v, Pv i v → ∃ x t, xs[i]? = some x ∧ v = .str x t) :
    ∀ (k i : Nat) (s : Shared), i + k = n → St i s → TxSet w s.heap B (fun x => decide (x ∈ xs.take i)) i →
      (∀ s', Moved (B :: wr) G s s' → TxSet w s'.heap B (fun x => decide (x ∈ xs)) n → R (.ok (.ret .none)) s') →
      codeAny (model P w) A (.builtin "set.update.loop" ⟨[.ref B, .ref I], []⟩) R s := by
  have outW : B ∉ wr := fun z => out (W.sub _ z)
  have more : ∀ b ∈ wr, b ∈ B :: wr := fun b hb => List.mem_cons_of_mem _ hb
  intro k
  induction k with
  | zero =>
    intro i s hik hst hS hR
    have ei : i = n := hik
    subst ei
    refine codeAny_builtin PyProof.Rows.F.entry_set_update_loop ?_
    rw [Around.under_plainId PyProof.Rows.F.plain_set_update_loop _]
    show wpAny _ A.in1 (pyNext (.ref I) >>= _) _ _ s
    refine wpAny_bind (W.done s _ _ hst fun s' mv => wpAny_pure (hR s' (mv.mono more) ?_))
    rw [List.take_of_length_le (Nat.le_of_eq hn.symm)] at hS
    exact hS.at fun o e => mv.heap B o outW e
  | succ k ih =>
    intro i s hik hst hS hR
    refine codeAny_builtin PyProof.Rows.F.entry_set_update_loop ?_
    rw [Around.under_plainId PyProof.Rows.F.plain_set_update_loop _]
    show wpAny _ A.in1 (pyNext (.ref I) >>= _) _ _ s
    refine wpAny_bind (W.item i s _ _ (by omega) hst fun v s' pv hst' mv => ?_)
    obtain ⟨x, t, hx, rfl⟩ := val i v pv
    have hS' := hS.at (h' := s'.heap) fun o e => mv.heap B o outW e
    show wpAny _ A.in1 (holding [Value.str x t] (setAdd B (.str x t)) >>= _) _ _ s'
    refine wpAny_bind (wpAny_holding ?_)
    unfold setAdd
    refine wpAny_holding (wpAny_bind ((strKind P w).pyHash (k := x) (str_is P w x t) ?_))
    refine txs_add (s := { s' with toks := s'.toks + 1 }) hS' (by omega) fun h' sb hS2 => ?_
    have hS3 : TxSet w h' B (fun y => decide (y ∈ xs.take (i + 1))) (i + 1) := hS2.as (fun y => by
      rw [List.take_add_one, hx]
      simp [List.mem_append]) (Nat.le_refl _)
    refine wpAny_pure ⟨plainId_quiet PyProof.Rows.F.plain_set_update_loop _, ih (i + 1) _ (by omega) (W.frame _ s' _ _ hst' (Nat.le_succ _) fun b hb o e => ?_) hS3 fun s2 mv2 hS4 => hR s2 (Moved.trans W.gtrans ((mv.mono more).then_heap (Nat.le_succ _) fun b o hb e => ?_) mv2) hS4⟩
    · rw [sb.2 b fun z => out (by rw [← z]; exact hb)]
      exact e
    · rw [sb.2 b fun z => hb (by rw [z]; exact List.mem_cons_self)]
      exact e
/-- a set just made -/
abbrev blank (w : World) : Obj := { cls := .type "set", dict := none, data := .set #[] 0 (.fresh 0 0 (!w.params.followText "set-order")) }
theorem call_setL {l : Addr} {items : Array Value} (xs : List Str) {Q : Value → Shared → Prop} (hh : A.handled = none) (hl : s.heap.IsList l items) (hit : StrsAre items.toList xs) (small : xs.length + 1 < scanBound)
    (h : ∀ (h' : Heap) (tk : Nat), TxSet w h' s.heap.objs.size (fun x => decide (x ∈ xs)) xs.length → (∀ b o, s.heap.get? b = some o → h'.get? b = some o) → Q (.ref s.heap.objs.size) { s with heap := h', toks := tk }) :
    wpAny (model P w) A (call (.type "set") [.ref l]) Q E s := by
  have nx : items.size = xs.length := by
    have q := StrsAre.len_eq hit
    rwa [Array.length_toList] at q
  obtain ⟨oL, atL, clsL, nL, datL⟩ := id hl
  have lt0 : l < s.heap.objs.size := Heap.lt_size atL
  have mroS := PySem.F.called_set.mro
  obtain ⟨c, tl, hmro⟩ := mroS
  have made := PySem.F.called_set.made
  have subS := PySem.F.called_set.sub
  refine wpAny_call (codeAny_of_tree ?_)
  show wpAny _ _ (callAny (.type "set") _) _ _ _
  refine wpAny_pure ⟨Code.quiet_builtin _ (by decide +kernel), codeAny_builtin PySem.F.entry_type_call ?_⟩
  rw [Around.under_plain (weight_type_call_type "set" [.ref l] []) rfl]
  have a1 := PySem.F.called_set.notType
  have a2 := PySem.F.called_set.canCreate
  have a3 := PySem.F.typeCall_set_1 (.ref l)
  repeat (any_goals (first | assumption | wp_step))
  refine codeAny_mono (code_set_led1 (.ref l) (E := E) (Q₁ := fun v z => v = .ref s.heap.objs.size ∧ z = { s with heap := s.heap.push (blank w) }) ⟨rfl, rfl⟩) fun r z hz => ?_
  rcases r with e | fl
  · exact hz
  rcases fl with _ | _ | _ | v
  · exact hz.elim
  · exact hz.elim
  · exact hz.elim
  obtain ⟨rfl, rfl⟩ := hz
  have atS : (s.heap.push (blank w)).get? s.heap.objs.size = some (blank w) := Heap.get?_push_size _ rfl
  have tyS : Shared.TypeIs { s with heap := s.heap.push (blank w) } (.ref s.heap.objs.size) "set" := ⟨_, atS, rfl⟩
  have i1 := PySem.F.called_set.init.lookup
  have i2 := PySem.F.called_set.init.bind (.ref s.heap.objs.size)
  repeat (any_goals (first | assumption | wp_step))
  refine codeAny_mono (codeAny_call_builtin (R := wants (fun r z => r = .none ∧ ∃ h' tk, z = { s with heap := h', toks := tk } ∧ TxSet w h' s.heap.objs.size (fun x => decide (x ∈ xs)) xs.length ∧ ∀ b o, s.heap.get? b = some o → h'.get? b = some o) E)
    PySem.F.called_set.init.plain PySem.F.entry_set_init (check_set_init_1 tyS ?_)) fun r z hz => ?_
  · obtain ⟨cL, dL, tL, sL⟩ := oL
    have clsL : cL = .type "list" := clsL
    have datL : tL = .seq items nL := datL
    subst clsL datL
    have atL1 : (s.heap.push (blank w)).get? l = some { cls := .type "list", dict := dL, data := .seq items nL, slots := sL } := Heap.get?_push_of_some _ atL
    have s1 := PySem.F.sub_list_set
    have s2 := PySem.F.sub_list_frozenset
    have noD : (Value.type "list" == Value.type "dict") = false := by decide
    have isL1 : (s.heap.push (blank w)).IsList l items := ⟨_, atL1, rfl, nL, rfl⟩
    unfold Builtin.«set.__init__» noKeywords Builtin.Frozenset.updateFrom
    generalize keepI : pyIter = PI
    wp_walk
    subst keepI
    refine wpAny_pyIter_list isL1 (wpAny_bind (wpAny_runValue ?_))
    have z1 : (s.heap.push (blank w)).objs.size = s.heap.objs.size + 1 := Heap.size_push ..
    have hh3 : A.in1.in1.in1.handled = none := hh
    have neI : l ≠ (s.heap.push (blank w)).objs.size := by
      rw [z1]
      exact Nat.ne_of_lt (Nat.lt_succ_of_lt lt0)
    refine txs_loop (xs := xs) (B := s.heap.objs.size) (Walks.list hh3 _ l neI items).toS (fun hm => ?_) nx small (fun i v hv => ?_) items.size 0 _ (Nat.zero_add _) ⟨⟨_, Heap.get?_push_size _ rfl, rfl, rfl⟩, isL1.push _⟩
      ((txs_none (Heap.get?_push_of_some _ atS)).as (fun x => by rw [List.take_zero]) (Nat.le_refl _)) fun z mv hS => ?_
    · rcases List.mem_cons.mp hm with e | hm
      · rw [z1] at e
        exact Nat.succ_ne_self _ e.symm
      · exact Nat.lt_irrefl _ (by rw [← List.mem_singleton.mp hm] at lt0; exact lt0)
    · have hv' : items.toList[i]? = some v := by rw [Array.getElem?_toList]; exact hv
      obtain ⟨t, e⟩ := SS.strs_at hit i v hv'
      have hi : i < xs.length := by rw [← nx]; exact (Array.getElem?_eq_some_iff.mp hv).1
      refine ⟨xs[i], t, List.getElem?_eq_getElem hi, ?_⟩
      rw [e, List.getD_eq_getElem?_getD, List.getElem?_eq_getElem hi] <;> rfl
    · obtain ⟨hp, g2, d2, tk, os2⟩ := z
      have eg : g2 = s.gens := mv.gens
      have ed : d2 = s.drawn := mv.drawn
      have eo : os2 = s.os := mv.os
      subst eg ed eo
      show wpAny _ _ _ _ _ _
      refine wpAny_pure ?_
      show wpAny _ _ (ret Value.none) _ _ _
      refine wpAny_pure ⟨rfl, hp, tk, rfl, by rw [← nx]; exact hS, fun b o e => ?_⟩
      have b0 : b < s.heap.objs.size := Heap.lt_size e
      refine mv.heap b o (fun hm => ?_) (Heap.get?_push_of_some _ (Heap.get?_push_of_some _ e))
      rcases List.mem_cons.mp hm with e' | hm
      · exact Nat.ne_of_lt b0 e'
      · rw [List.mem_singleton.mp hm, z1] at b0
        exact Nat.not_succ_lt_self b0
  · rcases r with e | fl
    · exact hz
    rcases fl with _ | _ | _ | v
    · exact hz.elim
    · exact hz.elim
    · exact hz.elim
    obtain ⟨rfl, h', tk, rfl, hS, hk⟩ := hz
    repeat (any_goals (first | assumption | wp_step))
    exact h _ _ hS hk
/-! ### sorted of such a set -/
theorem strs_of : ∀ l : List Value, (∀ v ∈ l, ∃ x t, v = Value.str x t) → ∃ xs : List Str, StrsAre l xs ∧ ∀ e : Int, xs = l.map fun v => txOf (e, v)
  | [], _ => ⟨[], .nil, fun _ => rfl⟩
  | v :: r, h => by
    obtain ⟨x, t, e⟩ := h v List.mem_cons_self
    obtain ⟨xs, a, b⟩ := strs_of r fun u hu => h u (List.mem_cons_of_mem _ hu)
    subst e
    exact ⟨x :: xs, .cons _ _ a, fun e => by rw [List.map_cons, ← b e] <;> rfl⟩
theorem sorted_txs {Q : Value → Shared → Prop} (R : TxSet w s.heap a S c) (hh : A.handled = none) (h64 : c < 64)
    (hQ : ∀ (z : Shared) (p : Addr) (out : Array Value) (n : Nat) (ys : List Str), (∀ b o, s.heap.get? b = some o → z.heap.get? b = some o) → z.gens = s.gens → z.os = s.os → s.heap.objs.size ≤ p →
      z.heap.get? p = some (seqObj "list" out n) → StrsAre out.toList ys → sortedS ys = true → ys.Nodup → (∀ x, x ∈ ys ↔ S x = true) → ys.length ≤ c → Q (.ref p) z) :
    wpAny (model P w) A (call (.builtin "sorted") [.ref a]) Q E s := by
  obtain ⟨o, es, ep, t, ho, hex, hd, g, nd, hm, hn, hf, hr, hl⟩ := R
  have bound : es.size < scanBound := Nat.lt_of_le_of_lt (Nat.le_trans hn (Nat.le_of_lt h64)) (by unfold scanBound; omega)
  refine Calls.call_function_entry PyProof.Rows.kind_sorted PyProof.Rows.plain_sorted PyProof.Rows.entry_sorted (PyProof.Rows.args_sorted1 _) ?_
  unfold Builtin.«sorted»
  refine wpAny_bind (m := checkCount "sorted" 1 1 _) (wpAny_pure ?_)
  refine wpAny_bind (collect_set (A := A.in1) hh ⟨o, ho, hex.1, hd⟩ hf bound hr hl fun z vs k1 hz g1 o1 pm => ?_)
  obtain ⟨xs, hxs, ex⟩ := strs_of vs fun v hv => by
    obtain ⟨e, he, q⟩ := List.mem_map.mp (pm.mem_iff.mp hv)
    obtain ⟨x, tk, e1, _⟩ := g e he
    exact ⟨x, tk, by rw [← q]; exact e1⟩
  have px : xs.Perm (es.toList.map txOf) := by
    have q := pm.map fun v => txOf ((0 : Int), v)
    rw [← ex 0, List.map_map] at q
    exact q
  have lx : xs.length ≤ c := by
    have q : xs.length = es.size := px.length_eq.trans ((List.length_map _).trans Array.length_toList)
    exact q ▸ hn
  have lv : vs.length = xs.length := StrsAre.len_eq hxs
  refine wpAny_bind (wpAny_newList ?_ (by rw [lv, sizeLine_eq]; omega))
  have hoL : (z.heap.push (seqObj "list" vs.toArray 0)).get? z.heap.objs.size = some (seqObj "list" vs.toArray 0) := Heap.get?_push_size _ rfl
  refine wpAny_bind (wpAny_holding (wpAny_call_entry PyProof.Rows.slot_list_sort ⟨_, hoL, rfl⟩ PyProof.Rows.entry_list_sort
    (list_sort_treeK strKind_oneLt hoL hxs.keysOf (fun v₁ v₂ rest e => keyKind_strs (by rw [← e]; exact hxs)) (by rw [lv]; omega) fun st' hp hs => ⟨_, rfl, ?_⟩) (PyProof.Rows.args_list_sort _)))
  obtain ⟨ys, b1, b2, b3⟩ := sorted_out_str hxs hp hs
  obtain ⟨n, hc⟩ := PyProof.Rows.sortedHeap_at (vs := vs) (out := (arrOf st').map (·.2)) hoL
  have py := b2.trans px
  refine wpAny_pure ⟨_, rfl, hQ _ z.heap.objs.size _ n ys (fun b u e => ?_) g1 o1 hz hc b1 b3 (py.nodup_iff.mpr nd) (fun x => by rw [py.mem_iff, ← hm x]) (by rw [b2.length_eq]; exact lx)⟩
  have q := k1 b u e
  have blt := Heap.lt_size q
  show (PyProof.Rows.sortedHeap (z.heap.push (seqObj "list" vs.toArray 0)) z.heap.objs.size vs _).get? b = some u
  rw [PyProof.Rows.sortedHeap_old (Nat.ne_of_lt blt) (by rw [size_push']; exact Nat.lt_succ_of_lt blt)]
  exact Heap.get?_push_of_some _ q
end
/-- at a: a set of texts -/
def SetTO (w : World) (a : Addr) (S : Str → Bool) (c : Nat) : HO := .ext fun h => TxSet w h a S c
section
variable {X : Cx}
theorem setTO_new {w : World} {P : Program} {H : Hp} {h : Heap} {a : Addr} {S : Str → Bool} {c : Nat} (R : TxSet w h a S c) : ObjOk P w H h a (SetTO w a S c) := by
  refine ⟨R, ?_, fun h1 h2 r k => r.at k⟩
  obtain ⟨o, _, _, _, ho, _⟩ := R
  exact ⟨o, ho⟩
/-- set(xs), xs a list of texts -/
def rSetL (K : PySem.W.Frag) (w : World) : List V → Hp → VK → Prop := fun vs H Q => ∃ (a : Addr) (xs : List Str), vs = [V.ref a] ∧ SqL K H a (xs.map V.str) ∧ xs.length < 60 ∧ ∀ p, H p = none → Q (.ref p) (upd H p (SetTO w p (fun x => decide (x ∈ xs)) xs.length))
theorem cr_setL (hc : X.calm = true) : CallR X (.type "set") (rSetL X.K X.w) := by
  intro pins s σ H vs us Q I r h
  obtain ⟨a, xs, rfl, hs, h60, q⟩ := h
  obtain ⟨its, rv, hl, _⟩ := I.list hs
  rw [Vals.ref1 r]
  refine call_setL xs (I.ok.hd hc) hl.isList rv.strs (by unfold scanBound; omega) fun h' tk hS hk => ?_
  have fresh := I.hok.fresh (Nat.le_refl s.heap.objs.size)
  exact ⟨.ref _, _, I.laid (t' := tk) hk (Nat.le_refl _) (setTO_new hS), rfl, q _ fresh⟩
/-- sorted(d), d such a set -/
def rSortT (w : World) : List V → Hp → VK → Prop := fun vs H Q => ∃ (a : Addr) (S : Str → Bool) (c : Nat), vs = [V.ref a] ∧ H a = some (SetTO w a S c) ∧ c < 64 ∧
  ∀ (ys : List Str) (p : Addr), sortedS ys = true → ys.Nodup → (∀ x, x ∈ ys ↔ S x = true) → ys.length ≤ c → H p = none → Q (.ref p) (upd H p (.lst (ys.map V.str)))
theorem cr_sortT (hc : X.calm = true) : CallR X (.builtin "sorted") (rSortT X.w) := by
  intro pins s σ H vs us Q I r h
  obtain ⟨a, S, c, rfl, ha, h64, q⟩ := h
  have R : TxSet X.w s.heap a S c := (I.hok a _ ha).1
  rw [Vals.ref1 r]
  refine sorted_txs R (I.ok.hd hc) h64 fun z p out n ys hk hg ho hp at_ hy b1 b2 b3 b4 => ?_
  have small : (ys.map V.str).length ≤ sizeLine := by
    rw [List.length_map, sizeLine_eq]
    omega
  have fresh : H p = none := I.hok.fresh hp
  have J : Inv X pins σ (upd H p (.lst (ys.map V.str))) { s with heap := z.heap, gens := z.gens, drawn := z.drawn, toks := z.toks } :=
    I.call (ch := []) (Un.laid hk hp fresh) (I.hok.laid hk hp ⟨small, out.toList, n, vals_of_strs hy, at_⟩) (by rw [hg]; exact I.bare) (fun _ z => nomatch z)
  have e : z = { s with heap := z.heap, gens := z.gens, drawn := z.drawn, toks := z.toks } := by
    obtain ⟨z1, z2, z3, z4, z5⟩ := z
    cases ho
    rfl
  rw [e]
  exact ⟨.ref p, _, J, rfl, q ys p b1 b2 b3 b4 fresh⟩
end
end SealR
/-! SealR5: a list comprehension whose element may raise: the exception leaves the block and goes on in the def's own frame. -/
namespace SealR
open PySem PySem.Spec PyProof.Rows L2

/-- the block's context, its wish about exceptions being what the comprehension owes -/
abbrev blkX (X : Cx) (s : Shared) (H : Hp) (scope : Scope) (ce : Env) (fp : List Addr) : Cx :=
  { X.blk s H scope ce fp with xe := notedBy (model X.prog X.w) X.A ce (CompFails (model X.prog X.w) X.A X.xe ce) }

/-- the ground without the block's names -/
theorem ground_less {B : Heap} (C : Addr) : ∃ B2 : Heap, (∀ b o, B2.get? b = some o → B.get? b = some o ∧ b ≠ C) ∧ ∀ b o, B.get? b = some o → b ≠ C → B2.get? b = some o := by
  obtain ⟨B2, h1, h2⟩ := restrict B fun b => decide (b ≠ C)
  refine ⟨B2, fun b o e => ?_, fun b o e hb => ?_⟩
  · by_cases hb : b = C
    · rw [h2 b (by simp [hb])] at e
      cases e
    · rw [h1 b (by simp [hb])] at e
      exact ⟨e, hb⟩
  · rw [h1 b (by simp [hb])]
    exact e

section
variable {X : Cx} {pins : List (Addr × Obj)} {σ : L2.St} {Ed : XK}
/-- THE PASSING: what an element's call lets out, the def's own wish takes -/
theorem blk_passes (hs : X.stack = X.env :: X.outer) (hf : X.env.frame = some X.env.locals) (tk : Takes X fun cls d _ H => Ed cls d H) {s3 : Shared} {H3 : Hp} {scope : Scope} {cl : List (Str × Addr)} {fp : List Addr} {E : XK}
    (I3 : Inv X pins σ H3 s3) (hfp : ∀ b ∈ fp, FpOk X pins H3 b) (hE : ∀ cls d H', E cls d H' → Ed cls d H') :
    Passes (L2.CX X.prog X.w) (blkX X s3 H3 scope (compEnvC scope cl s3.heap.objs.size X.env) fp) E := by
  intro pinsb σb Hb sb u s' J c
  generalize hce : compEnvC scope cl s3.heap.objs.size X.env = ce at J ⊢
  have hC : ce.locals = s3.heap.objs.size := by rw [← hce] <;> rfl
  have hcf : ce.frame = X.env.frame := by rw [← hce] <;> rfl
  have hfr : X.A.frames = some (X.env :: X.outer) := by rw [I3.ok.frames, hs]
  obtain ⟨a, B, H', cls, d, rfl, fl, hok, ub, na, os, ag, hE'⟩ := c
  have jb : Un (frs X.stack) fp H3 Hb s3.heap sb.heap := J.base
  have bC : Hb s3.heap.objs.size = none := by
    have z : Hb ce.locals = none := J.free
    rwa [hC] at z
  obtain ⟨m, hn0, _⟩ := J.loc
  have hn0 : sb.heap.Ns ce.locals m := hn0
  rw [hC] at hn0
  obtain ⟨oC, esC, epC, hoC, hdC, restC⟩ := id hn0
  have nfC : s3.heap.objs.size ∉ frs X.stack := fun hm => by
    rcases List.mem_cons.mp (I3.stkSub _ hm) with z | z
    · have := I3.lt
      rw [← z] at this
      exact Nat.lt_irrefl _ this
    · exact I3.nofs (Nat.le_refl _) z
  have atB : B.get? s3.heap.objs.size = some oC := ub.keep _ _ hoC bC nfC
  have c' : H' s3.heap.objs.size = none := ub.free _ _ hoC bC
  have hn1 : s'.heap.Ns s3.heap.objs.size m := ⟨oC, esC, epC, fl.1 _ _ atB, hdC, restC⟩
  have fl' : HandSPX.FlyingZ B (X.env :: X.outer) a (Zc cls d) s'.heap := by
    have z := fl
    have z : HandSPX.FlyingZ B X.stack a (Zc cls d) s'.heap := z
    rw [hs] at z
    exact z
  show wpAny _ _ (noteFrame (.ref a) ce) _ _ s'
  rw [noteFrame_env _ hcf]
  refine HandSPX.looks_onZ Zc.steady hfr hf fl' fun h1 held up1 => ?_
  refine ⟨m, by rw [hC]; exact up1.ns hn1, fun h2 m2 hn2 sb2 => ?_⟩
  rw [hC] at hn2 sb2
  obtain ⟨B2, b1, b2⟩ := ground_less (B := B) s3.heap.objs.size
  obtain ⟨st1, ne1, ff1, tr1⟩ := held
  obtain ⟨oe, vs, T, oT, ts, he, hz, hd, hv1, hnT, hTe, hT, hdT, hv3⟩ := tr1
  have notC : ∀ {b : Addr} {o : Obj} {ws : Array Value}, h1.get? b = some o → o.data = .fields ws → b ≠ s3.heap.objs.size := fun {b o ws} e dd z => by
    obtain ⟨oC1, _, _, e1, d1, _⟩ := up1.ns hn1
    rw [z, e1] at e
    cases e
    rw [d1] at dd
    cases dd
  have noFr : ∀ L ∈ frs (X.env :: X.outer), B2.get? L = none := fun L hL => by
    cases q : B2.get? L with
    | none => rfl
    | some o =>
      have z := (ff1.mem hL).1
      rw [(b1 L o q).1] at z
      cases z
  have held2 : HandSPX.HeldZ B2 (X.env :: X.outer) a (Zc cls d) X.env.locals h2 := by
    refine ⟨fun b o e => ?_, ?_, funFrames_none (Heap.FunFrames.sameBut sb2 hn2 ff1) noFr, oe, vs, T, oT, ts, (sb2.2 a (notC he hd)).trans he, hz, hd, hv1, ?_, hTe, (sb2.2 T (notC hT hdT)).trans hT, hdT, hv3⟩
    · obtain ⟨e1, e2⟩ := b1 b o e
      exact (sb2.2 b e2).trans (st1 b o e1)
    · cases q : B2.get? a with
      | none => rfl
      | some o =>
        rw [(b1 a o q).1] at ne1
        cases ne1
    · cases q : B2.get? T with
      | none => rfl
      | some o =>
        rw [(b1 T o q).1] at hnT
        cases hnT
  unfold PySem.passOn
  obtain ⟨oe2, vs2, T2, oT2, ts2, he2, hz2, hd2, hv2, _⟩ := held2.2.2.2
  refine wpAny_bind (wpAny_field he2 hd2 hv2 ?_)
  rw [if_neg (show ¬ ((Value.ref T2 == Value.none) = true) from by simp), hcf, hf]
  refine wpAny_bind (HandSPX.setFlight_onZ (s := { s' with heap := h2 }) held2 fun h3 held3 up3 => wpAny_throw (tk _ _ ?_))
  -- the def's own state, without the block and the exception
  obtain ⟨G, g1, g2⟩ := restrict h3 fun b => (B2.get? b).isSome || decide (b ∈ frs X.stack)
  have st3 : B2.StaysIn h3 := held3.1
  have gB : ∀ b o, B2.get? b = some o → G.get? b = some o := fun b o e => by
    rw [g1 b (by simp [e])]
    exact st3 b o e
  have gF : ∀ b, b ∈ frs X.stack → G.get? b = h3.get? b := fun b hb => g1 b (by simp [hb])
  have gO : ∀ b o, G.get? b = some o → h3.get? b = some o ∧ ((B2.get? b).isSome = true ∨ b ∈ frs X.stack) := fun b o e => by
    cases q : ((B2.get? b).isSome || decide (b ∈ frs X.stack)) with
    | false =>
      rw [g2 b q] at e
      cases e
    | true =>
      rw [g1 b q] at e
      exact ⟨e, by simpa [Bool.or_eq_true] using q⟩
  have old : ∀ b o, s3.heap.get? b = some o → b ≠ s3.heap.objs.size := fun b o e => Nat.ne_of_lt (Heap.lt_size e)
  have slots : ∀ b o, b ∈ frs X.stack → s'.heap.get? b = some o → (∀ ws, o.data ≠ .fields ws) → ∃ sl, G.get? b = some { o with slots := sl } := fun b o hb e nf => by
    obtain ⟨sl1, q1⟩ := up1 b o e nf
    have ne : b ≠ s3.heap.objs.size := fun z => nfC (by rw [← z]; exact hb)
    obtain ⟨sl3, q3⟩ := up3 b _ ((sb2.2 b ne).trans q1) nf
    exact ⟨sl3, by rw [gF b hb]; exact q3⟩
  have noRec : ∀ b o, b ∈ frs X.stack → s3.heap.get? b = some o → ∀ ws, o.data ≠ .fields ws := fun b o hb e => by
    obtain ⟨_, o', e', nf⟩ := I3.stack.mem hb
    rw [e] at e'
    cases e'
    exact nf
  have frN : ∀ b, b ∈ frs X.stack → b ∉ fp := fun b hb z => (hfp b z).2.1 |> fun ne => by
    rcases List.mem_cons.mp (I3.stkSub b hb) with q | q
    · exact ne q
    · exact (hfp b z).2.2.1 q
  have slotG : ∀ b o, s3.heap.get? b = some o → b ∈ frs X.stack → ∃ sl, G.get? b = some { o with slots := sl } := fun b o e hb => by
    obtain ⟨sl, q⟩ := jb.slot b o e (I3.stkFree b hb) hb (frN b hb)
    obtain ⟨sl2, q2⟩ := ub.slot b _ q hb
    obtain ⟨sl3, q3⟩ := slots b _ hb q2 (noRec b o hb e)
    exact ⟨sl3, q3⟩
  have un : Un (frs X.stack) fp H3 H' s3.heap G := by
    refine ⟨fun b o e n hb hx => gB b o (b2 b o (ub.keep b o (jb.keep b o e n hb hx) (jb.free b o e n hx) hb) (old b o e)), fun b o e n hb hx => slotG b o e hb, fun b o e n hx => ?_, fun b o e hx => ?_,
      fun b xs e => ub.tups b xs (jb.tups b xs e), fun b o xs e => ub.frzs b o xs (jb.frzs b o xs e), fun b ps e => ?_⟩
    · obtain ⟨o', q⟩ := jb.there b o e hx
      exact ub.free b o' q (jb.free b o e n hx)
    · by_cases hb : b ∈ frs X.stack
      · obtain ⟨sl, q⟩ := slotG b o e hb
        exact ⟨_, q⟩
      · obtain ⟨o', q⟩ := jb.there b o e hx
        obtain ⟨o2, q2⟩ := ub.there b o' q hb
        exact ⟨o2, gB b o2 (b2 b o2 q2 (old b o e))⟩
    · obtain ⟨m1, e1⟩ := jb.tbls b ps e
      obtain ⟨m2, e2⟩ := ub.tbls b _ e1
      exact ⟨m1 ++ m2, by rw [e2, Array.append_assoc]⟩
  have okG : HOk X.prog X.w H' G := fun b o e => (hok b o e).stay (fun c v hc q => gB c v (b2 c v q fun z => by
    rcases hc with w' | w'
    · rw [← w', z, c'] at e
      cases e
    · rw [z, c'] at w'
      cases w')) (fun _ q => q) fun _ _ q => q
  have IG : Inv X pins σ H' { s3 with heap := G, gens := s'.gens, drawn := s'.drawn, toks := s'.toks } :=
    I3.call (ch := fp) un okG ag fun b hb => ⟨(hfp b hb).2.2.2.1, (hfp b hb).2.1, (hfp b hb).2.2.2.2.1, (hfp b hb).2.2.2.2.2⟩
  refine ⟨a, B2, _, pins, σ, H', cls, d, rfl, IG, fun b o e hb => ?_, Heap.UpToSlots.of_keeps fun b o e => (gO b o e).1, .inr (.inr (by rw [hs]; exact held3)), na, os.trans J.os, ag, hE _ _ _ hE'⟩
  obtain ⟨e', q⟩ := gO b o e
  rcases q with q | q
  · obtain ⟨o', q⟩ := Option.isSome_iff_exists.mp q
    have z := st3 b o' q
    rw [e'] at z
    cases z
    exact q
  · exact absurd q hb

/-- [elt for name in iter], the element's calls may raise: its reading is tLc's -/
theorem pe_lcX {elt tg iter : Expr} {scope : Scope} {own : List (Str × Nat)} {pos : Pos} {wi : TI} {g : TG} {te : TE} (hc : X.calm = true) (hN : X.N.Nodup) (hs : X.stack = X.env :: X.outer) (hf : X.env.frame = some X.env.locals)
    (tk : Takes X fun cls d _ H => Ed cls d H) (hi : PI X tg iter wi) (ok : BlkOk X.N X.env.scope scope own)
    (hg : ∀ (s : Shared) (H : Hp) (C : Addr) (cl : List (Str × Addr)) (fp : List Addr), PG (blkX X s H scope (compEnvC scope cl C X.env) fp) tg g)
    (he : ∀ (s : Shared) (H : Hp) (C : Addr) (cl : List (Str × Addr)) (fp : List Addr), (∀ E : XK, (∀ cls d H', E cls d H' → Ed cls d H') → Passes (L2.CX X.prog X.w) (blkX X s H scope (compEnvC scope cl C X.env) fp) E) →
      PE (blkX X s H scope (compEnvC scope cl C X.env) fp) elt te) (hfo : ∀ x, foldedSetIterable iter X.env x = pure x := by intro _; rfl) :
    PE X (.ListComp elt [⟨tg, iter, [], 0⟩] scope pos) (tLc wi g tYes te (own.map (·.2))) := by
  refine ⟨fun pins s σ H Q I h => ?_⟩
  rw [eval_ListComp]
  have captured : ∀ y ∈ scope.names, y.2 = .free → ∃ c, X.env.cells.lookup y.1 = some c := fun y hy e => by
    rcases ok.free y hy e with k | k
    · exact I.ok.has _ (.inl k)
    · exact I.ok.has _ (.inr k)
  refine comprehension_at rfl hfo (closure_ok captured) ok.kind (fun y hy e => by rw [ok.uniq y hy, e]) (thn (hi.run pins s σ H _ I h) fun xv s1 hx => thn hx fun itv s2 h2 => ?_)
  obtain ⟨it, fp, tn, J, H2, rfl, I2, T, st2, f2, q⟩ := h2
  refine wpAny_newObj_type (newEnv_comp ?_) (Nat.zero_le _)
  obtain ⟨D, hD⟩ : ∃ D, D = s2.heap.objs.size := ⟨_, rfl⟩
  have hDn : H2 D = none := I2.hok.fresh (Nat.le_of_eq hD.symm)
  obtain ⟨W, ⟨m0, w0⟩, turn⟩ := q D hDn
  obtain ⟨s3, hs3⟩ : ∃ s3 : Shared, s3 = { s2 with heap := s2.heap.push { cls := .type "list", data := .seq ([] : List Value).toArray } } := ⟨_, rfl⟩
  have I3 : Inv X pins σ (upd H2 D (.lst [])) s3 := by
    rw [hs3]
    exact I2.laid (t' := s2.toks) (fun b o e => Heap.get?_push_of_some _ e) (Nat.le_of_eq hD.symm) ⟨Nat.zero_le _, [], 0, .nil, by rw [hD]; exact Heap.get?_push_size _ rfl⟩
  have hp3 : s3.heap = s2.heap.push { cls := .type "list", data := .seq ([] : List Value).toArray } := by rw [hs3]
  have f3 : ∀ b ∈ fp, FpOk X pins (upd H2 D (.lst [])) b ∧ b < s3.heap.objs.size := fun b hb => by
    obtain ⟨o, e, _⟩ := T.obj _ _ st2 b hb
    have hlt := Heap.lt_size e
    refine ⟨⟨?_, (f2 b hb).2⟩, by rw [hp3, Heap.size_push]; exact Nat.lt_succ_of_lt hlt⟩
    rw [upd_ne (by rw [hD]; exact Nat.ne_of_lt hlt)]
    exact (f2 b hb).1
  have st3 : tn 0 s3.heap := T.keep _ _ _ st2 fun b _ o e => by rw [hp3]; exact Heap.get?_push_of_some _ e
  have I4 := (block_start I3 ok hN f3).wish (notedBy (model X.prog X.w) X.A (compEnvC scope (cellsFrom (s3.heap.objs.size + 1) scope.names (cloFrom X.env.cells scope.names [])) s3.heap.objs.size X.env)
    (CompFails (model X.prog X.w) X.A X.xe (compEnvC scope (cellsFrom (s3.heap.objs.size + 1) scope.names (cloFrom X.env.cells scope.names [])) s3.heap.objs.size X.env)))
  have pg := hg s3 (upd H2 D (.lst [])) s3.heap.objs.size (cellsFrom (s3.heap.objs.size + 1) scope.names (cloFrom X.env.cells scope.names [])) fp
  have pe := he s3 (upd H2 D (.lst [])) s3.heap.objs.size (cellsFrom (s3.heap.objs.size + 1) scope.names (cloFrom X.env.cells scope.names [])) fp fun E hE => blk_passes hs hf tk I3 (fun b hb => (f3 b hb).1) hE
  rw [← hs3]
  show codeAny _ _ (.compStart (.ListComp elt [⟨tg, iter, [], 0⟩] scope pos) 0 (.ref it) (.ref s2.heap.objs.size) (compEnvC scope (cellsFrom (s3.heap.objs.size + 1) scope.names (cloFrom X.env.cells scope.names [])) s3.heap.objs.size X.env))
    (compEnds (model X.prog X.w) X.A X.xe none _ (.ref s2.heap.objs.size) (compEnvC scope (cellsFrom (s3.heap.objs.size + 1) scope.names (cloFrom X.env.cells scope.names [])) s3.heap.objs.size X.env)) { s3 with heap := pushCells (s3.heap.push { cls := .type "dict", data := .dict #[] }) scope.names }
  rw [← hD]
  have nfp : ∀ b ∈ fp, (upd H2 D (.lst [])) b = none := fun b hb => (f3 b hb).1.1
  generalize hce : compEnvC scope (cellsFrom (s3.heap.objs.size + 1) scope.names (cloFrom X.env.cells scope.names [])) s3.heap.objs.size X.env = ce at I4 pg pe ⊢
  have cL : ce.locals = s3.heap.objs.size := by rw [← hce] <;> rfl
  generalize hH3 : upd H2 D (.lst []) = H3 at I3 I4 pg pe w0 nfp f3
  obtain ⟨s4, hs4⟩ : ∃ s4 : Shared, s4 = { s3 with heap := pushCells (s3.heap.push { cls := .type "dict", data := .dict #[] }) scope.names } := ⟨_, rfl⟩
  rw [← hs4] at I4 ⊢
  have st4 : tn 0 s4.heap := T.keep _ _ _ st3 fun b _ o e => by rw [hs4]; exact pushCells_keeps _ _ _ _ (Heap.get?_push_of_some _ e)
  have I4 : Inv (blkX X s3 H3 scope ce fp) [] (wipe σ (own.map (·.2))) H3 s4 := I4
  have stat : ∀ {σ' : L2.St} {H' : Hp} {s' : Shared}, Inv (blkX X s3 H3 scope ce fp) [] σ' H' s' → (∀ b ∈ fp, H' b = none) → ∀ b ∈ fp, FpOk (blkX X s3 H3 scope ce fp) [] H' b := fun {σ' H' s'} I' hn b hb =>
    ⟨hn b hb, (I'.ok.exf b hb).1, I'.ok.exfs b hb, .inl hb, fun x c e => (I'.ok.exf b hb).2 x c e, fun p hp => absurd (show p ∈ ([] : List (Addr × Obj)) ++ [] from hp) (by simp)⟩
  have loop : codeAny (model X.prog X.w) X.A (.compLoop (.ListComp elt [⟨tg, iter, [], 0⟩] scope pos) 0 (.ref it) (.ref D) ce) (compEnds (model X.prog X.w) X.A X.xe none (EP X pins σ Q) (.ref D) ce) s4 := by
    refine compLoop_any (fun n s' => ∃ i H', Inv (blkX X s3 H3 scope ce fp) [] (wipe σ (own.map (·.2))) H' s' ∧ tn i s'.heap ∧ (∀ b ∈ fp, H' b = none) ∧ W i n H') ?_ m0 ⟨0, H3, I4, st4, nfp, w0⟩
    rintro n s5 ⟨i, H5, I5, st5, n5, w5⟩
    rcases turn i n H5 w5 with ⟨stop, qq⟩ | ⟨go, Nx, hNx, step⟩
    · refine thnF (T.done (blkX X s3 H3 scope ce fp) rfl rfl rfl hc i [] s5 _ H5 (fun _ _ => False) I5 (stat I5 n5) st5 stop) fun r s6 hr6 => ?_
      obtain ⟨hr, I6⟩ := hr6
      subst hr
      have I7 : Inv X pins σ H5 s6 := I3.call' (ch := fp) I6.os I6.base I6.hok I6.bare fun b hb => ⟨(f3 b hb).1.2.2.2.1, (f3 b hb).1.2.1, (f3 b hb).1.2.2.2.2.1, (f3 b hb).1.2.2.2.2.2⟩
      have nC : H5 s3.heap.objs.size = none := by
        have z : H5 ce.locals = none := I6.free
        rwa [cL] at z
      obtain ⟨m, hn, _⟩ := I6.loc
      have hn : s6.heap.Ns ce.locals m := hn
      refine ⟨m, hn, fun h'' sb => ?_⟩
      rw [cL] at sb
      obtain ⟨e0, e1, e2, e3, e4, e5⟩ := I3.fpOk (Nat.le_refl _) nC
      exact ⟨.ref D, H5, I7.turned (t' := s6.toks) (fun b o hb e => (sb.2 b hb).trans e) e0 e1 e3 e4 e5, rfl, qq⟩
    · refine thnF (T.item (blkX X s3 H3 scope ce fp) rfl rfl rfl hc i [] s5 _ H5 (fun _ _ => False) I5 (stat I5 n5) st5 go) fun r s6 hr6 => ?_
      obtain ⟨u, rfl, h6⟩ := hr6
      refine thnF h6 fun _ s7 h7 => ?_
      obtain ⟨x, H7, I7, r7, y7, st7, n7⟩ := h7
      have I7' := I7.pinned (stat I7 n7) (T.obj _ _ st7)
      refine thn (pg.run _ s7 _ H7 x u _ I7' r7 (step x H7 y7)) fun _ s8 h8 => ?_
      obtain ⟨σ8, H8, I8, hw8, q8⟩ := h8
      refine wpAny_tests_nil ?_
      rw [if_pos rfl]
      have q8 : te σ8 H8 fun y H4 => ∃ acc, H4 D = some (.lst acc) ∧ acc.length < sizeLine ∧ Nx (upd H4 D (.lst (acc ++ [y]))) := q8
      refine thn (pe.run _ s8 σ8 H8 _ I8 q8) fun z s10 h10 => ?_
      obtain ⟨yv, H10, I10, r10, acc, hD10, hz10, nx⟩ := h10
      refine app_ok (X := blkX X s3 H3 scope ce fp) I10 hD10 hz10 r10 fun s11 I11 => ?_
      obtain ⟨m', hm, w'⟩ := hNx _ nx
      have pin' : ∀ b ∈ fp, ∀ o, s7.heap.get? b = some o → s11.heap.get? b = some o ∧ upd H10 D (.lst (acc ++ [yv])) b = none := fun b hb o e => by
        obtain ⟨z1, z2, _⟩ := I11.pin (b, o) (List.mem_append_right _ (List.mem_append_right _ (mem_pinsAt hb e)))
        exact ⟨z1, z2⟩
      have hl : (wipe σ (own.map (·.2))).length = σ8.length := by rw [← hw8, wipe_length]
      refine ⟨m', hm, i + 1, _, (I11.unpinned (pins := [])).weak hl (fun j v e => ?_), T.keep _ _ _ st7 fun b hb o e => (pin' b hb o e).1, fun b hb => ?_, w'⟩
      · rw [← hw8] at e
        exact (wipe_some e).1
      · obtain ⟨o, e, _⟩ := T.obj _ _ st7 b hb
        exact (pin' b hb o e).2
  exact codeAny_compStart_list loop (T.self X.A 0 _ _ _ st4 loop)
end
end SealR
/-! SealR4: a lambda that leaves the def which makes it: its captured cells become known behind that def, and its call by whoever holds it. -/
namespace SealR
open PySem PySem.Spec PyProof.Rows L2 LamX NdefX

/-- the object at f is the lambda F with the body e -/
def LamO (f : Addr) (F : NF) (e : Expr) : HO := .ext fun h => ∃ (pm ctv : Value), h.get? f = some (PySem.W.kla_obj F.name F.qual F.params e F.scope F.cl pm F.c ctv)
/-- a cell of a frame that has been left, and what it holds -/
def CellO (c : Addr) (v : V) : HO := .ext fun h => ∃ u, L2.RelV v u ∧ h.IsCell c (some u)
theorem cellO_tbl {c : Addr} {v : V} : (∀ xs, CellO c v ≠ .tup xs) ∧ (∀ o u, CellO c v ≠ .frz o u) ∧ (∀ ps, CellO c v ≠ .tbl ps) ∧ (∀ a, CellO c v ≠ .own a) := by
  unfold CellO
  exact ⟨fun _ z => (by cases z), fun _ _ z => (by cases z), fun _ z => (by cases z), fun _ z => (by cases z)⟩
theorem cellO_ok {P : Program} {w : World} {H : Hp} {h : Heap} {c : Addr} {v : V} (x : ∃ u, L2.RelV v u ∧ h.IsCell c (some u)) : ObjOk P w H h c (CellO c v) := by
  refine ⟨x, ?_, fun h1 h2 ⟨u, r, o, e1, e2⟩ k => ⟨u, r, o, k o e1, e2⟩⟩
  obtain ⟨u, r, o, e1, e2⟩ := x
  exact ⟨o, e1⟩
theorem cellO_at {P : Program} {w : World} {H : Hp} {h : Heap} {c : Addr} {v : V} (x : ObjOk P w H h c (CellO c v)) : ∃ u, L2.RelV v u ∧ h.IsCell c (some u) := by
  obtain ⟨z, _, _⟩ := x
  exact z
theorem lamO_at {P : Program} {w : World} {H : Hp} {h : Heap} {f : Addr} {F : NF} {e : Expr} (x : ObjOk P w H h f (LamO f F e)) : ∃ (pm ctv : Value), h.get? f = some (PySem.W.kla_obj F.name F.qual F.params e F.scope F.cl pm F.c ctv) := by
  obtain ⟨z, _, _⟩ := x
  exact z
theorem lamO_ok {P : Program} {w : World} {H : Hp} {h : Heap} {f : Addr} {F : NF} {e : Expr} {pm ctv : Value} (x : h.get? f = some (PySem.W.kla_obj F.name F.qual F.params e F.scope F.cl pm F.c ctv)) : ObjOk P w H h f (LamO f F e) :=
  ⟨⟨pm, ctv, x⟩, ⟨_, x⟩, fun h1 h2 ⟨pm, ctv, e⟩ k => ⟨pm, ctv, k _ e⟩⟩

/-! ### hiding cells -/
def hid (cs : List Addr) (H : Hp) : Hp := fun b => if b ∈ cs then none else H b
def back (cs : List Addr) (H H' : Hp) : Hp := fun b => if b ∈ cs then H b else H' b
theorem hid_in {cs : List Addr} {H : Hp} {b : Addr} (h : b ∈ cs) : hid cs H b = none := if_pos h
theorem hid_out {cs : List Addr} {H : Hp} {b : Addr} (h : b ∉ cs) : hid cs H b = H b := if_neg h
theorem back_in {cs : List Addr} {H H' : Hp} {b : Addr} (h : b ∈ cs) : back cs H H' b = H b := if_pos h
theorem back_out {cs : List Addr} {H H' : Hp} {b : Addr} (h : b ∉ cs) : back cs H H' b = H' b := if_neg h
def CellsIn (cs : List Addr) (H : Hp) : Prop := ∀ c ∈ cs, ∃ v, H c = some (CellO c v)
section
variable {P : Program} {w : World} {K : PySem.W.Frag} {mg : Str → Option Value} {base : Heap} {A : Around} {outer : List Env} {s s' : Shared} {H H' : Hp} {cs : List Addr}
theorem not_cell {o : HO} {b : Addr} (C : CellsIn cs H) (e : H b = some o) (h : ∀ v, o ≠ CellO b v) : b ∉ cs := fun hb => by
  obtain ⟨v, e'⟩ := C b hb
  rw [e] at e'
  exact h v (Option.some.inj e')
theorem hid_ok (C : CellsIn cs H) (hok : HOk P w H s.heap) : HOk P w (hid cs H) s.heap := fun b o e => by
  have hb : b ∉ cs := fun z => by
    rw [hid_in z] at e
    cases e
  rw [hid_out hb] at e
  exact (hok b o e).stay (fun _ _ _ q => q) (fun d q => (hid_out (not_cell C q fun v z => cellO_tbl.2.2.2 _ z.symm)).trans q) fun d xs q => (hid_out (not_cell C q fun v z => cellO_tbl.1 _ z.symm)).trans q
theorem hid_none {b : Addr} (e : H b = none) : hid cs H b = none := by
  unfold hid
  split
  · rfl
  · exact e
theorem hid_env (C : CellsIn cs H) (e : Env0 P w K mg base A outer s H) : Env0 P w K mg base A outer s (hid cs H) :=
  ⟨e.frames, e.mod, fun b o q => ⟨(e.bs b o q).1, hid_none (e.bs b o q).2⟩, e.bsz, e.funs, fun b q => hid_none (e.frf b q), hid_ok C e.hok, e.bare⟩
theorem back_un (C : CellsIn cs H) (u : Un (frs outer) [] (hid cs H) H' s.heap s'.heap) : Un (frs outer) [] H (back cs H H') s.heap s'.heap := by
  have out : ∀ b, H b = none → b ∉ cs := fun b e z => by
    obtain ⟨v, e'⟩ := C b z
    rw [e] at e'
    cases e'
  refine ⟨fun b o e n => u.keep b o e (hid_none n), fun b o e n => u.slot b o e (hid_none n), fun b o e n hx => ?_, u.there, fun b xs e => ?_, fun b o v e => ?_, fun b ps e => ?_⟩
  · rw [back_out (out b n)]
    exact u.free b o e (hid_none n) hx
  · have nb := not_cell C e fun v z => cellO_tbl.1 _ z.symm
    rw [back_out nb]
    exact u.tups b xs ((hid_out nb).trans e)
  · have nb := not_cell C e fun v z => cellO_tbl.2.1 _ _ z.symm
    rw [back_out nb]
    exact u.frzs b o v ((hid_out nb).trans e)
  · have nb := not_cell C e fun v z => cellO_tbl.2.2.1 _ z.symm
    rw [back_out nb]
    exact u.tbls b ps ((hid_out nb).trans e)
theorem back_ok (C : CellsIn cs H) (frf : ∀ b ∈ frs outer, H b = none) (hok : HOk P w H s.heap) (hok' : HOk P w H' s'.heap) (u : Un (frs outer) [] (hid cs H) H' s.heap s'.heap) : HOk P w (back cs H H') s'.heap := fun b o e => by
  by_cases hb : b ∈ cs
  · rw [back_in hb] at e
    obtain ⟨v, e'⟩ := C b hb
    rw [e] at e'
    cases e'
    obtain ⟨uu, r, oo, e1, e2⟩ := cellO_at (hok b _ e)
    exact cellO_ok ⟨uu, r, oo, u.keep b oo e1 (hid_in hb) (fun z => by
      rw [frf b z] at e
      cases e) (by simp), e2⟩
  · rw [back_out hb] at e
    have n' : ∀ d ∈ cs, H' d = none := fun d hd => by
      obtain ⟨v, e'⟩ := C d hd
      obtain ⟨uu, r, oo, e1, e2⟩ := cellO_at (hok d _ e')
      exact u.free d oo e1 (hid_in hd) (by simp)
    have ob : ∀ d x, H' d = some x → d ∉ cs := fun d x q z => by
      rw [n' d z] at q
      cases q
    exact (hok' b o e).stay (fun _ _ _ q => q) (fun d q => (back_out (ob d _ q)).trans q) fun d xs q => (back_out (ob d _ q)).trans q
end

/-! ### the call -/
/-- what a closure's cells hold -/
structure CloAt (cl : List (Str × Addr)) (fr : List Str) (ws : List V) (H : Hp) : Prop where
  len : ws.length = fr.length
  all : ∀ p ∈ cl, ∃ v, H p.2 = some (CellO p.2 v)
  inj : ∀ x y c, cl.lookup x = some c → cl.lookup y = some c → x = y
  has : ∀ (i : Nat) (y : Str), fr[i]? = some y → ∃ c v, cl.lookup y = some c ∧ ws[i]? = some v ∧ H c = some (CellO c v)
section
variable {P : Program} {w : World} {K : PySem.W.Frag} {mg : Str → Option Value} {base : Heap} {cl : List (Str × Addr)} {fr ps N : List Str} {ws : List V} {H : Hp} {h : Heap}
theorem CloAt.cs (C : CloAt cl fr ws H) : CellsIn (cl.map (·.2)) H := fun c hc => by
  obtain ⟨p, hp, e⟩ := List.mem_map.mp hc
  obtain ⟨v, q⟩ := C.all p hp
  have e : p.2 = c := e
  rw [e] at q
  exact ⟨v, q⟩
theorem CloAt.cells (C : CloAt cl fr ws H) (ok : HOk P w H h) : CellsAt cl fr (ws.map some) h (hid (cl.map (·.2)) H) := by
  refine ⟨by rw [List.length_map]; exact C.len, fun y c e => ?_, C.inj, fun i y e => ?_⟩
  · have hm := PySem.mem_of_lookup e
    obtain ⟨v, hv⟩ := C.all _ hm
    obtain ⟨u, r, z⟩ := cellO_at (ok c _ hv)
    exact ⟨hid_in (List.mem_map.mpr ⟨_, hm, rfl⟩), some u, z⟩
  · obtain ⟨c, v, e1, e2, e3⟩ := C.has i y e
    refine ⟨c, e1, fun v' ev => ?_⟩
    rw [List.getElem?_map, e2] at ev
    have ev : some (some v) = some (some v') := ev
    cases ev
    exact cellO_at (ok c _ e3)
/-- its promise at one call -/
def CloRun (P : Program) (w : World) (K : PySem.W.Frag) (mg : Str → Option Value) (base : Heap) (k : Nat) (f : Addr) (vs : List V) (H : Hp) (Q : VK) : Prop :=
  ∀ (A : Around) (outer : List Env) (s : Shared) (us : List Value), Room k A → Env0 P w K mg base A outer s H → Vals vs us → codeAny (model P w) A (.call (.ref f) ⟨us, []⟩) (CR (L2.CX P w) outer P w H s Q E0) s
theorem CloRun.mono {k : Nat} {f : Addr} {vs : List V} {Q Q' : VK} (h : CloRun P w K mg base k f vs H Q) (q : ∀ v H', Q v H' → Q' v H') : CloRun P w K mg base k f vs H Q' := fun A outer s us hr e0 r =>
  codeAny_mono (h A outer s us hr e0 r) fun r s' z => by
    cases r with
    | error e =>
      obtain ⟨_, _, _, _, _, _, _, _, _, _, _, _, z⟩ := (show L2.CX P w outer H s E0 e s' from z)
      exact z.elim
    | ok fl =>
      cases fl with
      | ret u =>
        obtain ⟨v, H', h1, h2, h3, h4, h5, h6⟩ := (show CE outer P w H s Q u s' from z)
        exact ⟨v, H', h1, h2, h3, h4, h5, q v H' h6⟩
      | next => exact False.elim z
      | brk => exact False.elim z
      | cont => exact False.elim z
/-- THE CALL of a lambda whose frame has been left: its body as a term of rules -/
theorem lam_run {k : Nat} {F : NF} {e : Expr} {f : Addr} {vs : List V} {Q : VK} (S : NScope N ps fr F.scope) (hb : ∀ (pm ctv : Value) (us : List Value), us.length = ps.length → bindArgs (PySem.W.kla_fn F.name F.qual F.params e F.scope F.cl pm (.ref F.c) ctv) ⟨us, []⟩ = pure (ps.zip us))
    (hf : H f = some (LamO f F e)) (hc : H F.c = some (CodeO F.c F.qual)) (C : CloAt F.cl fr ws H) (hl : vs.length = ps.length)
    (hbody : ∀ (A : Around) (outer : List Env) (s : Shared), Room k (A.deeper (envF F f s.heap.objs.size)) → ∃ t, PE (ncx (L2.CX P w) P w K mg base N F f A outer s (hid (F.cl.map (·.2)) H) E0) e t ∧ t (startF N vs (ws.map some)) (hid (F.cl.map (·.2)) H) fun v H' => Q v (back (F.cl.map (·.2)) H H')) :
    CloRun P w K mg base (k + 1) f vs H Q := by
  intro A outer s us hr e0 r
  obtain ⟨pm, ctv, ho⟩ := lamO_at (e0.hok f _ hf)
  have hlim : s.heap.NoLimit := e0.mod.nolimit.keeps fun b o q => (e0.bs b o q).1
  have hlu : us.length = ps.length := by rw [← r.length]; exact hl
  have eC := hid_env C.cs e0
  have hcells := C.cells e0.hok
  refine PySem.W.kla_callFunE hr.depth ho rfl S.co S.gen rfl (codeO_at e0.hok hc) ?_
  rw [hb pm ctv us hlu]
  have hloc : ∀ y ∈ ps.zip us, F.scope.names.lookup y.1 = some .local := fun ⟨n, v⟩ hy => S.par n (List.of_mem_zip hy).1
  refine wpAny_pure (wpAny_newFunctionEnv S.nocell hloc (fun h₁ hns hsb => ⟨hlim.fresh _ hsb, ?_⟩) S.kind)
  show codeAny _ _ (.expr e (envF F f s.heap.objs.size)) _ _
  have kp : ∀ b o, s.heap.get? b = some o → h₁.get? b = some o := fun b o q => hsb.extBut b o (Nat.ne_of_lt (Heap.lt_size q)) (Heap.get?_push_of_some _ q)
  obtain ⟨t, ht, hq⟩ := hbody A outer s (hr.deeper _)
  have J : Inv (ncx (L2.CX P w) P w K mg base N F f A outer s (hid (F.cl.map (·.2)) H) E0) [] (startF N vs (ws.map some)) (hid (F.cl.map (·.2)) H) { s with heap := h₁, toks := s.toks + (ps.zip us).length } :=
    inv_startN S hr.hd eC hl r hcells hns kp
  refine PySem.W.kla_codeExpr (wpAny_mono (ht.run [] _ _ _ _ J hq) (fun v s' hq => ?_) fun e' s' hq => ?_)
  · obtain ⟨x, H', J', rv, q⟩ := hq
    have jb : Un (frs outer) [] (hid (F.cl.map (·.2)) H) H' s.heap s'.heap := J'.base
    exact ⟨x, back (F.cl.map (·.2)) H H', J'.os, J'.bare, back_un C.cs jb, back_ok C.cs e0.frf e0.hok J'.hok jb, rv, q⟩
  · refine wpAny_mono hq (fun _ s'' z => ?_) fun e'' s'' z => ?_
    · obtain ⟨_, _, _, _, _, _, _, _, _, _, _, _, z⟩ := (show L2.CX P w outer (hid (F.cl.map (·.2)) H) s E0 _ s'' from z)
      exact z.elim
    · obtain ⟨_, _, _, _, _, _, _, _, _, _, _, _, z⟩ := (show L2.CX P w outer (hid (F.cl.map (·.2)) H) s E0 _ s'' from z)
      exact z.elim
end
/-- f(e), f a local name that holds such a lambda -/
def tClo (P : Program) (w : World) (K : PySem.W.Frag) (mg : Str → Option Value) (base : Heap) (k i : Nat) (t : TA) : TE := fun σ H Q => ∃ f F e, σ[i]? = some (some (.ref f)) ∧ H f = some (LamO f F e) ∧
  t σ H fun vs H1 => H1 f = some (LamO f F e) ∧ CloRun P w K mg base k f vs H1 Q
section
variable {X : Cx} {i k : Nat} {x : Str} {t : TA} {e : Expr} {es : List Expr} {p pos : Pos}
theorem lamO_fn {pins : List (Addr × Obj)} {σ : L2.St} {H : Hp} {s : Shared} {f : Addr} {F : NF} {e : Expr} (I : Inv X pins σ H s) (h : H f = some (LamO f F e)) : PySem.W.FnAt f s.heap := by
  obtain ⟨pm, ctv, ho⟩ := lamO_at (I.hok f _ h)
  exact ⟨_, _, _, _, ho⟩
theorem pe_clo (hr : Room k X.A) (hN : X.N[i]? = some x) (hv : Vis X.env.scope x) (ha : PA X (e :: es) t)
    (hd : (x == ("__debug__" : Str)) = false := by decide) (hcd : (x == ("__classdict__" : Str)) = false := by decide)
    (he : starEach (e :: es) X.env = (false, eval e X.env) :: starEach es X.env := by rfl) (hpl : (backTo pos (starEach es X.env)).any (·.1) = false := by rfl) :
    PE X (.Call (.Name x p) (e :: es) [] pos) (tClo X.prog X.w X.K X.mg X.base k i t) := by
  refine ⟨fun pins s σ H Q I h => ?_⟩
  obtain ⟨f, F, b, hs, hf, ht⟩ := h
  refine wpAny_Call_Name_kw (thn ((pe_var (pos := p) hN hv hd hcd).run pins s σ H (fun v H1 => v = .ref f ∧ H1 = H) I ⟨.ref f, hs, rfl, rfl⟩) fun u s1 ⟨v, H1, I1, r1, q1⟩ => ?_)
  obtain ⟨ev, eH⟩ := q1
  subst ev
  rw [eH] at I1
  obtain rfl : u = Value.ref f := r1
  refine PySem.W.callWith_F (first := []) (lamO_fn I1 hf) (thn (ha.run pos pins s1 σ H _ I1 ht) fun us s2 ⟨vs, H2, I2, r, h1, q⟩ => ⟨lamO_fn I2 h1, ?_⟩) he hpl
  show wpAny _ _ (call (.ref f) us) _ _ _
  refine wpAny_call (codeAny_mono (q X.A X.stack s2 us hr I2.env0 r) fun r s' hq => ?_)
  cases r with
  | error e =>
    obtain ⟨_, _, _, _, _, _, _, _, _, _, _, _, z⟩ := (show L2.CX X.prog X.w X.stack H2 s2 E0 e s' from hq)
    exact z.elim
  | ok fl =>
    cases fl with
    | ret u => exact I2.after hq
    | next => exact False.elim hq
    | brk => exact False.elim hq
    | cont => exact False.elim hq
end

/-! ### the lambda made -/
def tLamM (P : Addr) (mk : Addr → NF) (body : Expr) (pos : Pos) : TE := fun σ H Q => H P = some (.tbl #[]) ∧
  ∀ f c' ps, H f = none → H c' = none → f ≠ c' → Q (.ref f) (upd (upd (upd H P (.tbl ps)) c' (CodeO c' (mk c').qual)) f (LamO f (mk c') body))
theorem pe_lam {X : Cx} {c P : Addr} {params : Arguments} {body : Expr} {scope : Scope} {pos : Pos} (TB : TabB X.base X.mg c P) (hcode : X.env.code = .ref c) (hdef : defaultsOf params X.env = ([], []))
    (hfree : ∀ y ∈ scope.names, y.2 = .free → X.env.scope.names.lookup y.1 = some .cell ∨ X.env.scope.names.lookup y.1 = some .free) :
    PE X (.Lambda params body scope pos) (tLamM P (fun c' => ⟨"<lambda>", X.env.qual ++ "<lambda>", params, [], scope, cloFrom X.env.cells scope.names [], c'⟩) body pos) := by
  refine ⟨fun pins s σ H Q I h => ?_⟩
  obtain ⟨hP, h⟩ := h
  have hP' : s.heap.get? P = some { cls := .none, data := .fields #[] } := I.hok P _ hP
  have hfr : ∀ y ∈ scope.names, y.2 = .free → ∃ c, X.env.cells.lookup y.1 = some c := fun y hy e => (hfree y hy e).elim (fun z => I.ok.has _ (.inl z)) fun z => I.ok.has _ (.inr z)
  have bP : s.heap.BuiltinsAt X.mg P := TB.bm.keeps I.bk
  refine PySem.W.kla_eval hdef (PySem.W.kla_makeFunction (mg := X.mg) (c := c) (P := P) (ps := #[]) (closure_ok hfr) I.ok.glob (I.mod.glob.keeps I.bk) hcode (TB.code.keeps I.bk) hP' True.intro (by simp [codeAmong]) TB.gP bP fun c' ctv h' tk hx hge hlt hrec htb => ?_)
  obtain ⟨c2, oc, vs, t, e2, hoc, hd, hv⟩ := hrec
  cases e2
  have nC : H c' = none := I.hok.fresh hge
  have I1 := inv_table (t' := tk) (more := #[rawInt pos.line, rawInt pos.col, .ref c']) (h' := h') I hP (fun b o hb e => hx b o hb e) htb hge ⟨oc, vs, t, hoc, hd, hv⟩
  have hsz : s.heap.objs.size ≤ h'.objs.size := Nat.le_trans hge (Nat.le_of_lt hlt)
  have nF : H h'.objs.size = none := I.hok.fresh hsz
  have I2 := I1.laid (a := h'.objs.size) (o := LamO h'.objs.size ⟨"<lambda>", X.env.qual ++ "<lambda>", params, [], scope, cloFrom X.env.cells scope.names [], c'⟩ body) (t' := tk)
    (h' := h'.push (PySem.W.kla_obj "<lambda>" (X.env.qual ++ "<lambda>") params body scope (cloFrom X.env.cells scope.names []) ((X.mg "__name__").getD .none) c' ctv)) (fun b u e => Heap.get?_push_of_some _ e) (Nat.le_refl _) (lamO_ok (Heap.get?_push_size _ rfl))
  exact ⟨.ref h'.objs.size, _, I2, rfl, h h'.objs.size c' _ nF nC (Nat.ne_of_gt hlt)⟩

/-! ### a def whose cells outlive it -/
def withCells (l : List (Addr × V)) (H : Hp) : Hp := fun b => match l.lookup b with
  | some v => some (CellO b v)
  | none => H b
theorem withCells_in {l : List (Addr × V)} {H : Hp} {b : Addr} {v : V} (h : l.lookup b = some v) : withCells l H b = some (CellO b v) := by
  unfold withCells
  rw [h]
theorem withCells_out {l : List (Addr × V)} {H : Hp} {b : Addr} (h : l.lookup b = none) : withCells l H b = H b := by
  unfold withCells
  rw [h]
theorem mem_look {α : Type} : ∀ {l : List (Addr × α)} {a : Addr} {v : α}, l.lookup a = some v → (a, v) ∈ l
  | [], _, _, h => by cases h
  | (b, u) :: r, a, v, h => by
    rw [List.lookup_cons] at h
    cases q : (a == b) with
    | true =>
      rw [q] at h
      rw [beq_iff_eq.mp q, Option.some.inj h]
      exact List.mem_cons_self
    | false =>
      rw [q] at h
      exact List.mem_cons_of_mem _ (mem_look h)
/-- a block that always returns; R of the answer, the slots and the heap at that point -/
def RAt (X : Cx) (body : List Stmt) (R : V → L2.St → Hp → Prop) (pins : List (Addr × Obj)) (σ : L2.St) (H : Hp) : Prop := ∀ s, Inv X pins σ H s →
  wpAny (model X.prog X.w) X.A (execs body X.env) (fun fl s' => ∃ v u σ' H', fl = .ret u ∧ Inv X pins σ' H' s' ∧ L2.RelV v u ∧ R v σ' H') X.xe s
section
variable {X : Cx} {st : Stmt} {rest a : List Stmt} {t : TS} {tc : TT} {te : TE} {c e : Expr} {pos : Pos} {R : V → L2.St → Hp → Prop} {pins : List (Addr × Obj)} {σ : L2.St} {H : Hp}
theorem rat_cons (hs : PS X st t) (h : t { nx := fun σ' H' => RAt X rest R pins σ' H', rt := fun _ _ => False } σ H) : RAt X (st :: rest) R pins σ H := fun s I => by
  refine wpAny_execs_cons (thn (hs.run pins s σ H _ I h) fun f s1 q => ?_)
  cases f with
  | next =>
    obtain ⟨σ', H', I', q⟩ := q
    exact q s1 I'
  | ret v =>
    obtain ⟨_, _, _, _, _, q⟩ := q
    exact q.elim
  | brk =>
    obtain ⟨_, _, _, q⟩ := q
    exact q.elim
  | cont =>
    obtain ⟨_, _, _, q⟩ := q
    exact q.elim
theorem rat_ret (he : PE X e te) (h : te σ H fun v H' => R v σ H') : RAt X [.Return (some e) pos] R pins σ H := fun s I =>
  wpAny_execs_cons (wpAny_Return_some (thn (he.run pins s σ H _ I h) fun u s1 ⟨v, H1, I1, r1, q1⟩ => ⟨v, u, σ, H1, rfl, I1, r1, q1⟩))
theorem rat_if (hc : PT X c tc) (h : tc σ H fun b H' => if b = true then RAt X a R pins σ H' else RAt X rest R pins σ H') : RAt X (.If c a [] pos :: rest) R pins σ H := fun s I => by
  refine wpAny_execs_cons (wpAny_If (thn (hc.run pins s σ H _ I h) fun d s1 ⟨H1, I1, q1⟩ => ?_))
  cases d with
  | true =>
    have q1 : RAt X a R pins σ H1 := q1
    refine wpAny_mono (q1 s1 I1) (fun fl s' hq => ?_) fun _ _ z => z
    obtain ⟨v, u, σ', H', e, I', r, q⟩ := hq
    subst e
    exact ⟨v, u, σ', H', rfl, I', r, q⟩
  | false =>
    have q1 : RAt X rest R pins σ H1 := q1
    exact wpAny_execs_nil (q1 s1 I1)
end
theorem fn_ofR {CX : CXT} {P : Program} {w : World} {K : PySem.W.Frag} {mg : Str → Option Value} {base : Heap} {k : Nat} {f : Addr} {name qual : Str} {params : Arguments} {body : List Stmt} {scope : Scope} {dV kV doc pm cdv ct oc : Value} {an od : Option Addr}
    {osl : Array (Option Value)} {N ps : List Str} {sp : Sp} (lk : K.lookup f = some ⟨oc, od, .func (PySem.W.fnOf name qual params body scope dV kV doc pm an cdv ct), osl⟩) (hcd : PySem.W.codeIn K cdv qual = true) (S : FnScope N ps scope)
    (len : ∀ vs H Q E, sp vs H Q E → vs.length = ps.length)
    (hbody : ∀ (A : Around) (outer : List Env) (s : Shared) (H : Hp) (vs : List V) (Q : VK) (E : XK), Room k (A.deeper (envOfC qual scope s.heap.objs.size f cdv)) → sp vs H Q E →
      RAt (cxOf CX P w K mg base N qual scope f cdv A outer s H E) body (fun v σ' H' => ∃ l : List (Addr × V),
        (∀ p ∈ l, ∃ (y : Str) (i : Nat), (envOfC qual scope s.heap.objs.size f cdv).cells.lookup y = some p.1 ∧ N[i]? = some y ∧ scope.names.lookup y = some .cell ∧ σ'[i]? = some (some p.2)) ∧ ((∀ p ∈ l, H' p.1 = none) → Q v (withCells l H'))) [] (L2.start N vs) H) :
    FnOk P w K mg base CX (k + 1) f (PySem.W.fnOf name qual params body scope dV kV doc pm an cdv ct) ps sp := by
  refine ⟨len, fun A outer s H args us vs Q E hr e0 hb r hsp => ?_⟩
  have hl := len _ _ _ _ hsp
  have KX : K.In s.heap := e0.mod.kin.keeps fun b o e => (e0.bs b o e).1
  have lim : s.heap.NoLimit := e0.mod.nolimit.keeps fun b o e => (e0.bs b o e).1
  have hkind : ∀ y ∈ ps.zip us, scope.names.lookup y.1 = some .local ∨ (scope.names.lookup y.1 = some .cell ∧ ((cellsFrom (s.heap.objs.size + 1) scope.names []).lookup y.1).isSome = true) := fun ⟨n, v⟩ hy => by
    rcases S.par n (List.of_mem_zip hy).1 with q | q
    · exact .inl q
    · exact .inr ⟨q, PySem.W.cellsFrom_some _ _ _ (.inl q)⟩
  refine codeAny_call_function hr.depth (KX _ _ lk) rfl S.co S.gen rfl (PySem.W.codeRec_of KX hcd) (hb _ _ _ _ ?_)
  refine wpAny_newFunctionEnv_cells S.kind hkind fun env he s1 x => ?_
  subst he
  refine ⟨lim.keeps x.toInCall.keep, codeAny_func ?_⟩
  have I : Inv (cxOf CX P w K mg base N qual scope f cdv A outer s H E) [] (L2.start N vs) H s1 := inv_start S hr.hd e0 hl r x
  refine wpAny_mono (hbody A outer s H vs Q E (hr.deeper _) hsp s1 I) (fun fl s' hs => ?_) fun e s' hs => hs
  obtain ⟨v, u, σ', H', ef, J, rv, l, hcl, q⟩ := hs
  subst ef
  have q := q fun p hp => by
    obtain ⟨y, i, e1, _⟩ := hcl p hp
    exact J.freeC y p.1 e1
  have facts : ∀ b z, l.lookup b = some z → (∃ u, L2.RelV z u ∧ s'.heap.IsCell b (some u)) ∧ s.heap.objs.size ≤ b ∧ H' b = none := fun b z e => by
    obtain ⟨y, i, e1, e2, e3, e4⟩ := hcl (b, z) (mem_look e)
    obtain ⟨m, hn, hlk⟩ := J.loc
    obtain ⟨u', r', look⟩ := hlk i y z e2 e4 (.inr (.inl e3))
    refine ⟨⟨u', r', ?_⟩, J.ok.cab y b rfl e1, J.freeC y b e1⟩
    rcases look with ⟨hk, _⟩ | ⟨_, c, hc, hcell⟩
    · have hk : scope.names.lookup y = some .local := hk
      rw [e3] at hk
      cases hk
    · have hc : (envOfC qual scope s.heap.objs.size f cdv).cells.lookup y = some c := hc
      rw [e1] at hc
      cases hc
      exact hcell
  have ub : Un (frs outer) [] H H' s.heap s'.heap := J.base
  have outS : ∀ b o, H' b = some o → l.lookup b = none := fun b o e => by
    cases q : l.lookup b with
    | none => rfl
    | some z =>
      rw [(facts b z q).2.2] at e
      cases e
  refine ⟨v, withCells l H', J.os, J.bare, ⟨ub.keep, ub.slot, fun b o e n hx => ?_, ub.there, fun b xs e => ?_, fun b o z e => ?_, fun b qs e => ?_⟩, fun b o e => ?_, rv, q⟩
  · have hb : l.lookup b = none := by
      cases q : l.lookup b with
      | none => rfl
      | some z => exact absurd (Heap.lt_size e) (Nat.not_lt_of_le (facts b z q).2.1)
    rw [withCells_out hb]
    exact ub.free b o e n hx
  · have e' := ub.tups b xs e
    rw [withCells_out (outS b _ e')]
    exact e'
  · have e' := ub.frzs b o z e
    rw [withCells_out (outS b _ e')]
    exact e'
  · obtain ⟨more, e'⟩ := ub.tbls b qs e
    refine ⟨more, ?_⟩
    rw [withCells_out (outS b _ e')]
    exact e'
  · cases q : l.lookup b with
    | some z =>
      rw [withCells_in q] at e
      cases e
      exact cellO_ok (facts b z q).1
    | none =>
      rw [withCells_out q] at e
      exact (J.hok b o e).stay (fun _ _ _ z => z) (fun d z => (withCells_out (outS d _ z)).trans z) fun d xs z => (withCells_out (outS d _ z)).trans z
end SealR
/-! SealF: the head's facts, each by its name. Printed by gen_facts.py. -/
namespace Seal
open PySem PySem.Spec PyProof.Rows L2
abbrev PR : Program := (PySem.Challenge.rw_sealroot_k34_whole_strange_slices).prog
/-- what every walk leans on -/
structure Fx (w : World) (K : PySem.W.Frag) (mg : Str → Option Value) (base : Heap) : Prop where
  kin : K.In base
  ns : base.Ns mainGlobals mg
  t : He.SaysT fa fn [] w K
  more : exB K = true
  hd : PySem.W.codeHdIn K (He.cT K ("_law_digest", none)).1 (He.cT K ("_law_digest", none)).2 = true
  tab : LamX.TabB base mg (He.cT K ("_law_digest", none)).1 (He.cT K ("_law_digest", none)).2
section
variable {w : World} {K : PySem.W.Frag} {mg : Str → Option Value} {base : Heap}
theorem Fx.fact (T : Fx w K mg base) (i : Nat) {f : He.Fa} (h : fa[i]? = some f) : f.ok K = true := T.t.d.fact i h
theorem Fx.g_is_key (T : Fx w K mg base) : mg "is_key" = some (.ref (He.ga K "is_key")) := He.glo_ok T.kin T.ns (T.fact 0 (f := .glo "is_key") rfl)
theorem Fx.g_is_value (T : Fx w K mg base) : mg "is_value" = some (.ref (He.ga K "is_value")) := He.glo_ok T.kin T.ns (T.fact 1 (f := .glo "is_value") rfl)
theorem Fx.g_is_number (T : Fx w K mg base) : mg "is_number" = some (.ref (He.ga K "is_number")) := He.glo_ok T.kin T.ns (T.fact 2 (f := .glo "is_number") rfl)
theorem Fx.g_need_key (T : Fx w K mg base) : mg "need_key" = some (.ref (He.ga K "need_key")) := He.glo_ok T.kin T.ns (T.fact 3 (f := .glo "need_key") rfl)
theorem Fx.g_are_kids (T : Fx w K mg base) : mg "are_kids" = some (.ref (He.ga K "are_kids")) := He.glo_ok T.kin T.ns (T.fact 4 (f := .glo "are_kids") rfl)
theorem Fx.g_is_tree (T : Fx w K mg base) : mg "is_tree" = some (.ref (He.ga K "is_tree")) := He.glo_ok T.kin T.ns (T.fact 5 (f := .glo "is_tree") rfl)
theorem Fx.g_need_tree (T : Fx w K mg base) : mg "need_tree" = some (.ref (He.ga K "need_tree")) := He.glo_ok T.kin T.ns (T.fact 6 (f := .glo "need_tree") rfl)
theorem Fx.g_part_of (T : Fx w K mg base) : mg "part_of" = some (.ref (He.ga K "part_of")) := He.glo_ok T.kin T.ns (T.fact 7 (f := .glo "part_of") rfl)
theorem Fx.g_kid_of (T : Fx w K mg base) : mg "kid_of" = some (.ref (He.ga K "kid_of")) := He.glo_ok T.kin T.ns (T.fact 8 (f := .glo "kid_of") rfl)
theorem Fx.g_written (T : Fx w K mg base) : mg "written" = some (.ref (He.ga K "written")) := He.glo_ok T.kin T.ns (T.fact 9 (f := .glo "written") rfl)
theorem Fx.g_text_of (T : Fx w K mg base) : mg "text_of" = some (.ref (He.ga K "text_of")) := He.glo_ok T.kin T.ns (T.fact 10 (f := .glo "text_of") rfl)
theorem Fx.g_number_of (T : Fx w K mg base) : mg "number_of" = some (.ref (He.ga K "number_of")) := He.glo_ok T.kin T.ns (T.fact 11 (f := .glo "number_of") rfl)
theorem Fx.g_clash_in (T : Fx w K mg base) : mg "clash_in" = some (.ref (He.ga K "clash_in")) := He.glo_ok T.kin T.ns (T.fact 12 (f := .glo "clash_in") rfl)
theorem Fx.g_need_ends (T : Fx w K mg base) : mg "need_ends" = some (.ref (He.ga K "need_ends")) := He.glo_ok T.kin T.ns (T.fact 13 (f := .glo "need_ends") rfl)
theorem Fx.g_may_hold (T : Fx w K mg base) : mg "may_hold" = some (.ref (He.ga K "may_hold")) := He.glo_ok T.kin T.ns (T.fact 14 (f := .glo "may_hold") rfl)
theorem Fx.g_range_of (T : Fx w K mg base) : mg "range_of" = some (.ref (He.ga K "range_of")) := He.glo_ok T.kin T.ns (T.fact 15 (f := .glo "range_of") rfl)
theorem Fx.g_need_root (T : Fx w K mg base) : mg "need_root" = some (.ref (He.ga K "need_root")) := He.glo_ok T.kin T.ns (T.fact 16 (f := .glo "need_root") rfl)
theorem Fx.g_range_told (T : Fx w K mg base) : mg "range_told" = some (.ref (He.ga K "range_told")) := He.glo_ok T.kin T.ns (T.fact 17 (f := .glo "range_told") rfl)
theorem Fx.g_seen_texts (T : Fx w K mg base) : mg "seen_texts" = some (.ref (He.ga K "seen_texts")) := He.glo_ok T.kin T.ns (T.fact 18 (f := .glo "seen_texts") rfl)
theorem Fx.g__law_begun (T : Fx w K mg base) : mg "_law_begun" = some (.ref (He.ga K "_law_begun")) := He.glo_ok T.kin T.ns (T.fact 19 (f := .glo "_law_begun") rfl)
theorem Fx.g__law_draw (T : Fx w K mg base) : mg "_law_draw" = some (.ref (He.ga K "_law_draw")) := He.glo_ok T.kin T.ns (T.fact 20 (f := .glo "_law_draw") rfl)
theorem Fx.g__law_key (T : Fx w K mg base) : mg "_law_key" = some (.ref (He.ga K "_law_key")) := He.glo_ok T.kin T.ns (T.fact 21 (f := .glo "_law_key") rfl)
theorem Fx.g__law_value (T : Fx w K mg base) : mg "_law_value" = some (.ref (He.ga K "_law_value")) := He.glo_ok T.kin T.ns (T.fact 22 (f := .glo "_law_value") rfl)
theorem Fx.g__law_content (T : Fx w K mg base) : mg "_law_content" = some (.ref (He.ga K "_law_content")) := He.glo_ok T.kin T.ns (T.fact 23 (f := .glo "_law_content") rfl)
theorem Fx.g__law_told (T : Fx w K mg base) : mg "_law_told" = some (.ref (He.ga K "_law_told")) := He.glo_ok T.kin T.ns (T.fact 24 (f := .glo "_law_told") rfl)
theorem Fx.g__law_part (T : Fx w K mg base) : mg "_law_part" = some (.ref (He.ga K "_law_part")) := He.glo_ok T.kin T.ns (T.fact 25 (f := .glo "_law_part") rfl)
theorem Fx.g__law_text (T : Fx w K mg base) : mg "_law_text" = some (.ref (He.ga K "_law_text")) := He.glo_ok T.kin T.ns (T.fact 26 (f := .glo "_law_text") rfl)
theorem Fx.g__law_number (T : Fx w K mg base) : mg "_law_number" = some (.ref (He.ga K "_law_number")) := He.glo_ok T.kin T.ns (T.fact 27 (f := .glo "_law_number") rfl)
theorem Fx.g__law_shown (T : Fx w K mg base) : mg "_law_shown" = some (.ref (He.ga K "_law_shown")) := He.glo_ok T.kin T.ns (T.fact 28 (f := .glo "_law_shown") rfl)
theorem Fx.g__law_digest (T : Fx w K mg base) : mg "_law_digest" = some (.ref (He.ga K "_law_digest")) := He.glo_ok T.kin T.ns (T.fact 29 (f := .glo "_law_digest") rfl)
theorem Fx.g__law_bound (T : Fx w K mg base) : mg "_law_bound" = some (.ref (He.ga K "_law_bound")) := He.glo_ok T.kin T.ns (T.fact 30 (f := .glo "_law_bound") rfl)
theorem Fx.g__law_bounds (T : Fx w K mg base) : mg "_law_bounds" = some (.ref (He.ga K "_law_bounds")) := He.glo_ok T.kin T.ns (T.fact 31 (f := .glo "_law_bounds") rfl)
theorem Fx.g__law_rows (T : Fx w K mg base) : mg "_law_rows" = some (.ref (He.ga K "_law_rows")) := He.glo_ok T.kin T.ns (T.fact 32 (f := .glo "_law_rows") rfl)
theorem Fx.g__law_could (T : Fx w K mg base) : mg "_law_could" = some (.ref (He.ga K "_law_could")) := He.glo_ok T.kin T.ns (T.fact 33 (f := .glo "_law_could") rfl)
theorem Fx.g__law_is_clash (T : Fx w K mg base) : mg "_law_is_clash" = some (.ref (He.ga K "_law_is_clash")) := He.glo_ok T.kin T.ns (T.fact 34 (f := .glo "_law_is_clash") rfl)
theorem Fx.g__law_ways (T : Fx w K mg base) : mg "_law_ways" = some (.ref (He.ga K "_law_ways")) := He.glo_ok T.kin T.ns (T.fact 35 (f := .glo "_law_ways") rfl)
theorem Fx.g__law_lack (T : Fx w K mg base) : mg "_law_lack" = some (.ref (He.ga K "_law_lack")) := He.glo_ok T.kin T.ns (T.fact 36 (f := .glo "_law_lack") rfl)
theorem Fx.g__law_changed (T : Fx w K mg base) : mg "_law_changed" = some (.ref (He.ga K "_law_changed")) := He.glo_ok T.kin T.ns (T.fact 37 (f := .glo "_law_changed") rfl)
theorem Fx.g__law_spoilt (T : Fx w K mg base) : mg "_law_spoilt" = some (.ref (He.ga K "_law_spoilt")) := He.glo_ok T.kin T.ns (T.fact 38 (f := .glo "_law_spoilt") rfl)
theorem Fx.g__law_made (T : Fx w K mg base) : mg "_law_made" = some (.ref (He.ga K "_law_made")) := He.glo_ok T.kin T.ns (T.fact 39 (f := .glo "_law_made") rfl)
theorem Fx.g__law_asked (T : Fx w K mg base) : mg "_law_asked" = some (.ref (He.ga K "_law_asked")) := He.glo_ok T.kin T.ns (T.fact 40 (f := .glo "_law_asked") rfl)
theorem Fx.g__law_right (T : Fx w K mg base) : mg "_law_right" = some (.ref (He.ga K "_law_right")) := He.glo_ok T.kin T.ns (T.fact 41 (f := .glo "_law_right") rfl)
theorem Fx.g_law (T : Fx w K mg base) : mg "law" = some (.ref (He.ga K "law")) := He.glo_ok T.kin T.ns (T.fact 42 (f := .glo "law") rfl)
theorem Fx.g_BadNode (T : Fx w K mg base) : mg "BadNode" = some (.ref (He.ga K "BadNode")) := He.glo_ok T.kin T.ns (T.fact 43 (f := .glo "BadNode") rfl)
theorem Fx.g_Unseen (T : Fx w K mg base) : mg "Unseen" = some (.ref (He.ga K "Unseen")) := He.glo_ok T.kin T.ns (T.fact 44 (f := .glo "Unseen") rfl)
theorem Fx.g_NoRoot (T : Fx w K mg base) : mg "NoRoot" = some (.ref (He.ga K "NoRoot")) := He.glo_ok T.kin T.ns (T.fact 45 (f := .glo "NoRoot") rfl)
theorem Fx.g_Part (T : Fx w K mg base) : mg "Part" = some (.ref (He.ga K "Part")) := He.glo_ok T.kin T.ns (T.fact 46 (f := .glo "Part") rfl)
theorem Fx.g_Node (T : Fx w K mg base) : mg "Node" = some (.ref (He.ga K "Node")) := He.glo_ok T.kin T.ns (T.fact 47 (f := .glo "Node") rfl)
theorem Fx.g_Stub (T : Fx w K mg base) : mg "Stub" = some (.ref (He.ga K "Stub")) := He.glo_ok T.kin T.ns (T.fact 48 (f := .glo "Stub") rfl)
theorem Fx.g_Between (T : Fx w K mg base) : mg "Between" = some (.ref (He.ga K "Between")) := He.glo_ok T.kin T.ns (T.fact 49 (f := .glo "Between") rfl)
theorem Fx.f_isinstance (T : Fx w K mg base) : mg "isinstance" = none := He.free_ok T.kin T.ns (T.fact 50 (f := .free "isinstance") rfl)
theorem Fx.f_len (T : Fx w K mg base) : mg "len" = none := He.free_ok T.kin T.ns (T.fact 51 (f := .free "len") rfl)
theorem Fx.f_all (T : Fx w K mg base) : mg "all" = none := He.free_ok T.kin T.ns (T.fact 52 (f := .free "all") rfl)
theorem Fx.f_str (T : Fx w K mg base) : mg "str" = none := He.free_ok T.kin T.ns (T.fact 53 (f := .free "str") rfl)
theorem Fx.f_int (T : Fx w K mg base) : mg "int" = none := He.free_ok T.kin T.ns (T.fact 54 (f := .free "int") rfl)
theorem Fx.f_bool (T : Fx w K mg base) : mg "bool" = none := He.free_ok T.kin T.ns (T.fact 55 (f := .free "bool") rfl)
theorem Fx.f_list (T : Fx w K mg base) : mg "list" = none := He.free_ok T.kin T.ns (T.fact 56 (f := .free "list") rfl)
theorem Fx.f_tuple (T : Fx w K mg base) : mg "tuple" = none := He.free_ok T.kin T.ns (T.fact 57 (f := .free "tuple") rfl)
theorem Fx.f_set (T : Fx w K mg base) : mg "set" = none := He.free_ok T.kin T.ns (T.fact 58 (f := .free "set") rfl)
theorem Fx.f_sorted (T : Fx w K mg base) : mg "sorted" = none := He.free_ok T.kin T.ns (T.fact 59 (f := .free "sorted") rfl)
theorem Fx.f_min (T : Fx w K mg base) : mg "min" = none := He.free_ok T.kin T.ns (T.fact 60 (f := .free "min") rfl)
theorem Fx.f_max (T : Fx w K mg base) : mg "max" = none := He.free_ok T.kin T.ns (T.fact 61 (f := .free "max") rfl)
theorem Fx.f_sum (T : Fx w K mg base) : mg "sum" = none := He.free_ok T.kin T.ns (T.fact 62 (f := .free "sum") rfl)
theorem Fx.f_abs (T : Fx w K mg base) : mg "abs" = none := He.free_ok T.kin T.ns (T.fact 63 (f := .free "abs") rfl)
theorem Fx.f_range (T : Fx w K mg base) : mg "range" = none := He.free_ok T.kin T.ns (T.fact 64 (f := .free "range") rfl)
theorem Fx.f_enumerate (T : Fx w K mg base) : mg "enumerate" = none := He.free_ok T.kin T.ns (T.fact 65 (f := .free "enumerate") rfl)
theorem Fx.f_ord (T : Fx w K mg base) : mg "ord" = none := He.free_ok T.kin T.ns (T.fact 66 (f := .free "ord") rfl)
theorem Fx.v_LETTERS (T : Fx w K mg base) : ∃ u, mg "LETTERS" = some u ∧ L2.RelV (.str "abcdefghijklmnopqrstuvwxyz") u := by
  obtain ⟨t, e⟩ := He.str_ok T.kin T.ns (T.fact 67 (f := .str "LETTERS" "abcdefghijklmnopqrstuvwxyz") rfl)
  exact ⟨_, e, t, rfl⟩
theorem Fx.v_MOST_LETTERS (T : Fx w K mg base) : ∃ u, mg "MOST_LETTERS" = some u ∧ L2.RelV (.int 8) u := by
  obtain ⟨t, e⟩ := He.int_ok T.kin T.ns (T.fact 68 (f := .int "MOST_LETTERS" 8) rfl)
  exact ⟨_, e, t, rfl⟩
theorem Fx.v_MOST_SIGNS (T : Fx w K mg base) : ∃ u, mg "MOST_SIGNS" = some u ∧ L2.RelV (.int 40) u := by
  obtain ⟨t, e⟩ := He.int_ok T.kin T.ns (T.fact 69 (f := .int "MOST_SIGNS" 40) rfl)
  exact ⟨_, e, t, rfl⟩
theorem Fx.v_MOST_NUMBER (T : Fx w K mg base) : ∃ u, mg "MOST_NUMBER" = some u ∧ L2.RelV (.int 1000000000000000000000000000000) u := by
  obtain ⟨t, e⟩ := He.int_ok T.kin T.ns (T.fact 70 (f := .int "MOST_NUMBER" 1000000000000000000000000000000) rfl)
  exact ⟨_, e, t, rfl⟩
theorem Fx.v_FIRST (T : Fx w K mg base) : ∃ u, mg "FIRST" = some u ∧ L2.RelV (.str "") u := by
  obtain ⟨t, e⟩ := He.str_ok T.kin T.ns (T.fact 71 (f := .str "FIRST" "") rfl)
  exact ⟨_, e, t, rfl⟩
theorem Fx.c_Node (T : Fx w K mg base) : Cls K (He.ga K "Node") := He.cls_ok (T.fact 72 (f := .cls "Node") rfl)
theorem Fx.c_Stub (T : Fx w K mg base) : Cls K (He.ga K "Stub") := He.cls_ok (T.fact 73 (f := .cls "Stub") rfl)
theorem Fx.c_Between (T : Fx w K mg base) : Cls K (He.ga K "Between") := He.cls_ok (T.fact 74 (f := .cls "Between") rfl)
theorem Fx.n_Node_stem (T : Fx w K mg base) : NoAttr K (He.ga K "Node") "stem" := He.noat_ok (T.fact 75 (f := .noat "Node" "stem") rfl)
theorem Fx.n_Node_value (T : Fx w K mg base) : NoAttr K (He.ga K "Node") "value" := He.noat_ok (T.fact 76 (f := .noat "Node" "value") rfl)
theorem Fx.n_Node_kids (T : Fx w K mg base) : NoAttr K (He.ga K "Node") "kids" := He.noat_ok (T.fact 77 (f := .noat "Node" "kids") rfl)
theorem Fx.n_Stub_number (T : Fx w K mg base) : NoAttr K (He.ga K "Stub") "number" := He.noat_ok (T.fact 78 (f := .noat "Stub" "number") rfl)
theorem Fx.n_Between_low (T : Fx w K mg base) : NoAttr K (He.ga K "Between") "low" := He.noat_ok (T.fact 79 (f := .noat "Between" "low") rfl)
theorem Fx.n_Between_high (T : Fx w K mg base) : NoAttr K (He.ga K "Between") "high" := He.noat_ok (T.fact 80 (f := .noat "Between" "high") rfl)
theorem Fx.n_Between_most (T : Fx w K mg base) : NoAttr K (He.ga K "Between") "most" := He.noat_ok (T.fact 81 (f := .noat "Between" "most") rfl)
theorem Fx.n_Between_found (T : Fx w K mg base) : NoAttr K (He.ga K "Between") "found" := He.noat_ok (T.fact 82 (f := .noat "Between" "found") rfl)
theorem Fx.n_Between_ways (T : Fx w K mg base) : NoAttr K (He.ga K "Between") "ways" := He.noat_ok (T.fact 83 (f := .noat "Between" "ways") rfl)
theorem Fx.m_Node_start (T : Fx w K mg base) : Meth K (He.ga K "Node") "start" (He.ma K (He.ga K "Node") "start") := He.meth_ok (T.fact 84 (f := .meth "Node" "start") rfl)
theorem Fx.m_Node_height (T : Fx w K mg base) : Meth K (He.ga K "Node") "height" (He.ma K (He.ga K "Node") "height") := He.meth_ok (T.fact 85 (f := .meth "Node" "height") rfl)
theorem Fx.m_Node_all_nodes (T : Fx w K mg base) : Meth K (He.ga K "Node") "all_nodes" (He.ma K (He.ga K "Node") "all_nodes") := He.meth_ok (T.fact 86 (f := .meth "Node" "all_nodes") rfl)
theorem Fx.m_Stub_height (T : Fx w K mg base) : Meth K (He.ga K "Stub") "height" (He.ma K (He.ga K "Stub") "height") := He.meth_ok (T.fact 87 (f := .meth "Stub" "height") rfl)
theorem Fx.m_Stub_all_nodes (T : Fx w K mg base) : Meth K (He.ga K "Stub") "all_nodes" (He.ma K (He.ga K "Stub") "all_nodes") := He.meth_ok (T.fact 88 (f := .meth "Stub" "all_nodes") rfl)
theorem Fx.m_Between_is_full (T : Fx w K mg base) : Meth K (He.ga K "Between") "is_full" (He.ma K (He.ga K "Between") "is_full") := He.meth_ok (T.fact 89 (f := .meth "Between" "is_full") rfl)
theorem Fx.m_Between_go_into (T : Fx w K mg base) : Meth K (He.ga K "Between") "go_into" (He.ma K (He.ga K "Between") "go_into") := He.meth_ok (T.fact 90 (f := .meth "Between" "go_into") rfl)
theorem Fx.k_Node (T : Fx w K mg base) : Mk K (He.ga K "Node") (He.ma K (He.ga K "Node") "__init__") := He.mkr_ok (T.fact 91 (f := .mkr "Node") rfl)
theorem Fx.k_Stub (T : Fx w K mg base) : Mk K (He.ga K "Stub") (He.ma K (He.ga K "Stub") "__init__") := He.mkr_ok (T.fact 92 (f := .mkr "Stub") rfl)
theorem Fx.k_Between (T : Fx w K mg base) : Mk K (He.ga K "Between") (He.ma K (He.ga K "Between") "__init__") := He.mkr_ok (T.fact 93 (f := .mkr "Between") rfl)
theorem Fx.x_BadNode (T : Fx w K mg base) : PySem.W.excIn K (He.ga K "BadNode") He.veBase "ValueError.__new__" = true ∧ PySem.W.keepIn K (.ref (He.ga K "BadNode")) = true ∧ PySem.W.subIn K (.ref (He.ga K "BadNode")) (.type "BaseException") = some true ∧ PySem.W.typeIn K (.ref (He.ga K "BadNode")) = some (.type "type") := He.exc_ok (T.fact 94 (f := .exc "BadNode") rfl)
theorem Fx.e_BadNode_BadNode (T : Fx w K mg base) : PySem.W.exmOne K (.ref (He.ga K "BadNode")) (.ref (He.ga K "BadNode")) = some true := He.exm_ok (T.fact 95 (f := .exm "BadNode" "BadNode" true) rfl)
theorem Fx.e_NoRoot_NoRoot (T : Fx w K mg base) : PySem.W.exmOne K (.ref (He.ga K "NoRoot")) (.ref (He.ga K "NoRoot")) = some true := He.exm_ok (T.fact 96 (f := .exm "NoRoot" "NoRoot" true) rfl)
theorem Fx.e_Unseen_NoRoot (T : Fx w K mg base) : PySem.W.exmOne K (.ref (He.ga K "Unseen")) (.ref (He.ga K "NoRoot")) = some false := He.exm_ok (T.fact 97 (f := .exm "Unseen" "NoRoot" false) rfl)
theorem Fx.e_Unseen_Unseen (T : Fx w K mg base) : PySem.W.exmOne K (.ref (He.ga K "Unseen")) (.ref (He.ga K "Unseen")) = some true := He.exm_ok (T.fact 98 (f := .exm "Unseen" "Unseen" true) rfl)
theorem Fx.i_Unseen_init (T : Fx w K mg base) : ∃ fd, FunD K d_Unseen_init.name d_Unseen_init.qual d_Unseen_init.params d_Unseen_init.body d_Unseen_init.scope (d_Unseen_init.dvs K) (d_Unseen_init.kws K) (He.fAd K d_Unseen_init.at_) fd := T.t.d.def_ 0 (d := d_Unseen_init) rfl
theorem Fx.i_NoRoot_init (T : Fx w K mg base) : ∃ fd, FunD K d_NoRoot_init.name d_NoRoot_init.qual d_NoRoot_init.params d_NoRoot_init.body d_NoRoot_init.scope (d_NoRoot_init.dvs K) (d_NoRoot_init.kws K) (He.fAd K d_NoRoot_init.at_) fd := T.t.d.def_ 1 (d := d_NoRoot_init) rfl
theorem Fx.i_is_key (T : Fx w K mg base) : ∃ fd, FunD K d_is_key.name d_is_key.qual d_is_key.params d_is_key.body d_is_key.scope (d_is_key.dvs K) (d_is_key.kws K) (He.fAd K d_is_key.at_) fd := T.t.d.def_ 2 (d := d_is_key) rfl
theorem Fx.i_is_value (T : Fx w K mg base) : ∃ fd, FunD K d_is_value.name d_is_value.qual d_is_value.params d_is_value.body d_is_value.scope (d_is_value.dvs K) (d_is_value.kws K) (He.fAd K d_is_value.at_) fd := T.t.d.def_ 3 (d := d_is_value) rfl
theorem Fx.i_is_number (T : Fx w K mg base) : ∃ fd, FunD K d_is_number.name d_is_number.qual d_is_number.params d_is_number.body d_is_number.scope (d_is_number.dvs K) (d_is_number.kws K) (He.fAd K d_is_number.at_) fd := T.t.d.def_ 4 (d := d_is_number) rfl
theorem Fx.i_need_key (T : Fx w K mg base) : ∃ fd, FunD K d_need_key.name d_need_key.qual d_need_key.params d_need_key.body d_need_key.scope (d_need_key.dvs K) (d_need_key.kws K) (He.fAd K d_need_key.at_) fd := T.t.d.def_ 5 (d := d_need_key) rfl
theorem Fx.i_Node_init (T : Fx w K mg base) : ∃ fd, FunD K d_Node_init.name d_Node_init.qual d_Node_init.params d_Node_init.body d_Node_init.scope (d_Node_init.dvs K) (d_Node_init.kws K) (He.fAd K d_Node_init.at_) fd := T.t.d.def_ 6 (d := d_Node_init) rfl
theorem Fx.i_Node_start (T : Fx w K mg base) : ∃ fd, FunD K d_Node_start.name d_Node_start.qual d_Node_start.params d_Node_start.body d_Node_start.scope (d_Node_start.dvs K) (d_Node_start.kws K) (He.fAd K d_Node_start.at_) fd := T.t.d.def_ 7 (d := d_Node_start) rfl
theorem Fx.i_Node_height (T : Fx w K mg base) : ∃ fd, FunD K d_Node_height.name d_Node_height.qual d_Node_height.params d_Node_height.body d_Node_height.scope (d_Node_height.dvs K) (d_Node_height.kws K) (He.fAd K d_Node_height.at_) fd := T.t.d.def_ 8 (d := d_Node_height) rfl
theorem Fx.i_Node_all_nodes (T : Fx w K mg base) : ∃ fd, FunD K d_Node_all_nodes.name d_Node_all_nodes.qual d_Node_all_nodes.params d_Node_all_nodes.body d_Node_all_nodes.scope (d_Node_all_nodes.dvs K) (d_Node_all_nodes.kws K) (He.fAd K d_Node_all_nodes.at_) fd := T.t.d.def_ 9 (d := d_Node_all_nodes) rfl
theorem Fx.i_Stub_init (T : Fx w K mg base) : ∃ fd, FunD K d_Stub_init.name d_Stub_init.qual d_Stub_init.params d_Stub_init.body d_Stub_init.scope (d_Stub_init.dvs K) (d_Stub_init.kws K) (He.fAd K d_Stub_init.at_) fd := T.t.d.def_ 10 (d := d_Stub_init) rfl
theorem Fx.i_Stub_height (T : Fx w K mg base) : ∃ fd, FunD K d_Stub_height.name d_Stub_height.qual d_Stub_height.params d_Stub_height.body d_Stub_height.scope (d_Stub_height.dvs K) (d_Stub_height.kws K) (He.fAd K d_Stub_height.at_) fd := T.t.d.def_ 11 (d := d_Stub_height) rfl
theorem Fx.i_Stub_all_nodes (T : Fx w K mg base) : ∃ fd, FunD K d_Stub_all_nodes.name d_Stub_all_nodes.qual d_Stub_all_nodes.params d_Stub_all_nodes.body d_Stub_all_nodes.scope (d_Stub_all_nodes.dvs K) (d_Stub_all_nodes.kws K) (He.fAd K d_Stub_all_nodes.at_) fd := T.t.d.def_ 12 (d := d_Stub_all_nodes) rfl
theorem Fx.i_are_kids (T : Fx w K mg base) : ∃ fd, FunD K d_are_kids.name d_are_kids.qual d_are_kids.params d_are_kids.body d_are_kids.scope (d_are_kids.dvs K) (d_are_kids.kws K) (He.fAd K d_are_kids.at_) fd := T.t.d.def_ 13 (d := d_are_kids) rfl
theorem Fx.i_is_tree (T : Fx w K mg base) : ∃ fd, FunD K d_is_tree.name d_is_tree.qual d_is_tree.params d_is_tree.body d_is_tree.scope (d_is_tree.dvs K) (d_is_tree.kws K) (He.fAd K d_is_tree.at_) fd := T.t.d.def_ 14 (d := d_is_tree) rfl
theorem Fx.i_need_tree (T : Fx w K mg base) : ∃ fd, FunD K d_need_tree.name d_need_tree.qual d_need_tree.params d_need_tree.body d_need_tree.scope (d_need_tree.dvs K) (d_need_tree.kws K) (He.fAd K d_need_tree.at_) fd := T.t.d.def_ 15 (d := d_need_tree) rfl
theorem Fx.i_part_of (T : Fx w K mg base) : ∃ fd, FunD K d_part_of.name d_part_of.qual d_part_of.params d_part_of.body d_part_of.scope (d_part_of.dvs K) (d_part_of.kws K) (He.fAd K d_part_of.at_) fd := T.t.d.def_ 16 (d := d_part_of) rfl
theorem Fx.i_kid_of (T : Fx w K mg base) : ∃ fd, FunD K d_kid_of.name d_kid_of.qual d_kid_of.params d_kid_of.body d_kid_of.scope (d_kid_of.dvs K) (d_kid_of.kws K) (He.fAd K d_kid_of.at_) fd := T.t.d.def_ 17 (d := d_kid_of) rfl
theorem Fx.i_written (T : Fx w K mg base) : ∃ fd, FunD K d_written.name d_written.qual d_written.params d_written.body d_written.scope (d_written.dvs K) (d_written.kws K) (He.fAd K d_written.at_) fd := T.t.d.def_ 18 (d := d_written) rfl
theorem Fx.i_text_of (T : Fx w K mg base) : ∃ fd, FunD K d_text_of.name d_text_of.qual d_text_of.params d_text_of.body d_text_of.scope (d_text_of.dvs K) (d_text_of.kws K) (He.fAd K d_text_of.at_) fd := T.t.d.def_ 19 (d := d_text_of) rfl
theorem Fx.i_number_of (T : Fx w K mg base) : ∃ fd, FunD K d_number_of.name d_number_of.qual d_number_of.params d_number_of.body d_number_of.scope (d_number_of.dvs K) (d_number_of.kws K) (He.fAd K d_number_of.at_) fd := T.t.d.def_ 20 (d := d_number_of) rfl
theorem Fx.i_clash_in (T : Fx w K mg base) : ∃ fd, FunD K d_clash_in.name d_clash_in.qual d_clash_in.params d_clash_in.body d_clash_in.scope (d_clash_in.dvs K) (d_clash_in.kws K) (He.fAd K d_clash_in.at_) fd := T.t.d.def_ 21 (d := d_clash_in) rfl
theorem Fx.i_need_ends (T : Fx w K mg base) : ∃ fd, FunD K d_need_ends.name d_need_ends.qual d_need_ends.params d_need_ends.body d_need_ends.scope (d_need_ends.dvs K) (d_need_ends.kws K) (He.fAd K d_need_ends.at_) fd := T.t.d.def_ 22 (d := d_need_ends) rfl
theorem Fx.i_may_hold (T : Fx w K mg base) : ∃ fd, FunD K d_may_hold.name d_may_hold.qual d_may_hold.params d_may_hold.body d_may_hold.scope (d_may_hold.dvs K) (d_may_hold.kws K) (He.fAd K d_may_hold.at_) fd := T.t.d.def_ 23 (d := d_may_hold) rfl
theorem Fx.i_Between_init (T : Fx w K mg base) : ∃ fd, FunD K d_Between_init.name d_Between_init.qual d_Between_init.params d_Between_init.body d_Between_init.scope (d_Between_init.dvs K) (d_Between_init.kws K) (He.fAd K d_Between_init.at_) fd := T.t.d.def_ 24 (d := d_Between_init) rfl
theorem Fx.i_Between_is_full (T : Fx w K mg base) : ∃ fd, FunD K d_Between_is_full.name d_Between_is_full.qual d_Between_is_full.params d_Between_is_full.body d_Between_is_full.scope (d_Between_is_full.dvs K) (d_Between_is_full.kws K) (He.fAd K d_Between_is_full.at_) fd := T.t.d.def_ 25 (d := d_Between_is_full) rfl
theorem Fx.i_Between_go_into (T : Fx w K mg base) : ∃ fd, FunD K d_Between_go_into.name d_Between_go_into.qual d_Between_go_into.params d_Between_go_into.body d_Between_go_into.scope (d_Between_go_into.dvs K) (d_Between_go_into.kws K) (He.fAd K d_Between_go_into.at_) fd := T.t.d.def_ 26 (d := d_Between_go_into) rfl
theorem Fx.i_range_of (T : Fx w K mg base) : ∃ fd, FunD K d_range_of.name d_range_of.qual d_range_of.params d_range_of.body d_range_of.scope (d_range_of.dvs K) (d_range_of.kws K) (He.fAd K d_range_of.at_) fd := T.t.d.def_ 27 (d := d_range_of) rfl
theorem Fx.i_need_root (T : Fx w K mg base) : ∃ fd, FunD K d_need_root.name d_need_root.qual d_need_root.params d_need_root.body d_need_root.scope (d_need_root.dvs K) (d_need_root.kws K) (He.fAd K d_need_root.at_) fd := T.t.d.def_ 28 (d := d_need_root) rfl
theorem Fx.i_range_told (T : Fx w K mg base) : ∃ fd, FunD K d_range_told.name d_range_told.qual d_range_told.params d_range_told.body d_range_told.scope (d_range_told.dvs K) (d_range_told.kws K) (He.fAd K d_range_told.at_) fd := T.t.d.def_ 29 (d := d_range_told) rfl
theorem Fx.i_seen_texts (T : Fx w K mg base) : ∃ fd, FunD K d_seen_texts.name d_seen_texts.qual d_seen_texts.params d_seen_texts.body d_seen_texts.scope (d_seen_texts.dvs K) (d_seen_texts.kws K) (He.fAd K d_seen_texts.at_) fd := T.t.d.def_ 30 (d := d_seen_texts) rfl
theorem Fx.i__law_begun (T : Fx w K mg base) : ∃ fd, FunD K d__law_begun.name d__law_begun.qual d__law_begun.params d__law_begun.body d__law_begun.scope (d__law_begun.dvs K) (d__law_begun.kws K) (He.fAd K d__law_begun.at_) fd := T.t.d.def_ 31 (d := d__law_begun) rfl
theorem Fx.i__law_draw (T : Fx w K mg base) : ∃ fd, FunD K d__law_draw.name d__law_draw.qual d__law_draw.params d__law_draw.body d__law_draw.scope (d__law_draw.dvs K) (d__law_draw.kws K) (He.fAd K d__law_draw.at_) fd := T.t.d.def_ 32 (d := d__law_draw) rfl
theorem Fx.i__law_key (T : Fx w K mg base) : ∃ fd, FunD K d__law_key.name d__law_key.qual d__law_key.params d__law_key.body d__law_key.scope (d__law_key.dvs K) (d__law_key.kws K) (He.fAd K d__law_key.at_) fd := T.t.d.def_ 33 (d := d__law_key) rfl
theorem Fx.i__law_value (T : Fx w K mg base) : ∃ fd, FunD K d__law_value.name d__law_value.qual d__law_value.params d__law_value.body d__law_value.scope (d__law_value.dvs K) (d__law_value.kws K) (He.fAd K d__law_value.at_) fd := T.t.d.def_ 34 (d := d__law_value) rfl
theorem Fx.i__law_content (T : Fx w K mg base) : ∃ fd, FunD K d__law_content.name d__law_content.qual d__law_content.params d__law_content.body d__law_content.scope (d__law_content.dvs K) (d__law_content.kws K) (He.fAd K d__law_content.at_) fd := T.t.d.def_ 35 (d := d__law_content) rfl
theorem Fx.i__law_told (T : Fx w K mg base) : ∃ fd, FunD K d__law_told.name d__law_told.qual d__law_told.params d__law_told.body d__law_told.scope (d__law_told.dvs K) (d__law_told.kws K) (He.fAd K d__law_told.at_) fd := T.t.d.def_ 36 (d := d__law_told) rfl
theorem Fx.i__law_part (T : Fx w K mg base) : ∃ fd, FunD K d__law_part.name d__law_part.qual d__law_part.params d__law_part.body d__law_part.scope (d__law_part.dvs K) (d__law_part.kws K) (He.fAd K d__law_part.at_) fd := T.t.d.def_ 37 (d := d__law_part) rfl
theorem Fx.i__law_text (T : Fx w K mg base) : ∃ fd, FunD K d__law_text.name d__law_text.qual d__law_text.params d__law_text.body d__law_text.scope (d__law_text.dvs K) (d__law_text.kws K) (He.fAd K d__law_text.at_) fd := T.t.d.def_ 38 (d := d__law_text) rfl
theorem Fx.i__law_number (T : Fx w K mg base) : ∃ fd, FunD K d__law_number.name d__law_number.qual d__law_number.params d__law_number.body d__law_number.scope (d__law_number.dvs K) (d__law_number.kws K) (He.fAd K d__law_number.at_) fd := T.t.d.def_ 39 (d := d__law_number) rfl
theorem Fx.i__law_shown (T : Fx w K mg base) : ∃ fd, FunD K d__law_shown.name d__law_shown.qual d__law_shown.params d__law_shown.body d__law_shown.scope (d__law_shown.dvs K) (d__law_shown.kws K) (He.fAd K d__law_shown.at_) fd := T.t.d.def_ 40 (d := d__law_shown) rfl
theorem Fx.i__law_digest (T : Fx w K mg base) : ∃ fd, FunD K d__law_digest.name d__law_digest.qual d__law_digest.params d__law_digest.body d__law_digest.scope (d__law_digest.dvs K) (d__law_digest.kws K) (He.fAd K d__law_digest.at_) fd := T.t.d.def_ 41 (d := d__law_digest) rfl
theorem Fx.i__law_bound (T : Fx w K mg base) : ∃ fd, FunD K d__law_bound.name d__law_bound.qual d__law_bound.params d__law_bound.body d__law_bound.scope (d__law_bound.dvs K) (d__law_bound.kws K) (He.fAd K d__law_bound.at_) fd := T.t.d.def_ 42 (d := d__law_bound) rfl
theorem Fx.i__law_bounds (T : Fx w K mg base) : ∃ fd, FunD K d__law_bounds.name d__law_bounds.qual d__law_bounds.params d__law_bounds.body d__law_bounds.scope (d__law_bounds.dvs K) (d__law_bounds.kws K) (He.fAd K d__law_bounds.at_) fd := T.t.d.def_ 43 (d := d__law_bounds) rfl
theorem Fx.i__law_rows (T : Fx w K mg base) : ∃ fd, FunD K d__law_rows.name d__law_rows.qual d__law_rows.params d__law_rows.body d__law_rows.scope (d__law_rows.dvs K) (d__law_rows.kws K) (He.fAd K d__law_rows.at_) fd := T.t.d.def_ 44 (d := d__law_rows) rfl
theorem Fx.i__law_could (T : Fx w K mg base) : ∃ fd, FunD K d__law_could.name d__law_could.qual d__law_could.params d__law_could.body d__law_could.scope (d__law_could.dvs K) (d__law_could.kws K) (He.fAd K d__law_could.at_) fd := T.t.d.def_ 45 (d := d__law_could) rfl
theorem Fx.i__law_is_clash (T : Fx w K mg base) : ∃ fd, FunD K d__law_is_clash.name d__law_is_clash.qual d__law_is_clash.params d__law_is_clash.body d__law_is_clash.scope (d__law_is_clash.dvs K) (d__law_is_clash.kws K) (He.fAd K d__law_is_clash.at_) fd := T.t.d.def_ 46 (d := d__law_is_clash) rfl
theorem Fx.i__law_ways (T : Fx w K mg base) : ∃ fd, FunD K d__law_ways.name d__law_ways.qual d__law_ways.params d__law_ways.body d__law_ways.scope (d__law_ways.dvs K) (d__law_ways.kws K) (He.fAd K d__law_ways.at_) fd := T.t.d.def_ 47 (d := d__law_ways) rfl
theorem Fx.i__law_lack (T : Fx w K mg base) : ∃ fd, FunD K d__law_lack.name d__law_lack.qual d__law_lack.params d__law_lack.body d__law_lack.scope (d__law_lack.dvs K) (d__law_lack.kws K) (He.fAd K d__law_lack.at_) fd := T.t.d.def_ 48 (d := d__law_lack) rfl
theorem Fx.i__law_changed (T : Fx w K mg base) : ∃ fd, FunD K d__law_changed.name d__law_changed.qual d__law_changed.params d__law_changed.body d__law_changed.scope (d__law_changed.dvs K) (d__law_changed.kws K) (He.fAd K d__law_changed.at_) fd := T.t.d.def_ 49 (d := d__law_changed) rfl
theorem Fx.i__law_spoilt (T : Fx w K mg base) : ∃ fd, FunD K d__law_spoilt.name d__law_spoilt.qual d__law_spoilt.params d__law_spoilt.body d__law_spoilt.scope (d__law_spoilt.dvs K) (d__law_spoilt.kws K) (He.fAd K d__law_spoilt.at_) fd := T.t.d.def_ 50 (d := d__law_spoilt) rfl
theorem Fx.i__law_made (T : Fx w K mg base) : ∃ fd, FunD K d__law_made.name d__law_made.qual d__law_made.params d__law_made.body d__law_made.scope (d__law_made.dvs K) (d__law_made.kws K) (He.fAd K d__law_made.at_) fd := T.t.d.def_ 51 (d := d__law_made) rfl
theorem Fx.i__law_asked (T : Fx w K mg base) : ∃ fd, FunD K d__law_asked.name d__law_asked.qual d__law_asked.params d__law_asked.body d__law_asked.scope (d__law_asked.dvs K) (d__law_asked.kws K) (He.fAd K d__law_asked.at_) fd := T.t.d.def_ 52 (d := d__law_asked) rfl
theorem Fx.i__law_right (T : Fx w K mg base) : ∃ fd, FunD K d__law_right.name d__law_right.qual d__law_right.params d__law_right.body d__law_right.scope (d__law_right.dvs K) (d__law_right.kws K) (He.fAd K d__law_right.at_) fd := T.t.d.def_ 53 (d := d__law_right) rfl
theorem Fx.i_law (T : Fx w K mg base) : ∃ fd, FunD K d_law.name d_law.qual d_law.params d_law.body d_law.scope (d_law.dvs K) (d_law.kws K) (He.fAd K d_law.at_) fd := T.t.d.def_ 54 (d := d_law) rfl
/-! ### the further facts -/
theorem ba2 {a b : Bool} (h : (a && b) = true) : a = true ∧ b = true := Bool.and_eq_true_iff.mp h
structure Ex2 (K : PySem.W.Frag) : Prop where
  oU : oexB K "Unseen" = true
  oR : oexB K "NoRoot" = true
  iU : oexI K "Unseen" "way" = true
  iR : oexI K "NoRoot" "number" = true
  nN : insB K "Node" = true
  nS : insB K "Stub" = true
  sp : PySem.W.specialIn K (.builtin "object.__class__") "__get__" = some (some (.builtin "getset_descriptor.__get__"))
  tk : PySem.W.takesIn K (.builtin "object.__class__") = some true
  kNS : PySem.W.kitOne K (.ref (He.ga K "Node")) (.ref (He.ga K "Stub")) = some false
  kSS : PySem.W.kitOne K (.ref (He.ga K "Stub")) (.ref (He.ga K "Stub")) = some true
  kNP : PySem.W.kitOne K (.ref (He.ga K "Node")) (.ref (He.ga K "Part")) = some true
  kSP : PySem.W.kitOne K (.ref (He.ga K "Stub")) (.ref (He.ga K "Part")) = some true
theorem Fx.ex2 (T : Fx w K mg base) : Ex2 K := by
  obtain ⟨h1, h⟩ := ba2 T.more
  obtain ⟨h2, h⟩ := ba2 h
  obtain ⟨h3, h⟩ := ba2 h
  obtain ⟨h4, h⟩ := ba2 h
  obtain ⟨h5, h⟩ := ba2 h
  obtain ⟨h6, h⟩ := ba2 h
  obtain ⟨h7, h⟩ := ba2 h
  obtain ⟨h8, h⟩ := ba2 h
  obtain ⟨h9, h⟩ := ba2 h
  obtain ⟨h10, h⟩ := ba2 h
  obtain ⟨h11, h12⟩ := ba2 h
  exact ⟨h1, h2, h3, h4, h5, h6, of_decide_eq_true h7, of_decide_eq_true h8, of_decide_eq_true h9, of_decide_eq_true h10, of_decide_eq_true h11, of_decide_eq_true h12⟩
theorem oexB_ok {x : Str} (h : oexB K x = true) : OexC K (He.ga K x) := by
  obtain ⟨h1, h⟩ := ba2 h
  obtain ⟨h2, h⟩ := ba2 h
  obtain ⟨h3, h⟩ := ba2 h
  obtain ⟨h4, h5⟩ := ba2 h
  refine ⟨?_, He.eqO_ok h2, of_decide_eq_true h3, of_decide_eq_true h4, h5⟩
  split at h1
  · rename_i c dd cd sl ho
    split at h1
    · rename_i C' bm k0 k1 k2 k3 n k5 hm hs
      simp only [Bool.and_eq_true, beq_iff_eq, Bool.not_eq_true', decide_eq_true_eq] at h1
      obtain ⟨rfl, rfl, rfl, hdel, hdict, hbm⟩ := h1
      obtain ⟨nm, bs, mro, ns, qn, hd, sn, sub, ab, col, del⟩ := cd
      dsimp only at hm hdel hdict
      subst hm hdel hdict
      have hsl : sl = #[k0, k1, k2, k3, some (.builtin "ValueError.__new__"), k5] := by
        obtain ⟨l⟩ := sl
        simp only at hs
        rw [hs]
      subst hsl
      exact ⟨nm, qn, ns, bs, bm, sn, sub, ab, col, dd, k0, k1, k2, k3, k5, ho, hbm⟩
    · cases h1
  · cases h1
/-- an own class's instance as isinstance takes it -/
theorem Fx.tyN (T : Fx w K mg base) {H : Hp} {a dx : Addr} {fs : List (Str × V)} (e : H a = some (.ins (He.ga K "Node") dx fs)) : TyX K H (.ref a) (.ref (He.ga K "Node")) := by
  obtain ⟨h1, h2⟩ := ba2 T.ex2.nN
  exact .base (.ins e T.c_Node (He.eqO_ok h1) T.ex2.sp T.ex2.tk (of_decide_eq_true h2))
theorem Fx.tyS (T : Fx w K mg base) {H : Hp} {a dx : Addr} {fs : List (Str × V)} (e : H a = some (.ins (He.ga K "Stub") dx fs)) : TyX K H (.ref a) (.ref (He.ga K "Stub")) := by
  obtain ⟨h1, h2⟩ := ba2 T.ex2.nS
  exact .base (.ins e T.c_Stub (He.eqO_ok h1) T.ex2.sp T.ex2.tk (of_decide_eq_true h2))
end
end Seal
/-! SealW: what stands in the heap: texts, told trees, parts; what stays between two heaps; a def's promise by its name. -/
namespace Seal
open PySem PySem.Spec PyProof.Rows L2 SX
/-! ### built-in names -/
theorem B_isinstance : bootBuiltins "isinstance" = some (.builtin "isinstance") := by decide +kernel
theorem B_len : bootBuiltins "len" = some (.builtin "len") := by decide +kernel
theorem B_all : bootBuiltins "all" = some (.builtin "all") := by decide +kernel
theorem B_str : bootBuiltins "str" = some (.type "str") := by decide +kernel
theorem B_int : bootBuiltins "int" = some (.type "int") := by decide +kernel
theorem B_bool : bootBuiltins "bool" = some (.type "bool") := by decide +kernel
theorem B_list : bootBuiltins "list" = some (.type "list") := by decide +kernel
theorem B_tuple : bootBuiltins "tuple" = some (.type "tuple") := by decide +kernel
theorem B_set : bootBuiltins "set" = some (.type "set") := by decide +kernel
theorem B_sorted : bootBuiltins "sorted" = some (.builtin "sorted") := by decide +kernel
theorem B_min : bootBuiltins "min" = some (.builtin "min") := by decide +kernel
theorem B_max : bootBuiltins "max" = some (.builtin "max") := by decide +kernel
theorem B_sum : bootBuiltins "sum" = some (.builtin "sum") := by decide +kernel
theorem B_abs : bootBuiltins "abs" = some (.builtin "abs") := by decide +kernel
theorem B_range : bootBuiltins "range" = some (.type "range") := by decide +kernel
theorem B_enumerate : bootBuiltins "enumerate" = some (.type "enumerate") := by decide +kernel
theorem B_ord : bootBuiltins "ord" = some (.builtin "ord") := by decide +kernel
/-! ### what stays -/
/-- all stays but the lists at L and the dicts at D, and nothing goes -/
structure Keep (L D : List Addr) (H H' : Hp) : Prop where
  dom : ∀ b, H' b = none → H b = none
  at_ : ∀ b o, H b = some o → (∀ xs, o = .lst xs → b ∉ L) → (∀ kvs, o = .dK kvs → b ∉ D) → H' b = some o
theorem Keep.refl {L D : List Addr} (H : Hp) : Keep L D H H := ⟨fun _ h => h, fun _ _ h _ _ => h⟩
theorem Keep.tup {L D : List Addr} {H H' : Hp} (k : Keep L D H H') {b : Addr} {xs : List V} (h : H b = some (.tup xs)) : H' b = some (.tup xs) := k.at_ b _ h (fun _ z => by cases z) fun _ z => by cases z
theorem Keep.ins {L D : List Addr} {H H' : Hp} (k : Keep L D H H') {b C dx : Addr} {fs : List (Str × V)} (h : H b = some (.ins C dx fs)) : H' b = some (.ins C dx fs) := k.at_ b _ h (fun _ z => by cases z) fun _ z => by cases z
theorem Keep.ext {L D : List Addr} {H H' : Hp} (k : Keep L D H H') {b : Addr} {p : Heap → Prop} (h : H b = some (.ext p)) : H' b = some (.ext p) := k.at_ b _ h (fun _ z => by cases z) fun _ z => by cases z
theorem Keep.tbl {L D : List Addr} {H H' : Hp} (k : Keep L D H H') {b : Addr} {p : Array Value} (h : H b = some (.tbl p)) : H' b = some (.tbl p) := k.at_ b _ h (fun _ z => by cases z) fun _ z => by cases z
theorem Keep.frz {L D : List Addr} {H H' : Hp} (k : Keep L D H H') {b : Addr} {p : Obj} {u : HO} (h : H b = some (.frz p u)) : H' b = some (.frz p u) := k.at_ b _ h (fun _ z => by cases z) fun _ z => by cases z
theorem Keep.xd {L D : List Addr} {H H' : Hp} (k : Keep L D H H') {b : Addr} {fs : List (Str × V)} (h : H b = some (.xd fs)) : H' b = some (.xd fs) := k.at_ b _ h (fun _ z => by cases z) fun _ z => by cases z
theorem Keep.lst {L D : List Addr} {H H' : Hp} (k : Keep L D H H') {b : Addr} {xs : List V} (h : H b = some (.lst xs)) (n : b ∉ L) : H' b = some (.lst xs) := k.at_ b _ h (fun _ _ => n) fun _ z => by cases z
theorem Keep.dic {L D : List Addr} {H H' : Hp} (k : Keep L D H H') {b : Addr} {xs : List (Key × V)} (h : H b = some (.dK xs)) (n : b ∉ D) : H' b = some (.dK xs) := k.at_ b _ h (fun _ z => by cases z) fun _ _ => n
theorem Keep.trans {L D : List Addr} {H H1 H2 : Hp} (a : Keep L D H H1) (b : Keep L D H1 H2) : Keep L D H H2 := ⟨fun c h => a.dom c (b.dom c h), fun c o h h1 h2 => b.at_ c o (a.at_ c o h h1 h2) h1 h2⟩
/-- fewer that may change: what changed was one of them, or was not there -/
theorem Keep.cut {L D L' D' : List Addr} {H H1 H2 : Hp} (a : Keep L D H H1) (b : Keep L' D' H1 H2) (hl : ∀ x ∈ L', x ∈ L ∨ H x = none) (hd : ∀ x ∈ D', x ∈ D ∨ H x = none) : Keep L D H H2 :=
  ⟨fun c h => a.dom c (b.dom c h), fun c o h h1 h2 => b.at_ c o (a.at_ c o h h1 h2) (fun xs e hc => by
    rcases hl c hc with z | z
    · exact h1 xs e z
    · rw [h] at z
      cases z) fun xs e hc => by
    rcases hd c hc with z | z
    · exact h2 xs e z
    · rw [h] at z
      cases z⟩
theorem Keep.mono {L D L' D' : List Addr} {H H1 : Hp} (a : Keep L' D' H H1) (hl : ∀ x ∈ L', x ∈ L) (hd : ∀ x ∈ D', x ∈ D) : Keep L D H H1 := (Keep.refl H).cut a (fun x h => .inl (hl x h)) fun x h => .inl (hd x h)
theorem Keep.mono0 {L D : List Addr} {H H1 : Hp} (a : Keep [] [] H H1) : Keep L D H H1 := a.mono (fun x h => by cases h) fun x h => by cases h
/-- a new object -/
theorem Keep.new {L D : List Addr} {H : Hp} {p : Addr} {o : HO} (h : H p = none) : Keep L D H (upd H p o) :=
  ⟨fun b e => by
    by_cases hb : b = p
    · rw [hb, upd_same] at e
      cases e
    · rwa [upd_ne hb] at e, fun b u e _ _ => by rw [upd_ne (ne_of_none e h)]; exact e⟩
/-- an object that was not there, changed -/
theorem Keep.put {L D : List Addr} {H H1 : Hp} {p : Addr} {o : HO} (k : Keep L D H H1) (h : H p = none) : Keep L D H (upd H1 p o) :=
  ⟨fun b e => by
    by_cases hb : b = p
    · rw [hb, upd_same] at e
      cases e
    · rw [upd_ne hb] at e
      exact k.dom b e, fun b u e h1 h2 => by rw [upd_ne (ne_of_none e h)]; exact k.at_ b u e h1 h2⟩
/-- a list that may change, changed -/
theorem Keep.putL {L D : List Addr} {H H1 : Hp} {p : Addr} {xs : List V} {o : HO} (k : Keep L D H H1) (h : H1 p = some (.lst xs)) (hp : p ∈ L) : Keep L D H (upd H1 p o) :=
  ⟨fun b e => by
    by_cases hb : b = p
    · rw [hb, upd_same] at e
      cases e
    · rw [upd_ne hb] at e
      exact k.dom b e, fun b u e h1 h2 => by
    have e1 := k.at_ b u e h1 h2
    by_cases hb : b = p
    · rw [hb, h] at e1
      exact absurd (hb ▸ hp) (h1 xs (Option.some.inj e1).symm)
    · rw [upd_ne hb]
      exact e1⟩
theorem Keep.putD {L D : List Addr} {H H1 : Hp} {p : Addr} {xs : List (Key × V)} {o : HO} (k : Keep L D H H1) (h : H1 p = some (.dK xs)) (hp : p ∈ D) : Keep L D H (upd H1 p o) :=
  ⟨fun b e => by
    by_cases hb : b = p
    · rw [hb, upd_same] at e
      cases e
    · rw [upd_ne hb] at e
      exact k.dom b e, fun b u e h1 h2 => by
    have e1 := k.at_ b u e h1 h2
    by_cases hb : b = p
    · rw [hb, h] at e1
      exact absurd (hb ▸ hp) (h2 xs (Option.some.inj e1).symm)
    · rw [upd_ne hb]
      exact e1⟩
theorem Keep.sqt {K : PySem.W.Frag} {L D : List Addr} {H H' : Hp} (k : Keep L D H H') {b : Addr} {xs : List V} (h : SqT K H b xs) : SqT K H' b xs := by
  rcases h with (h | ⟨o, h⟩) | h
  · exact .inl (.inl (k.tup h))
  · exact .inl (.inr ⟨o, k.frz h⟩)
  · exact .inr h

/-! ### texts -/
abbrev tx (l : Tx) : V := .str (S l)
def txO : Option Tx → V
  | none => .non
  | some l => tx l
theorem len_S (l : Tx) : (S l).length = l.length := S_len l
theorem tx_inj {a b : Tx} (h : tx a = tx b) : a = b := S_inj (V.str.inj h)
theorem dec_tx (a b : Tx) : decide (tx a = tx b) = decide (a = b) := by
  by_cases h : a = b
  · rw [decide_eq_true h, decide_eq_true (congrArg tx h)]
  · rw [decide_eq_false h, decide_eq_false fun z => h (tx_inj z)]
theorem num_S2 (n : Nat) : Str.ofString (toString ((n : Nat) : Int)) = S (dg n) := num_S n
theorem toSz {n : Nat} (h : n ≤ 1000000) : n ≤ sizeLine := Nat.le_trans h (by decide)
theorem toSzS {l : Tx} (h : l.length ≤ 1000000) : (S l).length ≤ sizeLine := by rw [S_len]; exact toSz h
theorem txO_dec (x : Option Tx) : decide (txO x = .non) = x.isNone := by
  cases x with
  | none => exact decide_eq_true rfl
  | some l => exact decide_eq_false fun z => nomatch z
theorem slice_any (l : Tx) (lo hi : Option Int) : ∃ i j, cutS (S l) lo hi = S ((l.drop i).take j) := ⟨_, _, rfl⟩
theorem take_sub {c : Nat} {l : Tx} {i j : Nat} (h : c ∈ (l.drop i).take j) : c ∈ l := List.mem_of_mem_drop (List.mem_of_mem_take h)
theorem Lows.cut {l : Tx} (h : Lows l) (i j : Nat) : Lows ((l.drop i).take j) := fun c hc => h c (take_sub hc)
theorem Lows.app {a b : Tx} (h : Lows a) (h' : Lows b) : Lows (a ++ b) := fun c hc => by
  rcases List.mem_append.mp hc with z | z
  · exact h c z
  · exact h' c z
theorem Signs.app {a b : Tx} (h : Signs a) (h' : Signs b) : Signs (a ++ b) := fun c hc => by
  rcases List.mem_append.mp hc with z | z
  · exact h c z
  · exact h' c z
theorem slice_to2 (l : Tx) (n : Nat) : cutS (S l) none (some (n : Int)) = S (l.take n) := by
  rw [C8.cutS_slice]
  exact slice_to (a := l) (i := (n : Int)) (by omega)
theorem slice_from2 (l : Tx) (n : Nat) : cutS (S l) (some (n : Int)) none = S (l.drop n) := by
  rw [C8.cutS_slice]
  exact slice_from (a := l) (i := (n : Int)) (by omega)

/-! ### told trees, parts -/
mutual
/-- a tree as it is told: tuples -/
def Tells (H : Hp) : Tr → V → Prop
  | .stub n, v => ∃ a, v = .ref a ∧ H a = some (.tup [.str "stub", .int (n : Int)])
  | .node s x ks, v => ∃ a b vs, v = .ref a ∧ H a = some (.tup [.str "node", tx s, txO x, .ref b]) ∧ H b = some (.tup vs) ∧ TellsL H ks vs
def TellsL (H : Hp) : List (Nat × Tr) → List V → Prop
  | [], vs => vs = []
  | (c, t) :: ks, vs => ∃ a u r, vs = .ref a :: r ∧ H a = some (.tup [tx [c], u]) ∧ Tells H t u ∧ TellsL H ks r
end
def fStub (n : Nat) : List (Str × V) := [("number", .int (n : Int))]
def fNode (s : Tx) (x : Option Tx) (b : Addr) : List (Str × V) := [("stem", tx s), ("value", txO x), ("kids", .ref b)]
mutual
/-- a tree of objects -/
def PartAt (K : PySem.W.Frag) (H : Hp) : Tr → V → Prop
  | .stub n, v => ∃ a dx, v = .ref a ∧ H a = some (.ins (He.ga K "Stub") dx (fStub n))
  | .node s x ks, v => ∃ a dx b vs, v = .ref a ∧ H a = some (.ins (He.ga K "Node") dx (fNode s x b)) ∧ H b = some (.tup vs) ∧ PartL K H ks vs
def PartL (K : PySem.W.Frag) (H : Hp) : List (Nat × Tr) → List V → Prop
  | [], vs => vs = []
  | (c, t) :: ks, vs => ∃ a u r, vs = .ref a :: r ∧ H a = some (.tup [tx [c], u]) ∧ PartAt K H t u ∧ PartL K H ks r
end
section
variable {K : PySem.W.Frag} {L D : List Addr} {H H' : Hp}
theorem tells_keep (k : Keep L D H H') : ∀ t v, Tells H t v → Tells H' t v := by
  refine Tr.ind (fun n v h => ?_) fun s x ks ih v h => ?_
  · unfold Tells at h ⊢
    obtain ⟨a, e, h⟩ := h
    exact ⟨a, e, k.tup h⟩
  · unfold Tells at h ⊢
    obtain ⟨a, b, vs, e, h1, h2, h3⟩ := h
    refine ⟨a, b, vs, e, k.tup h1, k.tup h2, ?_⟩
    clear h2
    induction ks generalizing vs with
    | nil => exact h3
    | cons p ks ihk =>
      obtain ⟨c, t⟩ := p
      unfold TellsL at h3 ⊢
      obtain ⟨a', u, r, e1, e2, e3, e4⟩ := h3
      exact ⟨a', u, r, e1, k.tup e2, ih (c, t) List.mem_cons_self u e3, ihk (fun q hq => ih q (List.mem_cons_of_mem _ hq)) r e4⟩
theorem tellsL_keep (k : Keep L D H H') : ∀ {ks vs}, TellsL H ks vs → TellsL H' ks vs
  | [], _, h => h
  | (c, t) :: ks, vs, h => by
    unfold TellsL at h ⊢
    obtain ⟨a', u, r, e1, e2, e3, e4⟩ := h
    exact ⟨a', u, r, e1, k.tup e2, tells_keep k t u e3, tellsL_keep k e4⟩
theorem part_keep (k : Keep L D H H') : ∀ t v, PartAt K H t v → PartAt K H' t v := by
  refine Tr.ind (fun n v h => ?_) fun s x ks ih v h => ?_
  · unfold PartAt at h ⊢
    obtain ⟨a, dx, e, h⟩ := h
    exact ⟨a, dx, e, k.ins h⟩
  · unfold PartAt at h ⊢
    obtain ⟨a, dx, b, vs, e, h1, h2, h3⟩ := h
    refine ⟨a, dx, b, vs, e, k.ins h1, k.tup h2, ?_⟩
    clear h2
    induction ks generalizing vs with
    | nil => exact h3
    | cons p ks ihk =>
      obtain ⟨c, t⟩ := p
      unfold PartL at h3 ⊢
      obtain ⟨a', u, r, e1, e2, e3, e4⟩ := h3
      exact ⟨a', u, r, e1, k.tup e2, ih (c, t) List.mem_cons_self u e3, ihk (fun q hq => ih q (List.mem_cons_of_mem _ hq)) r e4⟩
theorem partL_keep (k : Keep L D H H') : ∀ {ks vs}, PartL K H ks vs → PartL K H' ks vs
  | [], _, h => h
  | (c, t) :: ks, vs, h => by
    unfold PartL at h ⊢
    obtain ⟨a', u, r, e1, e2, e3, e4⟩ := h
    exact ⟨a', u, r, e1, k.tup e2, part_keep k t u e3, partL_keep k e4⟩
theorem tellsL_get : ∀ {ks : List (Nat × Tr)} {vs : List V} {i : Nat} {v : V}, TellsL H ks vs → vs[i]? = some v → ∃ c t a u, ks[i]? = some (c, t) ∧ v = .ref a ∧ H a = some (.tup [tx [c], u]) ∧ Tells H t u
  | [], vs, i, v, h, e => by
    unfold TellsL at h
    subst h
    simp at e
  | (c, t) :: ks, vs, i, v, h, e => by
    unfold TellsL at h
    obtain ⟨a', u, r, e1, e2, e3, e4⟩ := h
    subst e1
    cases i with
    | zero => exact ⟨c, t, a', u, rfl, (Option.some.inj e).symm, e2, e3⟩
    | succ i => exact tellsL_get (i := i) e4 e
theorem partL_get : ∀ {ks : List (Nat × Tr)} {vs : List V} {i : Nat} {v : V}, PartL K H ks vs → vs[i]? = some v → ∃ c t a u, ks[i]? = some (c, t) ∧ v = .ref a ∧ H a = some (.tup [tx [c], u]) ∧ PartAt K H t u
  | [], vs, i, v, h, e => by
    unfold PartL at h
    subst h
    simp at e
  | (c, t) :: ks, vs, i, v, h, e => by
    unfold PartL at h
    obtain ⟨a', u, r, e1, e2, e3, e4⟩ := h
    subst e1
    cases i with
    | zero => exact ⟨c, t, a', u, rfl, (Option.some.inj e).symm, e2, e3⟩
    | succ i => exact partL_get (i := i) e4 e
theorem tellsL_len : ∀ {ks : List (Nat × Tr)} {vs : List V}, TellsL H ks vs → vs.length = ks.length
  | [], vs, h => by
    unfold TellsL at h
    subst h
    rfl
  | (c, t) :: ks, vs, h => by
    unfold TellsL at h
    obtain ⟨a', u, r, e1, e2, e3, e4⟩ := h
    subst e1
    exact congrArg Nat.succ (tellsL_len e4)
theorem partL_len : ∀ {ks : List (Nat × Tr)} {vs : List V}, PartL K H ks vs → vs.length = ks.length
  | [], vs, h => by
    unfold PartL at h
    subst h
    rfl
  | (c, t) :: ks, vs, h => by
    unfold PartL at h
    obtain ⟨a', u, r, e1, e2, e3, e4⟩ := h
    subst e1
    exact congrArg Nat.succ (partL_len e4)
theorem tellsL_app : ∀ {ks ks' : List (Nat × Tr)} {vs vs' : List V}, TellsL H ks vs → TellsL H ks' vs' → TellsL H (ks ++ ks') (vs ++ vs')
  | [], _, vs, _, h, h' => by
    unfold TellsL at h
    subst h
    exact h'
  | (c, t) :: ks, ks', vs, vs', h, h' => by
    unfold TellsL at h
    obtain ⟨a', u, r, e1, e2, e3, e4⟩ := h
    subst e1
    show TellsL H ((c, t) :: (ks ++ ks')) _
    unfold TellsL
    exact ⟨a', u, r ++ vs', rfl, e2, e3, tellsL_app e4 h'⟩
theorem partL_app : ∀ {ks ks' : List (Nat × Tr)} {vs vs' : List V}, PartL K H ks vs → PartL K H ks' vs' → PartL K H (ks ++ ks') (vs ++ vs')
  | [], _, vs, _, h, h' => by
    unfold PartL at h
    subst h
    exact h'
  | (c, t) :: ks, ks', vs, vs', h, h' => by
    unfold PartL at h
    obtain ⟨a', u, r, e1, e2, e3, e4⟩ := h
    subst e1
    show PartL K H ((c, t) :: (ks ++ ks')) _
    unfold PartL
    exact ⟨a', u, r ++ vs', rfl, e2, e3, partL_app e4 h'⟩
theorem tellsL_one {c : Nat} {t : Tr} {a : Addr} {u : V} (h : H a = some (.tup [tx [c], u])) (ht : Tells H t u) : TellsL H [(c, t)] [.ref a] := by
  unfold TellsL
  refine ⟨a, u, [], rfl, h, ht, ?_⟩
  unfold TellsL
  rfl
theorem partL_one {c : Nat} {t : Tr} {a : Addr} {u : V} (h : H a = some (.tup [tx [c], u])) (ht : PartAt K H t u) : PartL K H [(c, t)] [.ref a] := by
  unfold PartL
  refine ⟨a, u, [], rfl, h, ht, ?_⟩
  unfold PartL
  rfl
theorem tellsL_take : ∀ {ks : List (Nat × Tr)} {vs : List V} (n : Nat), TellsL H ks vs → TellsL H (ks.take n) (vs.take n)
  | [], vs, n, h => by
    unfold TellsL at h
    subst h
    rw [List.take_nil, List.take_nil]
    unfold TellsL
    rfl
  | (c, t) :: ks, vs, 0, h => by
    rw [List.take_zero, List.take_zero]
    unfold TellsL
    rfl
  | (c, t) :: ks, vs, n + 1, h => by
    unfold TellsL at h
    obtain ⟨a', u, r, e1, e2, e3, e4⟩ := h
    subst e1
    rw [List.take_succ_cons, List.take_succ_cons]
    unfold TellsL
    exact ⟨a', u, _, rfl, e2, e3, tellsL_take n e4⟩
theorem tellsL_drop : ∀ {ks : List (Nat × Tr)} {vs : List V} (n : Nat), TellsL H ks vs → TellsL H (ks.drop n) (vs.drop n)
  | [], vs, n, h => by
    unfold TellsL at h
    subst h
    rw [List.drop_nil, List.drop_nil]
    unfold TellsL
    rfl
  | (c, t) :: ks, vs, 0, h => h
  | (c, t) :: ks, vs, n + 1, h => by
    unfold TellsL at h
    obtain ⟨a', u, r, e1, e2, e3, e4⟩ := h
    subst e1
    exact tellsL_drop n e4
end

/-! ### a def's promise by its datum -/
def Ok (P : Program) (w : World) (K : PySem.W.Frag) (mg : Str → Option Value) (base : Heap) (d : He.DefD) (ps : List Str) (k : Nat) (sp : Sp) : Prop :=
  ∃ fd, FnOk P w K mg base (L2.CX P w) k (He.fAd K d.at_) fd ps sp ∧ L2.Binds K fd ps [] ∧ PySem.W.keepIn K (.ref (He.fAd K d.at_)) = true
section
variable {w : World} {K : PySem.W.Frag} {mg : Str → Option Value} {base : Heap} {d : He.DefD} {ps N : List Str} {k : Nat} {sp : Sp}
theorem Ok.mk (F : ∃ fd, FunD K d.name d.qual d.params d.body d.scope (d.dvs K) (d.kws K) (He.fAd K d.at_) fd) (S : FnScope N ps d.scope) (len : ∀ vs H Q E, sp vs H Q E → vs.length = ps.length)
    (hb : ∀ (kV doc pm : Value) (an : Option Addr) (cdv ct : Value) (us : List Value), us.length = ps.length → bindArgs (PySem.W.fnOf d.name d.qual d.params d.body d.scope .none kV doc pm an cdv ct) ⟨us, []⟩ = pure (ps.zip us))
    (hbody : ∀ (cdv : Value) (A : Around) (outer : List Env) (s : Shared) (H : Hp) (vs : List V) (Q : VK) (E : XK), Room k (A.deeper (envOfC d.qual d.scope s.heap.objs.size (He.fAd K d.at_) cdv)) → sp vs H Q E →
      ∃ t, PSs (cxOf (L2.CX PR w) PR w K mg base N d.qual d.scope (He.fAd K d.at_) cdv A outer s H E) d.body t ∧ t { nx := fun _ H' => Q .non H', rt := Q } (L2.start N vs) H)
    (hd : d.dfl = [] := by rfl) (hw : d.kwd = [] := by rfl) : Ok PR w K mg base d ps (k + 1) sp := by
  obtain ⟨fd, F⟩ := F
  have e1 : d.dvs K = [] := by
    show d.dfl.map _ = []
    rw [hd]
    rfl
  rw [e1] at F
  exact ⟨fd, F.ok S len hbody, F.bindsN hb, F.kp⟩
theorem Ok.mono {P : Program} {k' : Nat} (h : Ok P w K mg base d ps k sp) (hk : k ≤ k') : Ok P w K mg base d ps k' sp := by
  obtain ⟨fd, F, b, q⟩ := h
  exact ⟨fd, F.mono hk, b, q⟩
end
/-- what is raised by a callee goes on out of this def -/
theorem passX {P : Program} {w : World} {K : PySem.W.Frag} {mg : Str → Option Value} {base : Heap} {N : List Str} {qual : Str} {scope : Scope} {f : Addr} {cd : Value} {A : Around} {outer : List Env} {s : Shared} {H : Hp} {E : XK} :
    Passes (L2.CX P w) (cxOf (L2.CX P w) P w K mg base N qual scope f cd A outer s H E) E := passes_call (W := fun cls d _ H => E cls d H) (takes_of rfl rfl rfl rfl) fun _ _ _ _ h => h
end Seal
/-! SealR6: several clauses 'except X as n' behind one try, all with one name. -/
namespace SealR
open PySem PySem.Spec PyProof.Rows L2
/-- a suite behind 'as n': the slot i has the exception, and is empty behind it -/
def asEnds (i : Nat) (D : Ends) : Ends := { nx := fun σ H => D.nx (σ.set i none) H, rt := D.rt, bk := fun σ H => D.bk (σ.set i none) H, ct := fun σ H => D.ct (σ.set i none) H }
abbrev ClsSuite := Value × (Addr → Value → Option Addr → TS)
/-- what the clauses wish, one after the other -/
def wAll (K : PySem.W.Frag) (i : Nat) (W0 : WX) (D : Ends) : List ClsSuite → WX
  | [] => W0
  | q :: r => fun cls d σ H => ∃ b, PySem.W.exmOne K cls q.1 = some b ∧ (b = true → ∀ a, H a = none → q.2 a cls d (asEnds i D) (σ.set i (some (.ref a))) H) ∧ (b = false → wAll K i W0 D r cls d σ H)
inductive AllAs (X : Cx) (n : Str) : List ExceptHandler → List ClsSuite → Prop
  | nil : AllAs X n [] []
  | cons {x : Str} {q : ClsSuite} {s0 : Stmt} {ss : List Stmt} {np hp : Pos} {hds : List ExceptHandler} {l : List ClsSuite} (hc : Names X x q.1)
      (hq : ∀ (a : Addr) (oe : Obj) (cls : Value) (d : Option Addr) (pn : List (Addr × Obj)), Zc cls d oe → (∃ vs, oe.data = .fields vs) → PSs (X.suite a ((a, oe) :: pn)) (s0 :: ss) (q.2 a cls d)) (r : AllAs X n hds l) :
      AllAs X n (.ExceptHandler (some (.Name x np)) (some n) (s0 :: ss) hp :: hds) (q :: l)
section
variable {X : Cx} {n : Str} {i : Nat} {body : List Stmt} {h0 : ExceptHandler} {hds : List ExceptHandler} {l : List ClsSuite} {pos : Pos} {tb : WX → TS} {W0 : WX}
/-- try: body / except X as n: .. / except Y as n: .. -/
theorem ps_try_all (hs : X.stack = X.env :: X.outer) (hf : X.env.frame = some X.env.locals) (hN : X.N.Nodup) (hi : X.N[i]? = some n) (hln : X.env.kindOf n = some .local) (tk : Takes X W0)
    (hb : ∀ (W : WX) (pn : List (Addr × Obj)) (xe : Value → Shared → Prop), Takes (X.tr pn xe) W → PassesOwn (model X.prog X.w) X.A X.env xe → PSs (X.tr pn xe) body (tb W))
    (hh : AllAs X n (h0 :: hds) l) : PS X (.Try body (h0 :: hds) [] [] pos) (fun D σ H => tb (wAll X.K i W0 D l) D σ H) := by
  refine ⟨fun pins s σ H D I h => wpAny_Try_except ?_⟩
  have ok := I.ok
  have hfr : X.A.frames = some (X.env :: X.outer) := ok.frames.trans (congrArg some hs)
  let xe : Value → Shared → Prop := fun e s₁ => wpAny (model X.prog X.w) X.A (noteFrame e X.env) (fun _ s₂ => wpAny (model X.prog X.w) X.A (setFlight e none) (fun _ s₃ => wpAny (model X.prog X.w) X.A (handleBy e X.env (h0 :: hds)) (SP X pins D) X.xe s₃) X.xe s₂) X.xe s₁
  have tkb : Takes (X.tr (X.pn ++ pins) xe) (wAll X.K i W0 D l) := by
    intro u s' xx
    obtain ⟨a, B, sI, pn2, σ1, H1, cls, d, rfl, J', nb, up, sky, na, os, ag, w⟩ := xx
    have J : Inv X pins σ1 H1 sI := J'.ofTry ok
    rw [show (X.tr (X.pn ++ pins) xe).stack = X.env :: X.outer from hs] at sky
    show wpAny _ X.A (noteFrame (.ref a) X.env) _ _ _
    refine Sky.land Zc.steady hfr hf sky fun h3 fl up3 => ?_
    have J3 : Inv X pins σ1 H1 { s' with heap := h3 } := J.landed nb fl.1 (up.trans up3) os ag
    have out : ∀ {h : Heap} {o : Obj} {vs : Array Value}, h.FunFrames B (X.env :: X.outer) → h.get? a = some o → o.data = .fields vs → a ≠ X.env.locals ∧ a ∉ X.fs := by
      intro h o vs ff e dd
      have no : a ∉ frs (X.env :: X.outer) := fun hm => by
        obtain ⟨_, o', e', hn⟩ := ff.mem hm
        rw [e] at e'
        cases e'
        exact hn _ dd
      refine ⟨fun z => no (List.mem_filterMap.mpr ⟨X.env, List.mem_cons_self, by rw [hf, z]⟩), fun hm => no ?_⟩
      obtain ⟨ev, he, q⟩ := List.mem_filterMap.mp hm
      exact List.mem_filterMap.mpr ⟨ev, List.mem_cons_of_mem _ he, q⟩
    obtain ⟨oe, vs3, he3, hz3, hd3⟩ := fl.there
    obtain ⟨nL, nF⟩ := out fl.2.2.1 he3 hd3
    have S3 := J3.suite he3 hd3 na nL nF
    suffices go : ∀ {hds' : List ExceptHandler} {l' : List ClsSuite}, AllAs X n hds' l' → wAll X.K i W0 D l' cls d σ1 H1 → wpAny (model X.prog X.w) X.A (handleBy (.ref a) X.env hds') (SP X pins D) X.xe { s' with heap := h3 } from go hh w
    intro hds' l' hk
    induction hk with
    | nil =>
      intro w0
      refine wpAny_handleBy_nil ?_
      obtain ⟨_, _, _, oe', vs', T, _, _, he, _, hd, h1, _⟩ := id fl
      unfold PySem.passOn
      refine wpAny_bind (wpAny_field he hd h1 ?_)
      rw [if_neg (show ¬ ((Value.ref T == Value.none) = true) from by simp)]
      have fin : wpAny (model X.prog X.w) X.A (setFlight (.ref a) X.env.frame) (fun _ s4 => wpAny (model X.prog X.w) X.A (throw (.ref a) : Sem Flow) (SP X pins D) X.xe s4) X.xe { s' with heap := h3 } := by
        rw [hf]
        exact HandSPX.setFlight_upZ fl fun h4 hh4 up4 => wpAny_throw (tk _ _ ⟨a, B, sI, pins, σ1, H1, cls, d, rfl, J, nb, (up.trans up3).trans up4, .inr (.inr (by rw [hs]; exact hh4)), na, os, ag, w0⟩)
      first
        | exact wpAny_bind (wpAny_pure (wpAny_bind fin))
        | exact wpAny_bind fin
    | @cons x q s0 ss np hp hds2 l2 hc hq _ ih =>
      intro ⟨b, hb1, hyes, hno⟩
      refine wpAny_handleBy_cons (codeAny_handlers_test ?_) (by intro z; cases z)
      have lk : PySem.W.Looks (model X.prog X.w) h3 (typeOf (.ref a)) cls := fun A Q E z k q => wpAny_typeOf_ref (k _ _ he3) (by rw [hz3.1]; exact q)
      have ld : ∀ {Q E : Value → Shared → Prop}, Q q.1 { s' with heap := h3 } → wpAny (model X.prog X.w) (X.A.mark (some (.ref a))) (eval (.Name x np) X.env) Q E { s' with heap := h3 } := by
        intro Q E z
        obtain ⟨hg, hdb, hm⟩ := hc
        rcases hm with hm | ⟨hm, hv, hn⟩
        · exact ld_glob (X := X.suite a ((a, oe) :: (X.pn ++ pins))) S3 hg hm z hdb
        · exact ld_blt (X := X.suite a ((a, oe) :: (X.pn ++ pins))) S3 hg hm hv z hn hdb
      refine ld ((PySem.W.exm_one (M := model X.prog X.w) J3.kIn lk hb1).here ?_)
      cases b with
      | false =>
        show wpAny _ X.A (handleBy (.ref a) X.env hds2) _ _ _
        exact ih (hno rfl)
      | true =>
        refine codeAny_handlers_suite_as (HandSPX.lands_againZ fl fun h4 fl4 up4 => ?_)
        obtain ⟨oe4, vs4, he4, hz4, hd4⟩ := fl4.there
        have S4 := (J.landed (s' := { s' with heap := h4 }) nb fl4.1 ((up.trans up3).trans up4) os ag).suite he4 hd4 na nL nF
        refine store_ok (X := X.suite a ((a, oe4) :: (X.pn ++ pins))) (v := .ref a) S4 hN hi (.inl hln) rfl (fun s5 S5 => ?_) (.inr hln)
        refine wpAny_mono ((hq a oe4 cls d (X.pn ++ pins) hz4 ⟨_, hd4⟩).run [] s5 _ H1 _ S5 (hyes rfl a na)) (fun f s6 hsp => ?_) (fun _ _ z => False.elim z)
        have leave : ∀ {σ6 : L2.St} {H6 : Hp} {Q : Shared → Prop}, Inv (X.suite a ((a, oe4) :: (X.pn ++ pins))) [] σ6 H6 s6 → (∀ s7, Inv X pins (σ6.set i none) H6 s7 → Q s7) →
            wpAny (model X.prog X.w) X.A (do bindName X.env n .none; unbindBehindTheSuite X.env n hp) (fun _ s7 => Q s7) X.xe s6 := fun S6 hQ => gone_ok (S6.unsuite ok) hN hi hln hQ
        cases f with
        | ret u =>
          obtain ⟨v6, σ6, H6, S6, r6, q6⟩ := hsp
          exact leave S6 fun s7 J7 => ⟨_, _, _, J7, r6, q6⟩
        | _ =>
          obtain ⟨σ6, H6, S6, q6⟩ := hsp
          exact leave S6 fun s7 J7 => ⟨_, _, J7, q6⟩
  refine wpAny_mono ((hb _ (X.pn ++ pins) xe tkb PassesOwn.looking).run [] s σ H D (I.toTry _) h) (fun f s1 hsp => ?_) fun e s1 he => he
  cases f with
  | next =>
    obtain ⟨σ', H', J', q⟩ := hsp
    exact wpAny_execs_nil ⟨σ', H', J'.ofTry ok, q⟩
  | ret u =>
    obtain ⟨v, σ', H', J', r, q⟩ := hsp
    exact ⟨v, σ', H', J'.ofTry ok, r, q⟩
  | _ =>
    obtain ⟨σ', H', J', q⟩ := hsp
    exact ⟨σ', H', J'.ofTry ok, q⟩
end
end SealR
/-! SealD1: the leaves: keys, values, numbers. -/
namespace SealR
open PySem PySem.Spec PyProof.Rows L2
theorem cr_maxDef {X : Cx} (hc : X.calm = true) (hu : X.A.units + 1 < cLine) : CallRK X (.builtin "max") ["default"] (fun xs zs H Q => ∃ (a : Addr) (ns : List Int) (d : Int), xs = [.ref a] ∧ zs = [.int d] ∧ SqL X.K H a (ns.map V.int) ∧ Q (.int (maxOr d ns)) H) := by
  intro pins s σ H xs zs us ws Q I r1 r2 h
  obtain ⟨a, ns, d, rfl, rfl, hs, q⟩ := h
  obtain ⟨u, rfl, ru⟩ := vals1 r1
  obtain ⟨z, rfl, rz⟩ := vals1 r2
  obtain rfl : u = Value.ref a := ru
  obtain ⟨t, rfl⟩ := rz
  exact call_maxD hc hu I hs q
end SealR
namespace Seal
open PySem PySem.Spec PyProof.Rows L2 SX
section
variable {w : World} {K : PySem.W.Frag} {mg : Str → Option Value} {base : Heap}
/-! ### is_key -/
def isKey (l : Tx) : Bool := decide (l.length ≤ 8) && l.all isLow
def isVal (l : Tx) : Bool := decide (l.length ≤ 40) && l.all isSign
theorem isKey_iff {l : Tx} : isKey l = true ↔ IsKey l := by
  unfold isKey IsKey Lows
  rw [Bool.and_eq_true, decide_eq_true_eq, List.all_eq_true]
  exact and_congr Iff.rfl (forall_congr' fun c => imp_congr_right fun _ => isLow_iff)
theorem isVal_iff {l : Tx} : isVal l = true ↔ IsVal l := by
  unfold isVal IsVal Signs
  rw [Bool.and_eq_true, decide_eq_true_eq, List.all_eq_true]
  exact and_congr Iff.rfl (forall_congr' fun c => imp_congr_right fun _ => isSign_iff)
theorem low_in (c : Nat) : decide (c ∈ ("abcdefghijklmnopqrstuvwxyz" : Str).cps.toList) = isLow c := by
  have e : ("abcdefghijklmnopqrstuvwxyz" : Str).cps.toList = [97, 98, 99, 100, 101, 102, 103, 104, 105, 106, 107, 108, 109, 110, 111, 112, 113, 114, 115, 116, 117, 118, 119, 120, 121, 122] := by decide +kernel
  rw [e]
  unfold isLow
  rw [← Bool.decide_and]
  exact decide_eq_decide.mpr (by
    simp only [List.mem_cons, List.not_mem_nil, or_false]
    omega)
def spIsKey : Sp := fun vs H Q _ => ∃ l : Tx, vs = [tx l] ∧ l.length ≤ 1000 ∧ ∀ H', Keep [] [] H H' → Q (.bl (isKey l)) H'
theorem sc_is_key : FnScope ["thing", "sign"] ["thing"] (defScope s_is_key) := ⟨rfl, rfl, rfl, by decide +kernel, rfl, by decide +kernel, by decide +kernel⟩
theorem all_map (p : Nat → Bool) (l : Tx) : (l.map p).all id = l.all p := by
  rw [List.all_map]
  rfl
theorem ok_is_key (T : Fx w K mg base) : Ok PR w K mg base d_is_key ["thing"] 1 spIsKey := by
  refine Ok.mk (N := ["thing", "sign"]) T.i_is_key sc_is_key (fun vs H Q E h => ?_) (fun _ _ _ _ _ _ us hl => match us, hl with | [_], _ => rfl) (fun cdv A outer s H vs Q E hr h => ?_)
  · obtain ⟨l, rfl, _⟩ := h
    rfl
  · obtain ⟨l, rfl, hl, k⟩ := h
    refine ⟨_, PSs.nox (pss_cons (ps_if (PW.pt (pw_or (pt_not (pt_val (pe_callB call_isi rfl T.f_isinstance B_isinstance (pa_cons (pv 0) (pa_cons (pe_bltn (v := .ty "str") rfl T.f_str B_str rfl) pa_nil))))) (pw_or1 (pt_cmpR op_gt (pe_callB call_len_str rfl T.f_len B_len (pa_cons (pv 0) pa_nil)) (C8.pe_gc rfl T.v_MOST_LETTERS) (nomark _)))))
      (pss_one (ps_ret pe_bl))
      pss_nil)
    (pss_one (ps_ret (pe_callB (cr_all rfl) rfl T.f_all B_all (pa_cons (pe_lc (own := [("sign", 1)]) (g := gName 1) (tt := tYes) rfl sc_is_key.nd (pi_str (pv 0)) (blkOk_by (N := ["thing", "sign"]) (sc := defScope s_is_key) (own := [("sign", 1)]) (by decide +kernel)) (fun _ _ _ _ _ => (pg_name (i := 1) sc_is_key.nd rfl (Or.inl rfl))) (fun _ _ _ _ _ => pts_nil) (fun _ _ _ _ _ => (pe_cmpR op_in_sign (pv 1) (C8.pe_gc rfl T.v_LETTERS) rfl))) pa_nil))))), ?_⟩
    refine ⟨_, rfl, _, _, _, _, _, rfl, .ty _, .base (.str _), kit_ty (r := true) (by decide +kernel), _, rfl, ?_⟩
    refine iteF ⟨_, rfl, _, rfl, toSzS (Nat.le_trans hl (by decide)), _, _, rfl, rfl, _, rfl, ?_⟩
    rw [len_S]
    by_cases h8 : (8 : Int) < (l.length : Int)
    · rw [decide_eq_true h8]
      refine iteT ?_
      have e : isKey l = false := by
        unfold isKey
        rw [decide_eq_false (by omega)]
        rfl
      have q := k H (Keep.refl H)
      rw [e] at q
      exact q
    · rw [decide_eq_false h8]
      refine iteF ?_
      refine ⟨_, rfl, _, rfl, fun D hD => ?_⟩
      have e : isKey l = l.all isLow := by
        unfold isKey
        rw [decide_eq_true (by omega)]
        rfl
      refine lc_it walk_str (fun i H' => Keep [] [] H H' ∧ H' D = some (.lst ((l.take i).map fun c => V.bl (isLow c)))) ⟨Keep.new hD, upd_same⟩ (fun _ _ _ _ => True.intro) ?_ ?_
      · rintro i x H1 H2 hi ⟨k1, k2⟩ ⟨rfl, c, hc, rfl⟩
        have hc : l[i]? = some c := by simpa using hc
        refine ⟨rfl, _, rfl, c, _, rfl, rfl, _, k2, ?_, k1.put hD, ?_⟩
        · rw [List.length_map, List.length_take]
          exact Nat.lt_of_le_of_lt (Nat.min_le_right _ _) (Nat.lt_of_le_of_lt hl (by decide))
        · rw [upd_same, low_in, List.take_succ, hc, List.map_append]
          rfl
      · rintro H1 ⟨k1, k2⟩
        have hi : l.take (S l).cps.size = l := List.take_of_length_le (by simp)
        rw [hi] at k2
        refine ⟨D, l.map isLow, rfl, SqL.of (by rw [k2, List.map_map]; rfl), ?_⟩
        have q := k H1 k1
        rw [e, ← all_map isLow l] at q
        exact q
/-! ### is_value -/
theorem one_lt (a b : Nat) : ([a] < [b]) ↔ a < b := by
  rw [List.cons_lt_cons_iff]
  constructor
  · rintro (h | ⟨_, h⟩)
    · exact h
    · exact absurd h (List.lt_irrefl _)
  · exact .inl
theorem sp_le (c : Nat) : (!decide ([c] < (" " : Str).cps.toList)) = decide (32 ≤ c) := by
  have e : (" " : Str).cps.toList = [32] := by decide +kernel
  rw [e, ← decide_not]
  exact decide_eq_decide.mpr (by rw [one_lt]; omega)
theorem le_ti (c : Nat) : (!decide (("~" : Str).cps.toList < [c])) = decide (c ≤ 126) := by
  have e : ("~" : Str).cps.toList = [126] := by decide +kernel
  rw [e, ← decide_not]
  exact decide_eq_decide.mpr (by rw [one_lt]; omega)
def spIsVal : Sp := fun vs H Q _ => ∃ l : Tx, vs = [tx l] ∧ l.length ≤ 1000 ∧ ∀ H', Keep [] [] H H' → Q (.bl (isVal l)) H'
theorem sc_is_value : FnScope ["thing", "sign"] ["thing"] (defScope s_is_value) := ⟨rfl, rfl, rfl, by decide +kernel, rfl, by decide +kernel, by decide +kernel⟩
theorem ok_is_value (T : Fx w K mg base) : Ok PR w K mg base d_is_value ["thing"] 1 spIsVal := by
  refine Ok.mk (N := ["thing", "sign"]) T.i_is_value sc_is_value (fun vs H Q E h => ?_) (fun _ _ _ _ _ _ us hl => match us, hl with | [_], _ => rfl) (fun cdv A outer s H vs Q E hr h => ?_)
  · obtain ⟨l, rfl, _⟩ := h
    rfl
  · obtain ⟨l, rfl, hl, k⟩ := h
    refine ⟨_, PSs.nox (pss_cons (ps_if (PW.pt (pw_or (pt_not (pt_val (pe_callB call_isi rfl T.f_isinstance B_isinstance (pa_cons (pv 0) (pa_cons (pe_bltn (v := .ty "str") rfl T.f_str B_str rfl) pa_nil))))) (pw_or1 (pt_cmpR op_gt (pe_callB call_len_str rfl T.f_len B_len (pa_cons (pv 0) pa_nil)) (C8.pe_gc rfl T.v_MOST_SIGNS) (nomark _)))))
      (pss_one (ps_ret pe_bl))
      pss_nil)
    (pss_one (ps_ret (pe_callB (cr_all rfl) rfl T.f_all B_all (pa_cons (pe_lc (own := [("sign", 1)]) (g := gName 1) (tt := tYes) rfl sc_is_value.nd (pi_str (pv 0)) (blkOk_by (N := ["thing", "sign"]) (sc := defScope s_is_value) (own := [("sign", 1)]) (by decide +kernel)) (fun _ _ _ _ _ => (pg_name (i := 1) sc_is_value.nd rfl (Or.inl rfl))) (fun _ _ _ _ _ => pts_nil) (fun _ _ _ _ _ => (pe_chain op_le_str op_le_str pe_str (pv 1) pe_str))) pa_nil))))), ?_⟩
    refine ⟨_, rfl, _, _, _, _, _, rfl, .ty _, .base (.str _), kit_ty (r := true) (by decide +kernel), _, rfl, ?_⟩
    refine iteF ⟨_, rfl, _, rfl, toSzS (Nat.le_trans hl (by decide)), _, _, rfl, rfl, _, rfl, ?_⟩
    rw [len_S]
    by_cases h8 : (40 : Int) < (l.length : Int)
    · rw [decide_eq_true h8]
      refine iteT ?_
      have e : isVal l = false := by
        unfold isVal
        rw [decide_eq_false (by omega)]
        rfl
      have q := k H (Keep.refl H)
      rw [e] at q
      exact q
    · rw [decide_eq_false h8]
      refine iteF ?_
      refine ⟨_, rfl, _, rfl, fun D hD => ?_⟩
      have e : isVal l = l.all isSign := by
        unfold isVal
        rw [decide_eq_true (by omega)]
        rfl
      refine lc_it walk_str (fun i H' => Keep [] [] H H' ∧ H' D = some (.lst ((l.take i).map fun c => V.bl (isSign c)))) ⟨Keep.new hD, upd_same⟩ (fun _ _ _ _ => True.intro) ?_ ?_
      · rintro i x H1 H2 hi ⟨k1, k2⟩ ⟨rfl, c, hc, rfl⟩
        have hc : l[i]? = some c := by simpa using hc
        refine ⟨rfl, _, rfl, ?_⟩
        have step : ∀ b : Bool, b = isSign c → ∃ acc, H2 D = some (HO.lst acc) ∧ acc.length < sizeLine ∧ Keep [] [] H (upd H2 D (.lst (acc ++ [V.bl b]))) ∧ upd H2 D (.lst (acc ++ [V.bl b])) D = some (.lst ((l.take (i + 1)).map fun c => V.bl (isSign c))) := fun b eb => by
          refine ⟨_, k2, ?_, k1.put hD, ?_⟩
          · rw [List.length_map, List.length_take]
            exact Nat.lt_of_le_of_lt (Nat.min_le_right _ _) (Nat.lt_of_le_of_lt hl (by decide))
          · rw [upd_same, eb, List.take_succ, hc, List.map_append]
            rfl
        refine ⟨_, _, rfl, rfl, _, rfl, ?_⟩
        refine ite2 (fun h1 => ?_) (fun h1 => ?_)
        · rw [sp_le, decide_eq_true_eq] at h1
          refine ⟨_, _, rfl, rfl, step _ ?_⟩
          rw [le_ti]
          unfold isSign
          rw [decide_eq_true h1]
          rfl
        · have h2 : ¬ 32 ≤ c := by
            rw [sp_le, decide_eq_true_eq] at h1
            exact h1
          refine step _ ?_
          unfold isSign
          rw [decide_eq_false h2]
          rfl
      · rintro H1 ⟨k1, k2⟩
        have hi : l.take (S l).cps.size = l := List.take_of_length_le (by simp)
        rw [hi] at k2
        refine ⟨D, l.map isSign, rfl, SqL.of (by rw [k2, List.map_map]; rfl), ?_⟩
        have q := k H1 k1
        rw [e, ← all_map isSign l] at q
        exact q
end
end Seal
/-! SealD2: the leaves, on. -/
namespace Seal
open PySem PySem.Spec PyProof.Rows L2 SX
section
variable {w : World} {K : PySem.W.Frag} {mg : Str → Option Value} {base : Heap}
/-! ### is_number -/
def spIsNum : Sp := fun vs H Q _ => ∃ n : Nat, vs = [.int (n : Int)] ∧ Q (.bl (decide (n ≤ 10 ^ 30))) H
theorem sc_is_number : FnScope ["thing"] ["thing"] (defScope s_is_number) := ⟨rfl, rfl, rfl, by decide +kernel, rfl, by decide +kernel, by decide +kernel⟩
theorem ok_is_number (T : Fx w K mg base) : Ok PR w K mg base d_is_number ["thing"] 1 spIsNum := by
  refine Ok.mk (N := ["thing"]) T.i_is_number sc_is_number (fun vs H Q E h => ?_) (fun _ _ _ _ _ _ us hl => match us, hl with | [_], _ => rfl) (fun cdv A outer s H vs Q E hr h => ?_)
  · obtain ⟨l, rfl, _⟩ := h
    rfl
  · obtain ⟨n, rfl, k⟩ := h
    refine ⟨_, PSs.nox (pss_one (ps_ret (pe_and (pe_callB call_isi rfl T.f_isinstance B_isinstance (pa_cons (pv 0) (pa_cons (pe_bltn (v := .ty "int") rfl T.f_int B_int rfl) pa_nil))) (pe_and (pe_not (pe_callB call_isi rfl T.f_isinstance B_isinstance (pa_cons (pv 0) (pa_cons (pe_bltn (v := .ty "bool") rfl T.f_bool B_bool rfl) pa_nil)))) (pe_one (pe_chain op_le op_le pe_int (pv 0) (C8.pe_gc rfl T.v_MOST_NUMBER))))))), ?_⟩
    refine ⟨_, rfl, _, _, _, _, _, rfl, .ty _, .base (.int _), kit_ty (r := true) (by decide +kernel), _, rfl, ?_⟩
    refine iteT ?_
    refine ⟨_, rfl, _, _, _, _, _, rfl, .ty _, .base (.int _), kit_ty (r := false) (by decide +kernel), _, rfl, _, rfl, ?_⟩
    refine iteT ?_
    refine ⟨_, rfl, _, _, rfl, rfl, _, rfl, ?_⟩
    refine ite2 (fun h1 => ?_) (fun h1 => ?_)
    · refine ⟨_, _, rfl, rfl, ?_⟩
      have e : decide ((n : Int) ≤ 1000000000000000000000000000000) = decide (n ≤ 10 ^ 30) := decide_eq_decide.mpr (by omega)
      show Q (.bl (decide ((n : Int) ≤ 1000000000000000000000000000000))) H
      rw [e]
      exact k
    · exact absurd (decide_eq_true (by omega : (0 : Int) ≤ (n : Int))) h1
/-! ### need_key -/
def spNeedKey : Sp := fun vs H Q _ => ∃ l : Tx, vs = [tx l] ∧ IsKey l ∧ ∀ H', Keep [] [] H H' → Q .non H'
theorem sc_need_key : FnScope ["key"] ["key"] (defScope s_need_key) := ⟨rfl, rfl, rfl, by decide +kernel, rfl, by decide +kernel, by decide +kernel⟩
theorem ok_need_key (T : Fx w K mg base) : Ok PR w K mg base d_need_key ["key"] 2 spNeedKey := by
  obtain ⟨fd_is_key, F_is_key, b_is_key, k_is_key⟩ := ok_is_key T
  refine Ok.mk (N := ["key"]) T.i_need_key sc_need_key (fun vs H Q E h => ?_) (fun _ _ _ _ _ _ us hl => match us, hl with | [_], _ => rfl) (fun cdv A outer s H vs Q E hr h => ?_)
  · obtain ⟨l, rfl, _⟩ := h
    rfl
  · obtain ⟨l, rfl, hk, k⟩ := h
    refine ⟨_, PSs.nox (pss_one (ps_if (pt_not (pt_val (pe_call F_is_key (hr.mono (by first | decide | omega)) rfl T.g_is_key k_is_key b_is_key .nil passL (pa_cons (pv 0) pa_nil))))
      (pss_one ps_never)
      pss_nil)), ?_⟩
    refine ⟨_, rfl, l, rfl, Nat.le_trans hk.1 (by decide), fun H' k1 => ⟨_, rfl, ?_⟩⟩
    rw [isKey_iff.mpr hk]
    exact iteF (k H' k1)
/-! ### the errors' __init__ -/
def spOex (C f : Str) (K : PySem.W.Frag) : Sp := fun vs H Q _ => ∃ (a : Addr) (v : V), vs = [.ref a, v] ∧ H a = some (exo a (He.ga K C) none) ∧ ∀ dx, H dx = none → dx ≠ a → Q .non (upd (upd H dx (exd dx [(f, v)])) a (exo a (He.ga K C) (some dx)))
theorem sc_Unseen_init : FnScope ["self", "way"] ["self", "way"] (defScope s_Unseen_init) := ⟨rfl, rfl, rfl, by decide +kernel, rfl, by decide +kernel, by decide +kernel⟩
theorem ok_Unseen (T : Fx w K mg base) : Ok PR w K mg base d_Unseen_init ["self", "way"] 1 (spOex "Unseen" "way" K) := by
  refine Ok.mk (N := ["self", "way"]) T.i_Unseen_init sc_Unseen_init (fun vs H Q E h => ?_) (fun _ _ _ _ _ _ us hl => match us, hl with | [_, _], _ => rfl) (fun cdv A outer s H vs Q E hr h => ?_)
  · obtain ⟨a, v, rfl, _⟩ := h
    rfl
  · obtain ⟨a, v, rfl, ha, k⟩ := h
    refine ⟨_, PSs.nox (pss_one (ps_ost (pv 0) (pv 1))), ?_⟩
    exact ⟨_, rfl, _, rfl, a, _, rfl, oexB_ok T.ex2.oU, He.eqO_ok (ba2 (ba2 (ba2 T.ex2.iU).2).2).1, .inl ⟨ha, k⟩⟩
theorem sc_NoRoot_init : FnScope ["self", "number"] ["self", "number"] (defScope s_NoRoot_init) := ⟨rfl, rfl, rfl, by decide +kernel, rfl, by decide +kernel, by decide +kernel⟩
theorem ok_NoRoot (T : Fx w K mg base) : Ok PR w K mg base d_NoRoot_init ["self", "number"] 1 (spOex "NoRoot" "number" K) := by
  refine Ok.mk (N := ["self", "number"]) T.i_NoRoot_init sc_NoRoot_init (fun vs H Q E h => ?_) (fun _ _ _ _ _ _ us hl => match us, hl with | [_, _], _ => rfl) (fun cdv A outer s H vs Q E hr h => ?_)
  · obtain ⟨a, v, rfl, _⟩ := h
    rfl
  · obtain ⟨a, v, rfl, ha, k⟩ := h
    refine ⟨_, PSs.nox (pss_one (ps_ost (pv 0) (pv 1))), ?_⟩
    exact ⟨_, rfl, _, rfl, a, _, rfl, oexB_ok T.ex2.oR, He.eqO_ok (ba2 (ba2 (ba2 T.ex2.iR).2).2).1, .inl ⟨ha, k⟩⟩
/-! ### start -/
theorem fN_stem {s : Tx} {x : Option Tx} {b : Addr} : (fNode s x b).lookup ("stem" : Str) = some (tx s) := rfl
theorem fN_value {s : Tx} {x : Option Tx} {b : Addr} : (fNode s x b).lookup ("value" : Str) = some (txO x) := rfl
theorem fN_kids {s : Tx} {x : Option Tx} {b : Addr} : (fNode s x b).lookup ("kids" : Str) = some (.ref b) := rfl
theorem fN_height {s : Tx} {x : Option Tx} {b : Addr} : (fNode s x b).lookup ("height" : Str) = none := rfl
theorem fN_start {s : Tx} {x : Option Tx} {b : Addr} : (fNode s x b).lookup ("start" : Str) = none := rfl
theorem fN_all {s : Tx} {x : Option Tx} {b : Addr} : (fNode s x b).lookup ("all_nodes" : Str) = none := rfl
theorem fS_number {n : Nat} : (fStub n).lookup ("number" : Str) = some (.int (n : Int)) := rfl
theorem fS_height {n : Nat} : (fStub n).lookup ("height" : Str) = none := rfl
theorem fS_all {n : Nat} : (fStub n).lookup ("all_nodes" : Str) = none := rfl
theorem L_dash : ("-" : Str) = S [45] := by decide +kernel
theorem L_eq : ("=" : Str) = S [61] := by decide +kernel
theorem L_col : (":" : Str) = S [58] := by decide +kernel
theorem L_semi : (";" : Str) = S [59] := by decide +kernel
theorem L_nil : ("" : Str) = S [] := by decide +kernel
theorem E_S (l : Tx) : Str.empty ++ S l = S l := by
  have e : Str.empty = S [] := rfl
  rw [e, S_cat]
  rfl
theorem dg_len {n k : Nat} (hk : 0 < k) (h : n < 10 ^ k) : (dg n).length ≤ k := TL.numL_len hk h
theorem log2_small {n : Nat} (h : n < 2 ^ 200) : ((n : Nat) : Int).natAbs.log2 < 1920 := by
  rw [Int.natAbs_natCast]
  exact Nat.lt_trans (PySem.Flt.log2_lt_of (k := 200) (by decide) h) (by decide)
def spStart (K : PySem.W.Frag) : Sp := fun vs H Q _ => ∃ (a dx b : Addr) (s : Tx) (x : Option Tx), vs = [.ref a] ∧ H a = some (.ins (He.ga K "Node") dx (fNode s x b)) ∧ s.length ≤ 1000 ∧ (∀ l, x = some l → l.length ≤ 1000) ∧ Q (tx (startTx s x)) H
theorem sc_Node_start : FnScope ["self"] ["self"] (defScope s_Node_start) := ⟨rfl, rfl, rfl, by decide +kernel, rfl, by decide +kernel, by decide +kernel⟩
theorem ok_start (T : Fx w K mg base) : Ok PR w K mg base d_Node_start ["self"] 1 (spStart K) := by
  refine Ok.mk (N := ["self"]) T.i_Node_start sc_Node_start (fun vs H Q E h => ?_) (fun _ _ _ _ _ _ us hl => match us, hl with | [_], _ => rfl) (fun cdv A outer s H vs Q E hr h => ?_)
  · obtain ⟨_, _, _, _, _, rfl, _⟩ := h
    rfl
  · obtain ⟨a, dx, b, s, x, rfl, ha, hs, hx, k⟩ := h
    refine ⟨_, PSs.nox (pss_cons (ps_if (pt_cmpR op_isN (pe_fld (pv 0) rfl) pe_non (nomark _))
      (pss_one (ps_ret (pe_joined (.cons (pe_fmt (pe_fld (pv 0) rfl)) (.cons pe_str PJ.nil)))))
      pss_nil)
    (pss_one (ps_ret (pe_joined (.cons (pe_fmt (pe_fld (pv 0) rfl)) (.cons pe_str (.cons (pe_fmt (pe_callB call_len_str rfl T.f_len B_len (pa_cons (pe_fld (pv 0) rfl) pa_nil))) (.cons pe_str (.cons (pe_fmt (pe_fld (pv 0) rfl)) PJ.nil))))))))), ?_⟩
    refine ⟨_, rfl, a, _, dx, _, _, rfl, ha, T.c_Node, T.n_Node_value, fN_value, rfl, _, rfl, ?_⟩
    rw [txO_dec]
    cases x with
    | none =>
      refine iteT ?_
      refine ⟨_, rfl, a, _, dx, _, _, rfl, ha, T.c_Node, T.n_Node_stem, fN_stem, .inl ⟨_, rfl, toSzS (Nat.le_trans hs (by decide)), S s, rfl, ?_, _, rfl, ?_, ?_⟩⟩
      · rw [E_S]
        exact toSzS (Nat.le_trans hs (by decide))
      · rw [E_S, L_dash, S_cat]
        exact toSzS (by rw [List.length_append]; exact Nat.le_trans (Nat.add_le_add_right hs _) (by decide))
      · show Q (.str (Str.empty ++ S s ++ ("-" : Str))) H
        rw [E_S, L_dash, S_cat]
        exact k
    | some l =>
      have hl : l.length ≤ 1000 := hx l rfl
      have hd : (dg (S l).length).length ≤ 4 := dg_len (by decide) (by rw [len_S]; exact Nat.lt_of_le_of_lt hl (by decide))
      refine iteF ?_
      refine ⟨_, rfl, a, _, dx, _, _, rfl, ha, T.c_Node, T.n_Node_stem, fN_stem, .inl ⟨_, rfl, toSzS (Nat.le_trans hs (by decide)), S s, rfl, ?_, _, rfl, ?_, ?_⟩⟩
      · rw [E_S]
        exact toSzS (Nat.le_trans hs (by decide))
      · rw [E_S, L_eq, S_cat]
        exact toSzS (by rw [List.length_append]; exact Nat.le_trans (Nat.add_le_add_right hs _) (by decide))
      · refine ⟨_, rfl, a, _, dx, _, _, rfl, ha, T.c_Node, T.n_Node_value, fN_value, _, rfl, toSzS (Nat.le_trans hl (by decide)), .inr ⟨_, rfl, ?_, _, rfl, ?_, _, rfl, ?_, _, rfl, a, _, dx, _, _, rfl, ha, T.c_Node, T.n_Node_value, fN_value, .inl ⟨_, rfl, toSzS (Nat.le_trans hl (by decide)), _, rfl, ?_, ?_⟩⟩⟩
        · rw [len_S]
          exact log2_small (Nat.lt_of_le_of_lt hl (by decide))
        all_goals rw [E_S, L_eq, S_cat, num_S2, S_cat]
        · exact toSzS (by rw [List.length_append, List.length_append]; simp only [List.length_cons, List.length_nil]; omega)
        all_goals rw [L_col, S_cat]
        · exact toSzS (by rw [List.length_append, List.length_append, List.length_append]; simp only [List.length_cons, List.length_nil]; omega)
        all_goals rw [S_cat]
        · exact toSzS (by rw [List.length_append, List.length_append, List.length_append, List.length_append]; simp only [List.length_cons, List.length_nil]; omega)
        · show Q (.str (S _)) H
          have e : ((((s ++ [61]) ++ dg (S l).length) ++ [58]) ++ l) = startTx s (some l) := by
            rw [len_S]
            unfold startTx
            simp only [List.append_assoc, List.cons_append, List.nil_append]
          rw [e]
          exact k
end
end Seal
/-! SealD3: heights, all nodes. -/
namespace Seal
open PySem PySem.Spec PyProof.Rows L2 SX
/-! ### what fits -/
structure Fit (d : Nat) (t : Tr) : Prop where
  all : t.All (fun s => Lows s ∧ s.length ≤ 9) (fun v => v.length ≤ 41 ∧ Signs v) (fun c => 97 ≤ c ∧ c ≤ 122) (fun n => n < 10 ^ 40)
  size : t.size ≤ 100
  depth : t.depth ≤ d
theorem alls_mem {ps pv : Tx → Prop} {pc pn : Nat → Prop} : ∀ {ks : List (Nat × Tr)} {p : Nat × Tr}, alls ps pv pc pn ks → p ∈ ks → pc p.1 ∧ p.2.All ps pv pc pn
  | (c, t) :: ks, p, h, hp => by
    unfold alls at h
    rcases List.mem_cons.mp hp with e | hp
    · subst e
      exact ⟨h.1, h.2.1⟩
    · exact alls_mem h.2.2 hp
theorem alls_of {ps pv : Tx → Prop} {pc pn : Nat → Prop} : ∀ {ks : List (Nat × Tr)}, (∀ p ∈ ks, pc p.1 ∧ p.2.All ps pv pc pn) → alls ps pv pc pn ks
  | [], _ => by
    unfold alls
    trivial
  | (c, t) :: ks, h => by
    unfold alls
    exact ⟨(h _ List.mem_cons_self).1, (h _ List.mem_cons_self).2, alls_of fun p hp => h p (List.mem_cons_of_mem _ hp)⟩
theorem sizes_mem : ∀ {ks : List (Nat × Tr)} {p : Nat × Tr}, p ∈ ks → p.2.size ≤ sizes ks
  | (c, t) :: ks, p, hp => by
    unfold sizes
    rcases List.mem_cons.mp hp with e | hp
    · subst e
      exact Nat.le_add_right _ _
    · exact Nat.le_trans (sizes_mem hp) (Nat.le_add_left _ _)
theorem depths_mem : ∀ {ks : List (Nat × Tr)} {p : Nat × Tr}, p ∈ ks → p.2.depth ≤ depths ks
  | (c, t) :: ks, p, hp => by
    unfold depths
    rcases List.mem_cons.mp hp with e | hp
    · subst e
      exact Nat.le_max_left _ _
    · exact Nat.le_trans (depths_mem hp) (Nat.le_max_right _ _)
theorem size_pos : ∀ t : Tr, 1 ≤ t.size
  | .stub n => by unfold Tr.size; exact Nat.le_refl _
  | .node s x ks => by unfold Tr.size; omega
theorem depth_pos : ∀ t : Tr, 1 ≤ t.depth
  | .stub n => by unfold Tr.depth; exact Nat.le_refl _
  | .node s x ks => by unfold Tr.depth; omega
theorem sizes_len : ∀ ks : List (Nat × Tr), ks.length ≤ sizes ks
  | [] => Nat.zero_le _
  | (c, t) :: ks => by
    unfold sizes
    have h1 := sizes_len ks
    have h2 := size_pos t
    rw [List.length_cons]
    omega
section
variable {d : Nat} {s : Tx} {x : Option Tx} {ks : List (Nat × Tr)}
theorem Fit.stem (h : Fit d (.node s x ks)) : Lows s ∧ s.length ≤ 9 := by
  have q := h.all
  unfold Tr.All at q
  exact q.1
theorem Fit.val (h : Fit d (.node s x ks)) {l : Tx} (e : x = some l) : l.length ≤ 41 := by
  have q := h.all
  unfold Tr.All at q
  exact (q.2.1 l e).1
theorem Fit.sgn (h : Fit d (.node s x ks)) {l : Tx} (e : x = some l) : Signs l := by
  have q := h.all
  unfold Tr.All at q
  exact (q.2.1 l e).2
theorem Fit.num {n : Nat} (h : Fit d (.stub n)) : n < 10 ^ 40 := by
  have q := h.all
  unfold Tr.All at q
  exact q
theorem Fit.kid (h : Fit (d + 1) (.node s x ks)) {p : Nat × Tr} (hp : p ∈ ks) : (97 ≤ p.1 ∧ p.1 ≤ 122) ∧ Fit d p.2 := by
  have q := h.all
  unfold Tr.All at q
  have a := alls_mem q.2.2 hp
  have hs := h.size
  have hd := h.depth
  unfold Tr.size at hs
  unfold Tr.depth at hd
  have h1 := sizes_mem hp
  have h2 := depths_mem hp
  exact ⟨a.1, a.2, by omega, by omega⟩
theorem Fit.len (h : Fit d (.node s x ks)) : ks.length ≤ 100 := by
  have hs := h.size
  unfold Tr.size at hs
  have := sizes_len ks
  omega
theorem Fit.mono {d' : Nat} {t : Tr} (h : Fit d t) (e : d ≤ d') : Fit d' t := ⟨h.all, h.size, Nat.le_trans h.depth e⟩
theorem Fit.no (h : Fit 0 t) : False := by
  have h1 := h.depth
  have h2 := depth_pos t
  omega
end
section
variable {w : World} {K : PySem.W.Frag} {mg : Str → Option Value} {base : Heap}
/-! ### height -/
def spHS (K : PySem.W.Frag) : Sp := fun vs H Q _ => ∃ (a dx : Addr) (n : Nat), vs = [.ref a] ∧ H a = some (.ins (He.ga K "Stub") dx (fStub n)) ∧ Q (.int 0) H
theorem sc_Stub_height : FnScope ["self"] ["self"] (defScope s_Stub_height) := ⟨rfl, rfl, rfl, by decide +kernel, rfl, by decide +kernel, by decide +kernel⟩
theorem ok_heightS (T : Fx w K mg base) : Ok PR w K mg base d_Stub_height ["self"] 1 (spHS K) := by
  refine Ok.mk (N := ["self"]) T.i_Stub_height sc_Stub_height (fun vs H Q E h => ?_) (fun _ _ _ _ _ _ us hl => match us, hl with | [_], _ => rfl) (fun cdv A outer s H vs Q E hr h => ?_)
  · obtain ⟨_, _, _, rfl, _⟩ := h
    rfl
  · obtain ⟨a, dx, n, rfl, ha, k⟩ := h
    exact ⟨_, PSs.nox (pss_one (ps_ret pe_int)), k⟩
def hts (ks : List (Nat × Tr)) : List Int := ks.map fun p => 1 + (p.2.height : Int)
theorem maxOr_hts : ∀ ks : List (Nat × Tr), SealR.maxOr 0 (hts ks) = (heights ks : Int) := by
  have key : ∀ (ks : List (Nat × Tr)) (n : Nat), (hts ks).foldl max (n : Int) = ((max n (heights ks) : Nat) : Int) := by
    intro ks
    induction ks with
    | nil =>
      intro n
      show (n : Int) = _
      unfold heights
      rw [Nat.max_zero]
    | cons p ks ih =>
      obtain ⟨c, t⟩ := p
      intro n
      show (hts ks).foldl max (max (n : Int) (1 + (t.height : Int))) = _
      have e : max (n : Int) (1 + (t.height : Int)) = ((max n (1 + t.height) : Nat) : Int) := by omega
      rw [e, ih]
      have e2 : heights ((c, t) :: ks) = max (1 + t.height) (heights ks) := by
        conv => lhs; unfold heights
      rw [e2]
      congr 1
      omega
  intro ks
  cases ks with
  | nil =>
    unfold heights
    rfl
  | cons p ks =>
    obtain ⟨c, t⟩ := p
    show (hts ks).foldl max (1 + (t.height : Int)) = _
    have e : (1 + (t.height : Int)) = ((1 + t.height : Nat) : Int) := by omega
    rw [e, key]
    conv => rhs; unfold heights
def spHN (d : Nat) (K : PySem.W.Frag) : Sp := fun vs H Q _ => ∃ (a : Addr) (s : Tx) (x : Option Tx) (ks : List (Nat × Tr)), vs = [.ref a] ∧ PartAt K H (.node s x ks) (.ref a) ∧ Fit d (.node s x ks) ∧
  ∀ H', Keep [] [] H H' → Q (.int ((Tr.node s x ks).height : Int)) H'
theorem sc_Node_height : FnScope ["self", "letter", "kid"] ["self"] (defScope s_Node_height) := ⟨rfl, rfl, rfl, by decide +kernel, rfl, by decide +kernel, by decide +kernel⟩
theorem ok_heightN (T : Fx w K mg base) : ∀ d, Ok PR w K mg base d_Node_height ["self"] (d + 1) (spHN d K)
  | 0 => by
    refine Ok.mk (N := ["self", "letter", "kid"]) T.i_Node_height sc_Node_height (fun vs H Q E h => ?_) (fun _ _ _ _ _ _ us hl => match us, hl with | [_], _ => rfl) (fun cdv A outer s H vs Q E hr h => ?_)
    · obtain ⟨_, _, _, _, rfl, _⟩ := h
      rfl
    · obtain ⟨_, _, _, _, _, _, f, _⟩ := h
      exact f.no.elim
  | d + 1 => by
    obtain ⟨fdN, F_Node_height, b_Node_height, k_Node_height⟩ := ok_heightN T d
    obtain ⟨fdS, F_Stub_height, b_Stub_height, k_Stub_height⟩ := ok_heightS T
    refine Ok.mk (N := ["self", "letter", "kid"]) T.i_Node_height sc_Node_height (fun vs H Q E h => ?_) (fun _ _ _ _ _ _ us hl => match us, hl with | [_], _ => rfl) (fun cdv A outer s H vs Q E hr h => ?_)
    · obtain ⟨_, _, _, _, rfl, _⟩ := h
      rfl
    · obtain ⟨a, s, x, ks, rfl, hP, f, k⟩ := h
      have hu := hu_of hr
      refine ⟨_, PSs.nox (pss_one (ps_ret (pe_op op_add (pe_callB call_len_str rfl T.f_len B_len (pa_cons (pe_fld (pv 0) rfl) pa_nil)) (pe_callBK (SealR.cr_maxDef rfl hu) rfl T.f_max B_max (pa_cons (pe_lc (own := [("letter", 1), ("kid", 2)]) (g := gTup K 2 (gCons (gName 1) (gCons (gName 2) gNil))) (tt := tYes) rfl sc_Node_height.nd (pi_tup (pe_fld (pv 0) rfl)) (blkOk_by (N := ["self", "letter", "kid"]) (sc := defScope s_Node_height) (own := [("letter", 1), ("kid", 2)]) (by decide +kernel)) (fun _ _ _ _ _ => (pg_tup rfl (pgs_cons (pg_name (i := 1) sc_Node_height.nd rfl (Or.inl rfl)) (pgs_cons (pg_name (i := 2) sc_Node_height.nd rfl (Or.inl rfl)) pgs_nil)))) (fun _ _ _ _ _ => pts_nil) (fun _ _ _ _ _ => (pe_op op_add pe_int (SealR.pe_or (pe_meth0 (pv 2) T.c_Node T.m_Node_height F_Node_height (hr.mono (by first | decide | omega)) b_Node_height .nil passL) (pe_meth0 (pv 2) T.c_Stub T.m_Stub_height F_Stub_height (hr.mono (by first | decide | omega)) b_Stub_height .nil passL))))) pa_nil) (pk_cons pe_int pk_nil))))), ?_⟩
      have hP' := hP
      unfold PartAt at hP'
      obtain ⟨a', dx, b, vs, e, ha, hb, hL⟩ := hP'
      cases e
      refine ⟨_, rfl, a, _, dx, _, _, rfl, ha, T.c_Node, T.n_Node_stem, fN_stem, _, rfl, toSzS (Nat.le_trans f.stem.2 (by decide)), ?_⟩
      refine ⟨_, rfl, a, _, dx, _, _, rfl, ha, T.c_Node, T.n_Node_kids, fN_kids, b, rfl, ⟨_, SqT.of hb⟩, fun D hD => ?_⟩
      refine lc_it (walk_tup (xs := vs)) (fun i H' => Keep [] [] H H' ∧ H' D = some (.lst (((hts ks).take i).map V.int))) ⟨Keep.new hD, upd_same⟩ (fun i H' _ h => h.1.sqt (SqT.of hb)) ?_ ?_
      · rintro i y H1 H2 hi ⟨k1, k2⟩ ⟨rfl, hy⟩
        obtain ⟨c, t, p, u, ek, rfl, hp, ht⟩ := partL_get hL hy
        have fk := (f.kid (List.mem_of_getElem? ek)).2
        refine ⟨p, _, rfl, SqT.of (k1.tup hp), rfl, _, _, rfl, _, _, rfl, rfl, rfl, ?_⟩
        have hin : ∀ H3, Keep [] [] H2 H3 → ∃ acc, H3 D = some (HO.lst acc) ∧ acc.length < sizeLine ∧ Keep [] [] H (upd H3 D (.lst (acc ++ [V.int (1 + (t.height : Int))]))) ∧ upd H3 D (.lst (acc ++ [V.int (1 + (t.height : Int))])) D = some (.lst (((hts ks).take (i + 1)).map V.int)) := fun H3 k3 => by
          refine ⟨_, k3.lst k2 (by simp), ?_, (k1.trans k3).put hD, ?_⟩
          · rw [List.length_map, List.length_take]
            have h1 : (hts ks).length = ks.length := List.length_map _
            have h2 := f.len
            exact Nat.lt_of_le_of_lt (Nat.min_le_right _ _) (by rw [h1]; exact Nat.lt_of_le_of_lt h2 (by decide))
          · have e : (hts ks)[i]? = some (1 + (t.height : Int)) := by
              unfold hts
              rw [List.getElem?_map, ek]
              rfl
            rw [upd_same, List.take_succ, e, List.map_append]
            rfl
        have htk := part_keep k1 t u ht
        cases t with
        | stub n =>
          unfold PartAt at htk
          obtain ⟨q, dq, rfl, hq⟩ := htk
          refine .inr ?_
          refine ⟨_, rfl, q, dq, _, rfl, hq, fS_height, q, dq, n, rfl, hq, ?_⟩
          exact ⟨_, _, rfl, rfl, hin H2 (Keep.refl H2)⟩
        | node s2 x2 ks2 =>
          have htk' := htk
          unfold PartAt at htk'
          obtain ⟨q, dq, bq, vq, rfl, hq, _, _⟩ := htk'
          refine .inl ?_
          refine ⟨_, rfl, q, dq, _, rfl, hq, fN_height, q, s2, x2, ks2, rfl, htk, fk, fun H3 k3 => ?_⟩
          exact ⟨_, _, rfl, rfl, hin H3 k3⟩
      · rintro H1 ⟨k1, k2⟩
        have hln : (hts ks).take vs.length = hts ks := List.take_of_length_le (by
          have h1 : (hts ks).length = ks.length := List.length_map _
          rw [h1, partL_len hL]
          exact Nat.le_refl _)
        rw [hln] at k2
        refine ⟨D, hts ks, 0, rfl, rfl, SqL.of k2, _, _, rfl, rfl, ?_⟩
        have q := k H1 k1
        have e : ((S s).length : Int) + SealR.maxOr 0 (hts ks) = ((Tr.node s x ks).height : Int) := by
          rw [maxOr_hts, len_S]
          conv => rhs; unfold Tr.height
          omega
        rw [← e] at q
        exact q
/-! ### all nodes -/
mutual
/-- the instances of all nodes, in order -/
def Nds (K : PySem.W.Frag) (H : Hp) : List Tr → List V → Prop
  | [], vs => vs = []
  | t :: ts, vs => ∃ v r, vs = v :: r ∧ PartAt K H t v ∧ Nds K H ts r
end
theorem nds_keep {L D : List Addr} {H H' : Hp} (k : Keep L D H H') : ∀ {ts vs}, Nds K H ts vs → Nds K H' ts vs
  | [], _, h => h
  | t :: ts, vs, h => by
    unfold Nds at h ⊢
    obtain ⟨v, r, e, h1, h2⟩ := h
    exact ⟨v, r, e, part_keep k t v h1, nds_keep k h2⟩
theorem nds_app {H : Hp} : ∀ {ts ts' vs vs'}, Nds K H ts vs → Nds K H ts' vs' → Nds K H (ts ++ ts') (vs ++ vs')
  | [], _, vs, _, h, h' => by
    unfold Nds at h
    subst h
    exact h'
  | t :: ts, ts', vs, vs', h, h' => by
    unfold Nds at h
    obtain ⟨v, r, e, h1, h2⟩ := h
    subst e
    show Nds K H (t :: (ts ++ ts')) _
    unfold Nds
    exact ⟨v, r ++ vs', rfl, h1, nds_app h2 h'⟩
theorem nds_len {H : Hp} : ∀ {ts vs}, Nds K H ts vs → vs.length = ts.length
  | [], vs, h => by
    unfold Nds at h
    subst h
    rfl
  | t :: ts, vs, h => by
    unfold Nds at h
    obtain ⟨v, r, e, h1, h2⟩ := h
    subst e
    exact congrArg Nat.succ (nds_len h2)
theorem nds_get {H : Hp} : ∀ {ts vs} {i : Nat} {v : V}, Nds K H ts vs → vs[i]? = some v → ∃ t, ts[i]? = some t ∧ PartAt K H t v
  | [], vs, i, v, h, e => by
    unfold Nds at h
    subst h
    simp at e
  | t :: ts, vs, i, v, h, e => by
    unfold Nds at h
    obtain ⟨v', r, e1, h1, h2⟩ := h
    subst e1
    cases i with
    | zero =>
      cases e
      exact ⟨t, rfl, h1⟩
    | succ i => exact nds_get (i := i) h2 e
theorem nodes_len : ∀ t : Tr, t.nodes.length ≤ t.size := by
  refine Tr.ind (fun n => ?_) fun s x ks ih => ?_
  · unfold Tr.nodes
    exact Nat.zero_le _
  · unfold Tr.nodes Tr.size
    have go : ∀ l : List (Nat × Tr), (∀ q ∈ l, q ∈ ks) → (nodess l).length ≤ sizes l := by
      intro l
      induction l with
      | nil => intro _; unfold nodess; exact Nat.zero_le _
      | cons q l ihl =>
        obtain ⟨c, t⟩ := q
        intro hl
        unfold nodess sizes
        have h1 := ih (c, t) (hl _ List.mem_cons_self)
        have h1 : t.nodes.length ≤ t.size := h1
        have h2 := ihl fun q hq => hl q (List.mem_cons_of_mem _ hq)
        rw [List.length_append]
        omega
    have := go ks fun _ h => h
    rw [List.length_cons]
    omega
theorem nodess_len (ks : List (Nat × Tr)) : (nodess ks).length ≤ sizes ks := by
  have := nodes_len (.node [] none ks)
  unfold Tr.nodes Tr.size at this
  rw [List.length_cons] at this
  omega
theorem nodess_app (a b : List (Nat × Tr)) : nodess (a ++ b) = nodess a ++ nodess b := by
  induction a with
  | nil =>
    have e : nodess [] = [] := by unfold nodess; rfl
    rw [e]
    rfl
  | cons p a ih =>
    obtain ⟨c, t⟩ := p
    show nodess ((c, t) :: (a ++ b)) = _
    conv => lhs; unfold nodess
    conv => rhs; lhs; unfold nodess
    rw [ih, List.append_assoc]
theorem sizes_app (a b : List (Nat × Tr)) : sizes (a ++ b) = sizes a + sizes b := by
  induction a with
  | nil =>
    conv => rhs; lhs; unfold sizes
    rw [Nat.zero_add]
    rfl
  | cons p a ih =>
    obtain ⟨c, t⟩ := p
    show sizes ((c, t) :: (a ++ b)) = _
    conv => lhs; unfold sizes
    conv => rhs; lhs; unfold sizes
    rw [ih, Nat.add_assoc]
theorem take_snoc {α : Type} {l : List α} {i : Nat} {a : α} (h : l[i]? = some a) : l.take (i + 1) = l.take i ++ [a] := by
  rw [List.take_succ, h]
  rfl
def spAS (K : PySem.W.Frag) : Sp := fun vs H Q _ => ∃ (a dx : Addr) (n : Nat), vs = [.ref a] ∧ H a = some (.ins (He.ga K "Stub") dx (fStub n)) ∧ ∀ l H', H l = none → Keep [] [] H H' → H' l = some (.lst []) → Q (.ref l) H'
theorem sc_Stub_all_nodes : FnScope ["self"] ["self"] (defScope s_Stub_all_nodes) := ⟨rfl, rfl, rfl, by decide +kernel, rfl, by decide +kernel, by decide +kernel⟩
theorem ok_allS (T : Fx w K mg base) : Ok PR w K mg base d_Stub_all_nodes ["self"] 1 (spAS K) := by
  refine Ok.mk (N := ["self"]) T.i_Stub_all_nodes sc_Stub_all_nodes (fun vs H Q E h => ?_) (fun _ _ _ _ _ _ us hl => match us, hl with | [_], _ => rfl) (fun cdv A outer s H vs Q E hr h => ?_)
  · obtain ⟨_, _, _, rfl, _⟩ := h
    rfl
  · obtain ⟨a, dx, n, rfl, ha, k⟩ := h
    exact ⟨_, PSs.nox (pss_one (ps_ret (pe_lst pa_nil))), by show 0 ≤ sizeLine; exact Nat.zero_le _, fun p hp => k p _ hp (Keep.new hp) upd_same⟩
def spAN (d : Nat) (K : PySem.W.Frag) : Sp := fun vs H Q _ => ∃ (a : Addr) (s : Tx) (x : Option Tx) (ks : List (Nat × Tr)), vs = [.ref a] ∧ PartAt K H (.node s x ks) (.ref a) ∧ Fit d (.node s x ks) ∧
  ∀ l ns H', H l = none → Keep [] [] H H' → H' l = some (.lst ns) → Nds K H' (Tr.node s x ks).nodes ns → Q (.ref l) H'
theorem sc_Node_all_nodes : FnScope ["self", "found", "letter", "kid"] ["self"] (defScope s_Node_all_nodes) := ⟨rfl, rfl, rfl, by decide +kernel, rfl, by decide +kernel, by decide +kernel⟩
theorem ok_allN (T : Fx w K mg base) : ∀ d, Ok PR w K mg base d_Node_all_nodes ["self"] (d + 1) (spAN d K)
  | 0 => by
    refine Ok.mk (N := ["self", "found", "letter", "kid"]) T.i_Node_all_nodes sc_Node_all_nodes (fun vs H Q E h => ?_) (fun _ _ _ _ _ _ us hl => match us, hl with | [_], _ => rfl) (fun cdv A outer s H vs Q E hr h => ?_)
    · obtain ⟨_, _, _, _, rfl, _⟩ := h
      rfl
    · obtain ⟨_, _, _, _, _, _, f, _⟩ := h
      exact f.no.elim
  | d + 1 => by
    obtain ⟨fdN, F_Node_all_nodes, b_Node_all_nodes, k_Node_all_nodes⟩ := ok_allN T d
    obtain ⟨fdS, F_Stub_all_nodes, b_Stub_all_nodes, k_Stub_all_nodes⟩ := ok_allS T
    refine Ok.mk (N := ["self", "found", "letter", "kid"]) T.i_Node_all_nodes sc_Node_all_nodes (fun vs H Q E h => ?_) (fun _ _ _ _ _ _ us hl => match us, hl with | [_], _ => rfl) (fun cdv A outer s H vs Q E hr h => ?_)
    · obtain ⟨_, _, _, _, rfl, _⟩ := h
      rfl
    · obtain ⟨a, s, x, ks, rfl, hP, f, k⟩ := h
      have hu := hu_of hr
      refine ⟨_, PSs.nox (pss_cons (ps_set (i := 1) sc_Node_all_nodes.nd rfl (Or.inl rfl) (pe_lst (pa_cons (pv 0) pa_nil)))
    (pss_cons (ps_for PassesOwn.never rfl (pi_tup (pe_fld (pv 0) rfl)) (pg_tup rfl (pgs_cons (pg_name (i := 2) sc_Node_all_nodes.nd rfl (Or.inl rfl)) (pgs_cons (pg_name (i := 3) sc_Node_all_nodes.nd rfl (Or.inl rfl)) pgs_nil)))
      (pss_one (ps_expr (pe_bm PySem.F.plainAttrs_list PySem.F.slot_list_extend PySem.F.type_list_extend mt_extend (pv 1) (pa_cons (SealR.pe_or (pe_meth0 (pv 3) T.c_Node T.m_Node_all_nodes F_Node_all_nodes (hr.mono (by first | decide | omega)) b_Node_all_nodes .nil passL) (pe_meth0 (pv 3) T.c_Stub T.m_Stub_all_nodes F_Stub_all_nodes (hr.mono (by first | decide | omega)) b_Stub_all_nodes .nil passL)) pa_nil)))))
    (pss_one (ps_ret (pv 1))))), ?_⟩
      have hP' := hP
      unfold PartAt at hP'
      obtain ⟨a', dx, b, vs, e, ha, hb, hL⟩ := hP'
      cases e
      refine ⟨_, rfl, by show 1 ≤ sizeLine; decide, fun D hD => ?_⟩
      have kD : Keep [] [] H (upd H D (.lst [.ref a])) := Keep.new hD
      refine ⟨_, rfl, a, _, dx, _, _, rfl, kD.ins ha, T.c_Node, T.n_Node_kids, fN_kids, b, rfl, ⟨_, SqT.of (kD.tup hb)⟩, ?_⟩
      refine for_it (walk_tup (xs := vs)) (fun i σ H' => (∃ o2 o3, σ = [some (.ref a), some (.ref D), o2, o3]) ∧ Keep [] [] H H' ∧ ∃ ns, H' D = some (.lst ns) ∧ Nds K H' (.node s x ks :: nodess (ks.take i)) ns)
        ⟨⟨_, _, rfl⟩, kD, _, upd_same, ?_⟩ (fun i σ H' _ h => h.2.1.sqt (SqT.of hb)) ?_ ?_
      · rw [List.take_zero]
        unfold nodess Nds
        refine ⟨_, _, rfl, part_keep kD _ _ hP, ?_⟩
        unfold Nds
        rfl
      · rintro i y σ H1 H2 hi ⟨⟨o2, o3, rfl⟩, k1, ns, k2, k3⟩ ⟨rfl, hy⟩
        obtain ⟨c, t, p, u, ek, rfl, hp, ht⟩ := partL_get hL hy
        have fk := (f.kid (List.mem_of_getElem? ek)).2
        refine ⟨p, _, rfl, SqT.of (k1.tup hp), rfl, _, _, rfl, _, _, rfl, rfl, ?_⟩
        refine ⟨_, rfl, .inl ⟨rfl, _, .inl (.inl k2)⟩, ?_⟩
        have hin : ∀ l ms H3, H2 l = none → Keep [] [] H2 H3 → H3 l = some (.lst ms) → Nds K H3 t.nodes ms → H3 D = some (.lst ns) ∧ ns.length + ms.length ≤ sizeLine ∧
            (∃ o2 o3, [some (V.ref a), some (V.ref D), some (tx [c]), some u] = [some (V.ref a), some (V.ref D), o2, o3]) ∧ Keep [] [] H (upd H3 D (.lst (ns ++ ms))) ∧ ∃ ns', upd H3 D (.lst (ns ++ ms)) D = some (.lst ns') ∧ Nds K (upd H3 D (.lst (ns ++ ms))) (.node s x ks :: nodess (ks.take (i + 1))) ns' := fun l ms H3 hl k4 k5 k6 => by
          have e1 := nds_len k3
          have e2 := nds_len k6
          have e3 : (ks.take i ++ [(c, t)]) = ks.take (i + 1) := (take_snoc ek).symm
          have e4 := nodess_len (ks.take (i + 1))
          have e5 : sizes (ks.take (i + 1)) ≤ sizes ks := by
            have q := sizes_app (ks.take (i + 1)) (ks.drop (i + 1))
            rw [List.take_append_drop] at q
            omega
          have e6 := f.size
          unfold Tr.size at e6
          have e7 : nodess (ks.take (i + 1)) = nodess (ks.take i) ++ t.nodes := by
            rw [← e3, nodess_app]
            congr 1
            unfold nodess nodess
            rw [List.append_nil]
          have kk := (k1.trans k4).put (p := D) (o := .lst (ns ++ ms)) hD
          have nD : H3 D = some (.lst ns) := k4.lst k2 (by simp)
          have kD3 : Keep [D] [] H3 (upd H3 D (.lst (ns ++ ms))) := (Keep.refl H3).putL nD (by simp)
          refine ⟨nD, ?_, ⟨_, _, rfl⟩, kk, _, upd_same, ?_⟩
          · rw [e7, List.length_append] at e4
            rw [List.length_cons] at e1
            exact toSz (by omega)
          · rw [e7]
            exact nds_app (nds_keep (k4.mono0.trans kD3) k3) (nds_keep kD3 k6)
        have htk := part_keep k1 t u ht
        cases t with
        | stub n =>
          unfold PartAt at htk
          obtain ⟨q, dq, rfl, hq⟩ := htk
          refine .inr ?_
          refine ⟨_, rfl, q, dq, _, rfl, hq, fS_all, q, dq, n, rfl, hq, fun l H3 hl k4 k5 => ?_⟩
          obtain ⟨h1, h2, h3, h4, h5⟩ := hin l [] H3 hl k4 k5 (by unfold Tr.nodes Nds; rfl)
          exact ⟨D, l, ns, [], rfl, rfl, h1, k5, h2, h3, h4, h5⟩
        | node s2 x2 ks2 =>
          have htk' := htk
          unfold PartAt at htk'
          obtain ⟨q, dq, bq, vq, rfl, hq, _, _⟩ := htk'
          refine .inl ?_
          refine ⟨_, rfl, q, dq, _, rfl, hq, fN_all, q, s2, x2, ks2, rfl, htk, fk, fun l ms H3 hl k4 k5 k6 => ?_⟩
          obtain ⟨h1, h2, h3, h4, h5⟩ := hin l ms H3 hl k4 k5 k6
          exact ⟨D, l, ns, ms, rfl, rfl, h1, k5, h2, h3, h4, h5⟩
      · rintro σ H1 ⟨⟨o2, o3, rfl⟩, k1, ns, k2, k3⟩
        have hln : ks.take vs.length = ks := List.take_of_length_le (by rw [partL_len hL]; exact Nat.le_refl _)
        rw [hln] at k3
        refine ⟨_, rfl, k D ns H1 hD k1 k2 ?_⟩
        unfold Tr.nodes
        exact k3
end
end Seal
/-! SealD4: kids, nodes and stubs made. -/
namespace Seal
open PySem PySem.Spec PyProof.Rows L2 SX
/-! ### which trees are taken -/
def areKids : Tx → List (Nat × Tr) → Bool
  | _, [] => true
  | last, (c, _) :: r => decide (last < [c]) && areKids [c] r
def valOk : Option Tx → Bool
  | none => true
  | some l => isVal l
def nodeOk (s : Tx) (x : Option Tx) (ks : List (Nat × Tr)) : Bool :=
  isKey s && (valOk x && (areKids [] ks && (!(x.isNone && decide (ks.length < 2)) && decide (s.length + heights ks ≤ 8))))
mutual
def Tr.good : Tr → Bool
  | .stub n => decide (n ≤ 10 ^ 30)
  | .node s x ks => goods ks && nodeOk s x ks
def goods : List (Nat × Tr) → Bool
  | [] => true
  | (_, t) :: r => t.good && goods r
end
section
variable {K : PySem.W.Frag} {H H' : Hp}
/-- as part_keep; an instance without fields may have changed -/
theorem part_keep2 (kt : ∀ b xs, H b = some (.tup xs) → H' b = some (.tup xs)) (ki : ∀ b C dx fs, fs ≠ [] → H b = some (.ins C dx fs) → H' b = some (.ins C dx fs)) : ∀ t v, PartAt K H t v → PartAt K H' t v := by
  refine Tr.ind (fun n v h => ?_) fun s x ks ih v h => ?_
  · unfold PartAt at h ⊢
    obtain ⟨a, dx, e, h⟩ := h
    exact ⟨a, dx, e, ki _ _ _ _ (List.cons_ne_nil _ _) h⟩
  · unfold PartAt at h ⊢
    obtain ⟨a, dx, b, vs, e, h1, h2, h3⟩ := h
    refine ⟨a, dx, b, vs, e, ki _ _ _ _ (List.cons_ne_nil _ _) h1, kt _ _ h2, ?_⟩
    clear h2
    induction ks generalizing vs with
    | nil => exact h3
    | cons p ks ihk =>
      obtain ⟨c, t⟩ := p
      unfold PartL at h3 ⊢
      obtain ⟨a', u, r, e1, e2, e3, e4⟩ := h3
      exact ⟨a', u, r, e1, kt _ _ e2, ih (c, t) List.mem_cons_self u e3, ihk (fun q hq => ih q (List.mem_cons_of_mem _ hq)) r e4⟩
theorem partL_keep2 (kt : ∀ b xs, H b = some (.tup xs) → H' b = some (.tup xs)) (ki : ∀ b C dx fs, fs ≠ [] → H b = some (.ins C dx fs) → H' b = some (.ins C dx fs)) : ∀ {ks vs}, PartL K H ks vs → PartL K H' ks vs
  | [], _, h => h
  | (c, t) :: ks, vs, h => by
    unfold PartL at h ⊢
    obtain ⟨a', u, r, e1, e2, e3, e4⟩ := h
    exact ⟨a', u, r, e1, kt _ _ e2, part_keep2 kt ki t u e3, partL_keep2 kt ki e4⟩
end
/-- all stays but the object at p -/
structure KeepP (p : Addr) (H H' : Hp) : Prop where
  dom : ∀ b, H' b = none → H b = none
  at_ : ∀ b o, H b = some o → b ≠ p → H' b = some o
theorem KeepP.of {p : Addr} {H H' : Hp} (k : Keep [] [] H H') : KeepP p H H' := ⟨k.dom, fun b o e _ => k.at_ b o e (fun _ _ => by simp) fun _ _ => by simp⟩
theorem KeepP.trans {p : Addr} {H H1 H2 : Hp} (a : KeepP p H H1) (b : KeepP p H1 H2) : KeepP p H H2 := ⟨fun c h => a.dom c (b.dom c h), fun c o h n => b.at_ c o (a.at_ c o h n) n⟩
theorem KeepP.put {p : Addr} {H H1 : Hp} {o : HO} (a : KeepP p H H1) : KeepP p H (upd H1 p o) := ⟨fun b h => by
    by_cases hb : b = p
    · rw [hb, upd_same] at h
      cases h
    · rw [upd_ne hb] at h
      exact a.dom b h, fun b u e n => by rw [upd_ne n]; exact a.at_ b u e n⟩
theorem KeepP.new {p b : Addr} {H : Hp} {o : HO} (h : H b = none) : KeepP p H (upd H b o) := ⟨fun c e => by
    by_cases hc : c = b
    · rw [hc, upd_same] at e
      cases e
    · rwa [upd_ne hc] at e, fun c u e n => by rw [upd_ne (ne_of_none e h)]; exact e⟩
/-- what was made ahead of it was not there -/
theorem KeepP.keep {p : Addr} {H0 H H' : Hp} {L D : List Addr} (a : KeepP p H H') (k : Keep L D H0 H) (h : H0 p = none) : Keep L D H0 H' :=
  ⟨fun b e => k.dom b (a.dom b e), fun b o e h1 h2 => a.at_ b o (k.at_ b o e h1 h2) (ne_of_none e h)⟩
section
variable {w : World} {K : PySem.W.Frag} {mg : Str → Option Value} {base : Heap}
/-! ### are_kids -/
def Lets (ks : List (Nat × Tr)) : Prop := ∀ p ∈ ks, 97 ≤ p.1 ∧ p.1 ≤ 122
def spAreKids (K : PySem.W.Frag) : Sp := fun vs H Q _ => ∃ (l : Addr) (us : List V) (ks : List (Nat × Tr)), vs = [.ref l] ∧ H l = some (.lst us) ∧ PartL K H ks us ∧ Lets ks ∧ ∀ H', Keep [] [] H H' → Q (.bl (areKids [] ks)) H'
theorem le_txt (a b : Tx) : (!decide ((S b).cps.toList < (S a).cps.toList)) = !decide (b < a) := rfl
theorem sc_are_kids : FnScope ["kids", "last", "pair", "letter", "kid"] ["kids"] (defScope s_are_kids) := ⟨rfl, rfl, rfl, by decide +kernel, rfl, by decide +kernel, by decide +kernel⟩
theorem ok_are_kids (T : Fx w K mg base) : Ok PR w K mg base d_are_kids ["kids"] 2 (spAreKids K) := by
  obtain ⟨fd_is_key, F_is_key, b_is_key, k_is_key⟩ := ok_is_key T
  refine Ok.mk (N := ["kids", "last", "pair", "letter", "kid"]) T.i_are_kids sc_are_kids (fun vs H Q E h => ?_) (fun _ _ _ _ _ _ us hl => match us, hl with | [_], _ => rfl) (fun cdv A outer s H vs Q E hr h => ?_)
  · obtain ⟨_, _, _, rfl, _⟩ := h
    rfl
  · obtain ⟨l, us, ks, rfl, hl, hL, hks, k⟩ := h
    refine ⟨_, PSs.nox (pss_cons (ps_if (pt_not (pt_val (pe_callB call_isiT rfl T.f_isinstance B_isinstance (pa_cons (pv 0) (pa_cons (pe_tup (pa_cons (pe_bltn (v := .ty "list") rfl T.f_list B_list rfl) (pa_cons (pe_bltn (v := .ty "tuple") rfl T.f_tuple B_tuple rfl) pa_nil))) pa_nil)))))
      (pss_one (ps_ret pe_bl))
      pss_nil)
    (pss_cons (ps_set (i := 1) sc_are_kids.nd rfl (Or.inl rfl) pe_str)
    (pss_cons (ps_for PassesOwn.never rfl (pi_list (pv 0)) (pg_name (i := 2) sc_are_kids.nd rfl (Or.inl rfl))
      (pss_cons (ps_if (PW.pt (pw_or (pt_not (pt_val (pe_callB call_isi rfl T.f_isinstance B_isinstance (pa_cons (pv 2) (pa_cons (pe_bltn (v := .ty "tuple") rfl T.f_tuple B_tuple rfl) pa_nil))))) (pw_or1 (pt_cmpR op_ne (pe_callB call_len_seq rfl T.f_len B_len (pa_cons (pv 2) pa_nil)) pe_int (nomark _)))))
        (pss_one (ps_ret pe_bl))
        pss_nil)
      (pss_cons (ps_asg (pv 2) (pg_tup rfl (pgs_cons (pg_name (i := 3) sc_are_kids.nd rfl (Or.inl rfl)) (pgs_cons (pg_name (i := 4) sc_are_kids.nd rfl (Or.inl rfl)) pgs_nil))))
      (pss_cons (ps_if (PW.pt (pw_or (pt_not (pt_val (pe_call F_is_key (hr.mono (by first | decide | omega)) rfl T.g_is_key k_is_key b_is_key .nil passL (pa_cons (pv 3) pa_nil)))) (pw_or (pt_cmpR op_ne (pe_callB call_len_str rfl T.f_len B_len (pa_cons (pv 3) pa_nil)) pe_int (nomark _)) (pw_or (pt_cmpR op_le_str (pv 3) (pv 1) (nomark _)) (pw_or1 (pt_not (pt_val (pe_callB call_isi rfl T.f_isinstance B_isinstance (pa_cons (pv 4) (pa_cons (C8.pe_gc (v := .ref (He.ga K "Part")) rfl ⟨_, T.g_Part, rfl⟩) pa_nil))))))))))
        (pss_one (ps_ret pe_bl))
        pss_nil)
      (pss_one (ps_set (i := 1) sc_are_kids.nd rfl (Or.inl rfl) (pv 3)))))))
    (pss_one (ps_ret pe_bl))))), ?_⟩
    refine ⟨_, rfl, by show 2 ≤ sizeLine; decide, fun tp htp => ?_⟩
    have k0 : Keep [] [] H (upd H tp (.tup [.ty "list", .ty "tuple"])) := Keep.new htp
    refine ⟨.ref l, tp, [.ty "list", .ty "tuple"], .type "list", [.type "list", .type "tuple"], true, rfl, upd_same, .cons (.ty _) (.cons (.ty _) .nil), .base (.lst (k0.lst hl (by simp))), ?_, _, rfl, ?_⟩
    · exact kitAny_cons (kit_ty (r := true) (by decide +kernel)) (fun z => nomatch z) fun _ => rfl
    refine iteF ?_
    refine ⟨_, rfl, _, rfl, ⟨_, SqL.of (k0.lst hl (by simp))⟩, ?_⟩
    refine for_it (walk_list (xs := us)) (fun i σ H' => (∃ lt o2 o3 o4, σ = [some (.ref l), some (tx lt), o2, o3, o4] ∧ areKids [] ks = areKids lt (ks.drop i)) ∧ Keep [] [] H H')
      ⟨⟨[], _, _, _, congrArg (fun z => [some (V.ref l), some (V.str z), none, none, none]) L_nil, rfl⟩, k0⟩ (fun i σ H' _ h => SqL.of (h.2.lst hl (by simp))) ?_ ?_
    · rintro i y σ H1 H2 hi ⟨⟨lt, o2, o3, o4, rfl, hk⟩, k1⟩ ⟨rfl, hy⟩
      obtain ⟨c, t, p, u, ek, rfl, hp, ht⟩ := partL_get hL hy
      have hp' := k1.tup hp
      have hc := hks _ (List.mem_of_getElem? ek)
      have hdr : ks.drop i = (c, t) :: ks.drop (i + 1) := by
        have h1 := (List.getElem?_eq_some_iff.mp ek)
        obtain ⟨h1, h2⟩ := h1
        rw [List.drop_eq_getElem_cons h1, h2]
      refine ⟨_, rfl, _, _, _, _, _, rfl, .ty _, .base (.tup hp'), kit_ty (r := true) (by decide +kernel), _, rfl, ?_⟩
      refine iteF ?_
      refine ⟨_, rfl, _, _, rfl, .inr (SqT.of hp'), rfl, _, rfl, ?_⟩
      refine iteF ?_
      refine ⟨_, rfl, p, _, rfl, SqT.of hp', rfl, _, _, rfl, _, _, rfl, rfl, ?_⟩
      refine ⟨_, rfl, [c], rfl, by show 1 ≤ 1000; decide, fun H3 k3 => ?_⟩
      have hik : isKey [c] = true := isKey_iff.mpr ⟨by show 1 ≤ 8; decide, fun z hz => by rw [List.mem_singleton.mp hz]; exact hc⟩
      have k13 := k1.trans k3
      refine ⟨_, rfl, ?_⟩
      rw [hik]
      refine iteF ?_
      refine ⟨_, rfl, _, rfl, by show 1 ≤ sizeLine; decide, rfl, _, rfl, ?_⟩
      refine iteF ?_
      refine ⟨_, rfl, _, rfl, _, _, rfl, rfl, _, rfl, ?_⟩
      have hcmp : areKids [] ks = (decide (lt < [c]) && areKids [c] (ks.drop (i + 1))) := by
        rw [hk, hdr]
        rfl
      by_cases hlt : lt < [c]
      · rw [le_txt, decide_eq_true hlt]
        refine iteF ?_
        have htk := part_keep k13 t u ht
        have fin : areKids [] ks = areKids [c] (ks.drop (i + 1)) := by
          rw [hcmp, decide_eq_true hlt]
          rfl
        cases t with
        | stub n =>
          unfold PartAt at htk
          obtain ⟨q, dq, rfl, hq⟩ := htk
          refine ⟨_, rfl, _, _, _, _, true, rfl, .own _, T.tyS hq, T.ex2.kSP, _, rfl, ?_⟩
          refine iteF ?_
          exact ⟨_, rfl, ⟨[c], _, _, _, rfl, fin⟩, k13⟩
        | node s2 x2 ks2 =>
          unfold PartAt at htk
          obtain ⟨q, dq, bq, vq, rfl, hq, _, _⟩ := htk
          refine ⟨_, rfl, _, _, _, _, true, rfl, .own _, T.tyN hq, T.ex2.kNP, _, rfl, ?_⟩
          refine iteF ?_
          exact ⟨_, rfl, ⟨[c], _, _, _, rfl, fin⟩, k13⟩
      · rw [le_txt, decide_eq_false hlt]
        refine iteT ?_
        have q := k H3 k13
        rw [hcmp, decide_eq_false hlt] at q
        exact q
    · rintro σ H1 ⟨⟨lt, o2, o3, o4, rfl, hk⟩, k1⟩
      have hln : ks.drop us.length = [] := List.drop_eq_nil_of_le (by rw [partL_len hL]; exact Nat.le_refl _)
      have q := k H1 k1
      rw [hk, hln] at q
      exact q
/-! ### a stub made -/
def spStubI (K : PySem.W.Frag) : Sp := fun vs H Q E => ∃ (p dx : Addr) (n : Nat), vs = [.ref p, .int (n : Int)] ∧ H p = some (.ins (He.ga K "Stub") dx []) ∧
  (n ≤ 10 ^ 30 → Q .non (upd H p (.ins (He.ga K "Stub") dx (fStub n)))) ∧ (¬ n ≤ 10 ^ 30 → E (.ref (He.ga K "BadNode")) none H)
theorem sc_Stub_init : FnScope ["self", "number"] ["self", "number"] (defScope s_Stub_init) := ⟨rfl, rfl, rfl, by decide +kernel, rfl, by decide +kernel, by decide +kernel⟩
theorem ok_StubI (T : Fx w K mg base) : Ok PR w K mg base d_Stub_init ["self", "number"] 2 (spStubI K) := by
  obtain ⟨fd_is_number, F_is_number, b_is_number, k_is_number⟩ := ok_is_number T
  refine Ok.mk (N := ["self", "number"]) T.i_Stub_init sc_Stub_init (fun vs H Q E h => ?_) (fun _ _ _ _ _ _ us hl => match us, hl with | [_, _], _ => rfl) (fun cdv A outer s H vs Q E hr h => ?_)
  · obtain ⟨_, _, _, rfl, _⟩ := h
    rfl
  · obtain ⟨p, dx, n, rfl, hp, kq, ke⟩ := h
    refine ⟨_, (pss_cons (ps_if (pt_not (pt_val (pe_call F_is_number (hr.mono (by first | decide | omega)) rfl T.g_is_number k_is_number b_is_number .nil passL (pa_cons (pv 1) pa_nil))))
      (pss_one (ps_raise rfl (takes_of rfl rfl rfl rfl) (pmk_own PySem.F.excBase_ValueError T.x_BadNode.1 T.g_BadNode T.x_BadNode.2.1 (raises_own T.x_BadNode.2.2.1 T.x_BadNode.2.2.2) rfl)))
      pss_nil)
    (pss_one (ps_fld (pv 0) (pv 1) rfl))), ?_⟩
    refine ⟨_, rfl, n, rfl, _, rfl, ?_⟩
    by_cases hn : n ≤ 10 ^ 30
    · rw [decide_eq_true hn]
      refine iteF ?_
      exact ⟨_, rfl, _, rfl, p, _, dx, _, rfl, hp, T.c_Stub, T.n_Stub_number, by show 0 < 1000; decide, kq hn⟩
    · rw [decide_eq_false hn]
      exact iteT (ke hn)
/-! ### a node made -/
def spNodeI (d : Nat) (K : PySem.W.Frag) : Sp := fun vs H Q E => ∃ (p dx l : Addr) (us : List V) (s : Tx) (x : Option Tx) (ks : List (Nat × Tr)), vs = [.ref p, tx s, txO x, .ref l] ∧ H p = some (.ins (He.ga K "Node") dx []) ∧ H l = some (.lst us) ∧ PartL K H ks us ∧ Fit d (.node s x ks) ∧
  (∀ b H', KeepP p H H' → H' p = some (.ins (He.ga K "Node") dx (fNode s x b)) → H' b = some (.tup us) → Q .non H') ∧ (nodeOk s x ks = false → ∀ H', KeepP p H H' → E (.ref (He.ga K "BadNode")) none H')
theorem sc_Node_init : FnScope ["self", "stem", "value", "kids"] ["self", "stem", "value", "kids"] (defScope s_Node_init) := ⟨rfl, rfl, rfl, by decide +kernel, rfl, by decide +kernel, by decide +kernel⟩
theorem put3 (s : Tx) (x : Option Tx) (b : Addr) : putF "kids" (.ref b) (putF "value" (txO x) (putF "stem" (tx s) [])) = fNode s x b := rfl
theorem ok_NodeI (T : Fx w K mg base) (d : Nat) : Ok PR w K mg base d_Node_init ["self", "stem", "value", "kids"] (d + 3) (spNodeI d K) := by
  obtain ⟨fd_is_key, F_is_key, b_is_key, k_is_key⟩ := ok_is_key T
  obtain ⟨fd_is_value, F_is_value, b_is_value, k_is_value⟩ := ok_is_value T
  obtain ⟨fd_are_kids, F_are_kids, b_are_kids, k_are_kids⟩ := ok_are_kids T
  obtain ⟨fd_h, F_Node_height, b_Node_height, k_Node_height⟩ := ok_heightN T d
  refine Ok.mk (N := ["self", "stem", "value", "kids"]) T.i_Node_init sc_Node_init (fun vs H Q E h => ?_) (fun _ _ _ _ _ _ us hl => match us, hl with | [_, _, _, _], _ => rfl) (fun cdv A outer s H vs Q E hr h => ?_)
  · obtain ⟨_, _, _, _, _, _, _, rfl, _⟩ := h
    rfl
  · obtain ⟨p, dx, l, us, st, x, ks, rfl, hp, hl, hL, f, kq, ke⟩ := h
    refine ⟨_, (C8.pss_cut (ps_if (PW.pt (pw_or (pt_not (pt_val (pe_call F_is_key (hr.mono (by first | decide | omega)) rfl T.g_is_key k_is_key b_is_key .nil passL (pa_cons (pv 1) pa_nil)))) (pw_or (PW.pt (pw_and (pt_cmpR op_notN (pv 2) pe_non (nomark _)) (pw_and1 (pt_not (pt_val (pe_call F_is_value (hr.mono (by first | decide | omega)) rfl T.g_is_value k_is_value b_is_value .nil passL (pa_cons (pv 2) pa_nil))))))) (pw_or1 (pt_not (pt_val (pe_call F_are_kids (hr.mono (by first | decide | omega)) rfl T.g_are_kids k_are_kids b_are_kids .nil passL (pa_cons (pv 3) pa_nil))))))))
      (pss_one (ps_raise rfl (takes_of rfl rfl rfl rfl) (pmk_own PySem.F.excBase_ValueError T.x_BadNode.1 T.g_BadNode T.x_BadNode.2.1 (raises_own T.x_BadNode.2.2.1 T.x_BadNode.2.2.2) rfl)))
      pss_nil)
    (C8.pss_cut (ps_if (PW.pt (pw_and (pt_cmpR op_isN (pv 2) pe_non (nomark _)) (pw_and1 (pt_cmpR op_lt (pe_callB call_len_seq rfl T.f_len B_len (pa_cons (pv 3) pa_nil)) pe_int (nomark _)))))
      (pss_one (ps_raise rfl (takes_of rfl rfl rfl rfl) (pmk_own PySem.F.excBase_ValueError T.x_BadNode.1 T.g_BadNode T.x_BadNode.2.1 (raises_own T.x_BadNode.2.2.1 T.x_BadNode.2.2.2) rfl)))
      pss_nil)
    (pss_cons (ps_fld (pv 0) (pv 1) rfl)
    (pss_cons (ps_fld (pv 0) (pv 2) rfl)
    (pss_cons (ps_fld (pv 0) (pe_callTy call_tuple_of rfl T.f_tuple B_tuple (pa_cons (pv 3) pa_nil)) rfl)
    (pss_one (ps_if (pt_cmpR op_gt (pe_meth0 (pv 0) T.c_Node T.m_Node_height F_Node_height (hr.mono (by first | decide | omega)) b_Node_height .nil passL) (C8.pe_gc rfl T.v_MOST_LETTERS) (nomark _))
      (pss_one (ps_raise rfl (takes_of rfl rfl rfl rfl) (pmk_own PySem.F.excBase_ValueError T.x_BadNode.1 T.g_BadNode T.x_BadNode.2.1 (raises_own T.x_BadNode.2.2.1 T.x_BadNode.2.2.2) rfl)))
      pss_nil))))))), ?_⟩
    have kids : Lets ks := fun q hq => by
      have h1 := f.all
      unfold Tr.All at h1
      exact (alls_mem h1.2.2 hq).1
    have lk : ks.length = us.length := (partL_len hL).symm
    refine ⟨fun σ H' => σ = [some (.ref p), some (tx st), some (txO x), some (.ref l)] ∧ Keep [] [] H H' ∧ isKey st = true ∧ valOk x = true ∧ areKids [] ks = true, ?_, ?_⟩
    · refine ⟨_, rfl, st, rfl, Nat.le_trans f.stem.2 (by decide), fun H1 k1 => ⟨_, rfl, ?_⟩⟩
      cases e1 : isKey st with
      | false => exact ke (by unfold nodeOk; rw [e1]; rfl) H1 (KeepP.of k1)
      | true =>
        refine iteF ?_
        have third : ∀ H2, Keep [] [] H H2 → valOk x = true → ∀ H3, Keep [] [] H2 H3 → (areKids [] ks = false → E (.ref (He.ga K "BadNode")) none H3) := fun H2 k2 hv H3 k3 ha => ke (by
          unfold nodeOk
          rw [e1, hv, ha]
          rfl) H3 (KeepP.of (k2.trans k3))
        refine ⟨_, rfl, rfl, _, rfl, ?_⟩
        rw [txO_dec]
        cases x with
        | none =>
          refine iteF ?_
          refine iteF ?_
          refine ⟨_, rfl, l, us, ks, rfl, k1.lst hl (by simp), partL_keep k1 hL, kids, fun H3 k3 => ⟨_, rfl, ?_⟩⟩
          cases e3 : areKids [] ks with
          | false => exact third H1 k1 rfl H3 k3 e3
          | true => exact iteF ⟨rfl, k1.trans k3, rfl, rfl, rfl⟩
        | some z =>
          refine iteT ?_
          refine ⟨_, rfl, z, rfl, Nat.le_trans (f.val rfl) (by decide), fun H2 k2 => ⟨_, rfl, ?_⟩⟩
          have k12 := k1.trans k2
          cases e2 : isVal z with
          | false =>
            refine ke ?_ H2 (KeepP.of k12)
            have ev : valOk (some z) = false := e2
            unfold nodeOk
            rw [e1, ev]
            rfl
          | true =>
            refine iteF ?_
            refine ⟨_, rfl, l, us, ks, rfl, k12.lst hl (by simp), partL_keep k12 hL, kids, fun H3 k3 => ⟨_, rfl, ?_⟩⟩
            cases e3 : areKids [] ks with
            | false => exact third H2 k12 e2 H3 k3 e3
            | true => exact iteF ⟨rfl, k12.trans k3, rfl, e2, rfl⟩
    · rintro σ H1 ⟨rfl, k1, e1, e2, e3⟩
      refine ⟨fun σ H' => σ = [some (.ref p), some (tx st), some (txO x), some (.ref l)] ∧ H' = H1, ?_, ?_⟩
      · refine ⟨_, rfl, rfl, _, rfl, ?_⟩
        rw [txO_dec]
        have bad : (x.isNone && decide (ks.length < 2)) = true → E (.ref (He.ga K "BadNode")) none H1 := fun z => ke (by
          unfold nodeOk
          rw [e1, e2, e3, z]
          rfl) H1 (KeepP.of k1)
        cases x with
        | none =>
          refine iteT ?_
          refine ⟨_, rfl, _, _, rfl, .inl (SqL.of (k1.lst hl (by simp))), _, _, rfl, rfl, _, rfl, ?_⟩
          by_cases h2 : ks.length < 2
          · have e : decide ((us.length : Int) < 2) = true := decide_eq_true (by omega)
            rw [e]
            exact bad (decide_eq_true h2)
          · have e : decide ((us.length : Int) < 2) = false := decide_eq_false (by omega)
            rw [e]
            exact iteF ⟨rfl, rfl⟩
        | some z => exact iteF (iteF ⟨rfl, rfl⟩)
      · rintro σ H2 ⟨rfl, he⟩
        subst he
        have npl : l ≠ p := ne_of hl hp (by intro z; cases z)
        refine ⟨_, rfl, _, rfl, p, _, dx, _, rfl, k1.ins hp, T.c_Node, T.n_Node_stem, (by show 0 < 1000; decide), ?_⟩
        refine ⟨_, rfl, _, rfl, p, _, dx, _, rfl, upd_same, T.c_Node, T.n_Node_value, (by show 1 < 1000; decide), ?_⟩
        rw [upd_upd]
        refine ⟨_, rfl, l, us, rfl, .inl ⟨SqL.of (by rw [upd_ne npl]; exact k1.lst hl (by simp)), fun b hb => ?_⟩⟩
        have nbp : p ≠ b := ne_of_none upd_same hb
        refine ⟨_, rfl, p, _, dx, _, rfl, (by rw [upd_ne nbp, upd_same]), T.c_Node, T.n_Node_kids, (by show 2 < 1000; decide), ?_⟩
        rw [put3]
        generalize hH : upd (upd (upd H2 p (.ins (He.ga K "Node") dx (putF "value" (txO x) (putF "stem" (tx st) [])))) b (.tup us)) p (.ins (He.ga K "Node") dx (fNode st x b)) = H4
        have hH4p : H4 p = some (.ins (He.ga K "Node") dx (fNode st x b)) := by rw [← hH, upd_same]
        have hH4b : H4 b = some (.tup us) := by rw [← hH, upd_ne nbp.symm, upd_same]
        have hb2 : H2 b = none := by
          rw [upd_ne nbp.symm] at hb
          exact hb
        have kp : KeepP p H H4 := by
          rw [← hH]
          exact KeepP.put (KeepP.trans (KeepP.put (KeepP.of k1)) (KeepP.new hb))
        have hL4 : PartL K H4 ks us := partL_keep2 (fun c xs e => kp.at_ c _ e (ne_of e hp (by intro z; cases z))) (fun c C dy fs hne e => kp.at_ c _ e (ne_of e hp (by intro z; injection z with z1 z2 z3; exact hne z3))) hL
        have hP4 : PartAt K H4 (.node st x ks) (.ref p) := by
          unfold PartAt
          exact ⟨p, dx, b, us, rfl, hH4p, hH4b, hL4⟩
        refine ⟨_, rfl, p, dx, _, rfl, hH4p, fN_height, p, st, x, ks, rfl, hP4, f, fun H5 k5 => ⟨_, _, rfl, rfl, _, rfl, ?_⟩⟩
        have kp5 := kp.trans (KeepP.of k5)
        have eh : (Tr.node st x ks).height = st.length + heights ks := by
          conv => lhs; unfold Tr.height
        by_cases h8 : (8 : Int) < ((Tr.node st x ks).height : Int)
        · rw [decide_eq_true h8]
          refine iteT (ke ?_ H5 kp5)
          unfold nodeOk
          rw [decide_eq_false (by omega : ¬ st.length + heights ks ≤ 8)]
          simp
        · rw [decide_eq_false h8]
          exact iteF (kq b H5 kp5 (k5.ins hH4p) (k5.tup hH4b))
end
end Seal
/-! SealD5: what is told, made. -/
namespace Seal
open PySem PySem.Spec PyProof.Rows L2 SX
section
variable {w : World} {K : PySem.W.Frag} {mg : Str → Option Value} {base : Heap}
def spPartOf (d : Nat) (K : PySem.W.Frag) : Sp := fun vs H Q E => ∃ (v : V) (t : Tr), vs = [v] ∧ Tells H t v ∧ Fit d t ∧ (∀ u H', Keep [] [] H H' → PartAt K H' t u → Q u H') ∧ (t.good = false → ∀ H', Keep [] [] H H' → E (.ref (He.ga K "BadNode")) none H')
def spKidOf (d : Nat) (K : PySem.W.Frag) : Sp := fun vs H Q E => ∃ (a : Addr) (c : Nat) (v : V) (t : Tr), vs = [.ref a] ∧ H a = some (.tup [tx [c], v]) ∧ Tells H t v ∧ Fit d t ∧
  (∀ p u H', Keep [] [] H H' → H' p = some (.tup [tx [c], u]) → PartAt K H' t u → Q (.ref p) H') ∧ (t.good = false → ∀ H', Keep [] [] H H' → E (.ref (He.ga K "BadNode")) none H')
theorem sc_part_of : FnScope ["told", "pair"] ["told"] (defScope s_part_of) := ⟨rfl, rfl, rfl, by decide +kernel, rfl, by decide +kernel, by decide +kernel⟩
theorem sc_kid_of : FnScope ["pair"] ["pair"] (defScope s_kid_of) := ⟨rfl, rfl, rfl, by decide +kernel, rfl, by decide +kernel, by decide +kernel⟩
theorem ok_kid_of (T : Fx w K mg base) (d : Nat) (G : Ok PR w K mg base d_part_of ["told"] (3 * d + 6) (spPartOf d K)) : Ok PR w K mg base d_kid_of ["pair"] (3 * d + 7) (spKidOf d K) := by
  obtain ⟨fd_part_of, F_part_of, b_part_of, k_part_of⟩ := G
  refine Ok.mk (N := ["pair"]) T.i_kid_of sc_kid_of (fun vs H Q E h => ?_) (fun _ _ _ _ _ _ us hl => match us, hl with | [_], _ => rfl) (fun cdv A outer s H vs Q E hr h => ?_)
  · obtain ⟨_, _, _, _, rfl, _⟩ := h
    rfl
  · obtain ⟨a, c, v, t, rfl, ha, ht, f, kq, ke⟩ := h
    refine ⟨_, (pss_cons (ps_if (PW.pt (pw_or (pt_not (pt_val (pe_callB call_isi rfl T.f_isinstance B_isinstance (pa_cons (pv 0) (pa_cons (pe_bltn (v := .ty "tuple") rfl T.f_tuple B_tuple rfl) pa_nil))))) (pw_or1 (pt_cmpR op_ne (pe_callB call_len_seq rfl T.f_len B_len (pa_cons (pv 0) pa_nil)) pe_int (nomark _)))))
      (pss_one (ps_raise rfl (takes_of rfl rfl rfl rfl) (pmk_own PySem.F.excBase_ValueError T.x_BadNode.1 T.g_BadNode T.x_BadNode.2.1 (raises_own T.x_BadNode.2.2.1 T.x_BadNode.2.2.2) rfl)))
      pss_nil)
    (pss_one (ps_ret (pe_tup (pa_cons (pe_ix ix_tup (pv 0) pe_int (fun _ _ => rfl)) (pa_cons (pe_call F_part_of (hr.mono (by first | decide | omega)) rfl T.g_part_of k_part_of b_part_of .nil passX (pa_cons (pe_ix ix_tup (pv 0) pe_int (fun _ _ => rfl)) pa_nil)) pa_nil)))))), ?_⟩
    refine ⟨_, rfl, _, _, _, _, _, rfl, .ty _, .base (.tup ha), kit_ty (r := true) (by decide +kernel), _, rfl, ?_⟩
    refine iteF ?_
    refine ⟨_, rfl, _, _, rfl, .inr (SqT.of ha), rfl, _, rfl, ?_⟩
    refine iteF ?_
    refine ⟨_, rfl, a, _, _, _, rfl, rfl, SqT.of ha, rfl, ?_⟩
    refine ⟨_, rfl, a, _, _, _, rfl, rfl, SqT.of ha, rfl, ?_⟩
    refine ⟨v, t, rfl, ht, f, fun u H1 k1 hp => ?_, fun hg H1 k1 => ke hg H1 k1⟩
    refine ⟨by show 2 ≤ sizeLine; decide, fun p hp1 => ?_⟩
    have k2 : Keep [] [] H1 (upd H1 p (.tup [tx [c], u])) := Keep.new hp1
    exact kq p u _ (k1.trans k2) upd_same (part_keep k2 _ _ hp)
theorem goods_false {ks : List (Nat × Tr)} {p : Nat × Tr} (hp : p ∈ ks) (h : p.2.good = false) : goods ks = false := by
  induction ks with
  | nil => cases hp
  | cons q ks ih =>
    obtain ⟨c, t⟩ := q
    unfold goods
    rcases List.mem_cons.mp hp with e | hp
    · subst e
      have h : t.good = false := h
      rw [h]
      rfl
    · rw [ih hp, Bool.and_false]
theorem ok_part_of (T : Fx w K mg base) : ∀ d, Ok PR w K mg base d_part_of ["told"] (3 * d + 6) (spPartOf d K)
  | 0 => by
    refine Ok.mk (k := 5) (N := ["told", "pair"]) T.i_part_of sc_part_of (fun vs H Q E h => ?_) (fun _ _ _ _ _ _ us hl => match us, hl with | [_], _ => rfl) (fun cdv A outer s H vs Q E hr h => ?_)
    · obtain ⟨_, _, rfl, _⟩ := h
      rfl
    · obtain ⟨_, _, _, _, f, _⟩ := h
      exact f.no.elim
  | d + 1 => by
    obtain ⟨fd_kid_of, F_kid_of, b_kid_of, k_kid_of⟩ := ok_kid_of T d (ok_part_of T d)
    obtain ⟨fd_Stub, F_Stub, b_Stub, k_Stub⟩ := ok_StubI T
    obtain ⟨fd_Node, F_Node, b_Node, k_Node⟩ := ok_NodeI T (d + 1)
    refine Ok.mk (k := 3 * d + 8) (N := ["told", "pair"]) T.i_part_of sc_part_of (fun vs H Q E h => ?_) (fun _ _ _ _ _ _ us hl => match us, hl with | [_], _ => rfl) (fun cdv A outer s H vs Q E hr h => ?_)
    · obtain ⟨_, _, rfl, _⟩ := h
      rfl
    · obtain ⟨v, t, rfl, ht, f, kq, ke⟩ := h
      refine ⟨_, (pss_cons (ps_if (pt_not (pt_val (pe_callB call_isi rfl T.f_isinstance B_isinstance (pa_cons (pv 0) (pa_cons (pe_bltn (v := .ty "tuple") rfl T.f_tuple B_tuple rfl) pa_nil)))))
      (pss_one (ps_raise rfl (takes_of rfl rfl rfl rfl) (pmk_own PySem.F.excBase_ValueError T.x_BadNode.1 T.g_BadNode T.x_BadNode.2.1 (raises_own T.x_BadNode.2.2.1 T.x_BadNode.2.2.2) rfl)))
      pss_nil)
    (pss_cons (ps_if (PW.pt (pw_and (pt_cmpR op_eq (pe_callB call_len_seq rfl T.f_len B_len (pa_cons (pv 0) pa_nil)) pe_int (nomark _)) (pw_and1 (pt_cmpR op_eq (pe_ix ix_tup (pv 0) pe_int (fun _ _ => rfl)) pe_str (nomark _)))))
      (pss_one (ps_ret (pe_make T.k_Stub F_Stub (hr.mono (by first | decide | omega)) rfl T.g_Stub b_Stub .nil passX (pa_cons (pe_ix ix_tup (pv 0) pe_int (fun _ _ => rfl)) pa_nil))))
      pss_nil)
    (pss_cons (ps_if (PW.pt (pw_or (pt_cmpR op_ne (pe_callB call_len_seq rfl T.f_len B_len (pa_cons (pv 0) pa_nil)) pe_int (nomark _)) (pw_or (pt_cmpR op_ne (pe_ix ix_tup (pv 0) pe_int (fun _ _ => rfl)) pe_str (nomark _)) (pw_or1 (pt_not (pt_val (pe_callB call_isi rfl T.f_isinstance B_isinstance (pa_cons (pe_ix ix_tup (pv 0) pe_int (fun _ _ => rfl)) (pa_cons (pe_bltn (v := .ty "tuple") rfl T.f_tuple B_tuple rfl) pa_nil)))))))))
      (pss_one (ps_raise rfl (takes_of rfl rfl rfl rfl) (pmk_own PySem.F.excBase_ValueError T.x_BadNode.1 T.g_BadNode T.x_BadNode.2.1 (raises_own T.x_BadNode.2.2.1 T.x_BadNode.2.2.2) rfl)))
      pss_nil)
    (pss_one (ps_ret (pe_make T.k_Node F_Node (hr.mono (by first | decide | omega)) rfl T.g_Node b_Node .nil passX (pa_cons (pe_ix ix_tup (pv 0) pe_int (fun _ _ => rfl)) (pa_cons (pe_ix ix_tup (pv 0) pe_int (fun _ _ => rfl)) (pa_cons (SealR.pe_lcX (own := [("pair", 1)]) (g := gName 1) rfl sc_part_of.nd rfl rfl (takes_of rfl rfl rfl rfl) (pi_tup (pe_ix ix_tup (pv 0) pe_int (fun _ _ => rfl))) (blkOk_by (N := ["told", "pair"]) (sc := defScope s_part_of) (own := [("pair", 1)]) (by decide +kernel)) (fun _ _ _ _ _ => (pg_name (i := 1) sc_part_of.nd rfl (Or.inl rfl))) (fun _ _ _ _ _ ps => (pe_call F_kid_of (hr.mono (by first | decide | omega)) rfl T.g_kid_of k_kid_of b_kid_of .nil (ps _ fun _ _ _ h => h) (pa_cons (pv 1) pa_nil)))) pa_nil))))))))), ?_⟩
      cases t with
      | stub n =>
        have ht' := ht
        unfold Tells at ht'
        obtain ⟨a, rfl, ha⟩ := ht'
        refine ⟨_, rfl, _, _, _, _, _, rfl, .ty _, .base (.tup ha), kit_ty (r := true) (by decide +kernel), _, rfl, ?_⟩
        refine iteF ?_
        refine ⟨_, rfl, _, _, rfl, .inr (SqT.of ha), rfl, _, rfl, ?_⟩
        refine iteT ?_
        refine ⟨_, rfl, a, _, _, _, rfl, rfl, SqT.of ha, rfl, rfl, _, rfl, ?_⟩
        refine iteT ?_
        refine ⟨_, rfl, a, _, _, _, rfl, rfl, SqT.of ha, rfl, fun x dx hx hdx ne => ?_⟩
        have k1 : Keep [] [] H (upd (upd H dx (.own x)) x (.ins (He.ga K "Stub") dx [])) := (Keep.new hdx).put hx
        refine ⟨x, dx, n, rfl, upd_same, fun hn => ⟨rfl, ?_⟩, fun hn => ke (by unfold Tr.good; exact decide_eq_false hn) _ k1⟩
        rw [upd_upd]
        refine kq _ _ ((Keep.new hdx).put hx) ?_
        unfold PartAt
        exact ⟨x, dx, rfl, upd_same⟩
      | node st x ks =>
        have ht' := ht
        unfold Tells at ht'
        obtain ⟨a, b, us, rfl, ha, hb, hL⟩ := ht'
        refine ⟨_, rfl, _, _, _, _, _, rfl, .ty _, .base (.tup ha), kit_ty (r := true) (by decide +kernel), _, rfl, ?_⟩
        refine iteF ?_
        refine ⟨_, rfl, _, _, rfl, .inr (SqT.of ha), rfl, _, rfl, ?_⟩
        refine iteF ?_
        refine iteF ?_
        refine ⟨_, rfl, _, _, rfl, .inr (SqT.of ha), rfl, _, rfl, ?_⟩
        refine iteF ?_
        refine ⟨_, rfl, a, _, _, _, rfl, rfl, SqT.of ha, rfl, rfl, _, rfl, ?_⟩
        refine iteF ?_
        refine ⟨_, rfl, a, _, _, _, rfl, rfl, SqT.of ha, rfl, _, _, _, _, _, rfl, .ty _, .base (.tup hb), kit_ty (r := true) (by decide +kernel), _, rfl, ?_⟩
        refine iteF ?_
        refine ⟨_, rfl, a, _, _, _, rfl, rfl, SqT.of ha, rfl, ?_⟩
        refine ⟨_, rfl, a, _, _, _, rfl, rfl, SqT.of ha, rfl, ?_⟩
        refine ⟨_, rfl, a, _, _, _, rfl, rfl, SqT.of ha, rfl, b, rfl, ⟨_, SqT.of hb⟩, fun D hD => ?_⟩
        refine lc_it (walk_tup (xs := us)) (fun i H' => Keep [] [] H H' ∧ ∃ ps, H' D = some (.lst ps) ∧ PartL K H' (ks.take i) ps) ⟨Keep.new hD, [], upd_same, ?_⟩ (fun i H' _ h => h.1.sqt (SqT.of hb)) ?_ ?_
        · rw [List.take_zero]
          unfold PartL
          rfl
        · rintro i y H1 H2 hi ⟨k1, ps, k2, k3⟩ ⟨rfl, hy⟩
          obtain ⟨c, t, p, u, ek, rfl, hp, ht⟩ := tellsL_get hL hy
          have fk := (f.kid (List.mem_of_getElem? ek)).2
          refine ⟨rfl, _, rfl, p, c, u, t, rfl, k1.tup hp, tells_keep k1 _ _ ht, fk, fun q z H3 k4 hq hz => ?_, fun hg H3 k4 => ke ?_ H3 (k1.trans k4)⟩
          · refine ⟨ps, k4.lst k2 (by simp), ?_, (k1.trans k4).put hD, _, upd_same, ?_⟩
            · rw [partL_len k3, List.length_take]
              exact Nat.lt_of_le_of_lt (Nat.min_le_right _ _) (Nat.lt_of_le_of_lt f.len (by decide))
            · rw [take_snoc ek]
              have kD : Keep [D] [] H3 (upd H3 D (.lst (ps ++ [.ref q]))) := (Keep.refl H3).putL (k4.lst k2 (by simp)) (by simp)
              exact partL_app (partL_keep (k4.mono0.trans kD) k3) (partL_one (kD.tup hq) (part_keep kD _ _ hz))
          · unfold Tr.good
            rw [goods_false (List.mem_of_getElem? ek) hg]
            rfl
        · rintro H1 ⟨k1, ps, k2, k3⟩
          have hln : ks.take us.length = ks := List.take_of_length_le (by rw [tellsL_len hL]; exact Nat.le_refl _)
          rw [hln] at k3
          intro y dy hy hdy ne
          have k2' : Keep [] [] H1 (upd (upd H1 dy (.own y)) y (.ins (He.ga K "Node") dy [])) := (Keep.new hdy).put hy
          refine ⟨y, dy, D, ps, st, x, ks, rfl, upd_same, k2'.lst k2 (by simp), partL_keep k2' k3, f, fun b2 H3 kp h1 h2 => ⟨rfl, ?_⟩, fun hno H3 kp => ke ?_ H3 ?_⟩
          · have kk : Keep [] [] H1 H3 := kp.keep k2' hy
            refine kq _ H3 (k1.trans kk) ?_
            unfold PartAt
            exact ⟨y, dy, b2, ps, rfl, h1, h2, partL_keep kk k3⟩
          · unfold Tr.good
            rw [hno, Bool.and_false]
          · exact k1.trans (kp.keep k2' hy)
end
end Seal
/-! SealD6: what is drawn: numbers, keys, values. -/
namespace Seal
open PySem PySem.Spec PyProof.Rows L2 SX
/-- the state of the draws -/
structure StateAt (H : Hp) (st ce : Addr) : Prop where
  ex : ∃ (ns : List Int) (a x : Int), H st = some (.lst [.ref ce, .int a, .int x]) ∧ H ce = some (.lst (ns.map V.int)) ∧ ns ≠ [] ∧ ns.length ≤ 100 ∧ (∀ n ∈ ns, 0 ≤ n) ∧ 0 ≤ x ∧ x < 2147483647
theorem StateAt.ne {H : Hp} {st ce : Addr} (h : StateAt H st ce) : st ≠ ce := by
  obtain ⟨ns, a, x, h1, h2, h3, _⟩ := h.ex
  refine ne_of h1 h2 fun z => ?_
  cases ns with
  | nil => exact h3 rfl
  | cons n r =>
    injection z with z
    injection z with z
    cases z
/-- an object that is not a list of those -/
theorem StateAt.keep {H H' : Hp} {st ce : Addr} {L D : List Addr} (h : StateAt H st ce) (k : Keep L D H H') (h1 : st ∉ L) (h2 : ce ∉ L) : StateAt H' st ce := by
  obtain ⟨ns, a, x, e1, e2, e3⟩ := h.ex
  exact ⟨ns, a, x, k.lst e1 h1, k.lst e2 h2, e3⟩
theorem StateAt.keep0 {H H' : Hp} {st ce : Addr} {D : List Addr} (h : StateAt H st ce) (k : Keep [] D H H') : StateAt H' st ce := h.keep k (by simp) (by simp)
theorem StateAt.some1 {H : Hp} {st ce : Addr} (h : StateAt H st ce) : ∃ xs, H st = some (.lst xs) := by
  obtain ⟨ns, a, x, h1, _⟩ := h.ex
  exact ⟨_, h1⟩
theorem StateAt.some2 {H : Hp} {st ce : Addr} (h : StateAt H st ce) : ∃ xs, H ce = some (.lst xs) := by
  obtain ⟨ns, a, x, _, h2, _⟩ := h.ex
  exact ⟨_, h2⟩
theorem fmod_nat {i m : Int} (h : 0 < m) : ∃ k : Nat, i.fmod m = (k : Int) ∧ (k : Int) < m := by
  have h1 := Int.fmod_nonneg_of_pos i h
  have h2 := Int.fmod_lt_of_pos i h
  exact ⟨(i.fmod m).toNat, by omega, by omega⟩
section
variable {w : World} {K : PySem.W.Frag} {mg : Str → Option Value} {base : Heap}
def spBegun (K : PySem.W.Frag) : Sp := fun vs H Q _ => ∃ (a : Addr) (ns : List Int), vs = [.ref a] ∧ SqL K H a (ns.map V.int) ∧ ns.length ≤ 63 ∧ ∀ st ce H', H st = none → H ce = none → Keep [] [] H H' → StateAt H' st ce → Q (.ref st) H'
theorem Keep.sql {L D : List Addr} {H H' : Hp} (k : Keep L D H H') {b : Addr} {xs : List V} (h : SqL K H b xs) (n : b ∉ L) : SqL K H' b xs := by
  rcases h with (h | ⟨o, h⟩) | h
  · exact .inl (.inl (k.lst h n))
  · exact .inl (.inr ⟨o, k.frz h⟩)
  · exact .inr h
theorem sc__law_begun : FnScope ["_law_script", "_law_cell"] ["_law_script"] (defScope s__law_begun) := ⟨rfl, rfl, rfl, by decide +kernel, rfl, by decide +kernel, by decide +kernel⟩
theorem ok_begun (T : Fx w K mg base) : Ok PR w K mg base d__law_begun ["_law_script"] 1 (spBegun K) := by
  refine Ok.mk (N := ["_law_script", "_law_cell"]) T.i__law_begun sc__law_begun (fun vs H Q E h => ?_) (fun _ _ _ _ _ _ us hl => match us, hl with | [_], _ => rfl) (fun cdv A outer s H vs Q E hr h => ?_)
  · obtain ⟨_, _, rfl, _⟩ := h
    rfl
  · obtain ⟨a, ns, rfl, ha, hl, k⟩ := h
    refine ⟨_, PSs.nox (pss_one (ps_ret (pe_lst (pa_cons (pe_op op_cat (pe_lc (own := [("_law_cell", 1)]) (g := gName 1) (tt := tYes) rfl sc__law_begun.nd (pi_list (pv 0)) (blkOk_by (N := ["_law_script", "_law_cell"]) (sc := defScope s__law_begun) (own := [("_law_cell", 1)]) (by decide +kernel)) (fun _ _ _ _ _ => (pg_name (i := 1) sc__law_begun.nd rfl (Or.inl rfl))) (fun _ _ _ _ _ => pts_nil) (fun _ _ _ _ _ => (pe_callB call_abs rfl T.f_abs B_abs (pa_cons (pv 1) pa_nil)))) (pe_op op_rep (pe_lst (pa_cons pe_int pa_nil)) (pe_callTy call_int1 rfl T.f_int B_int (pa_cons (pe_cmpR op_eq (pe_callB call_len_seq rfl T.f_len B_len (pa_cons (pv 0) pa_nil)) pe_int (nomark _)) pa_nil)))) (pa_cons pe_int (pa_cons pe_int pa_nil)))))), ?_⟩
    refine ⟨_, rfl, a, rfl, ⟨_, ha⟩, fun D hD => ?_⟩
    refine lc_it (walk_list (xs := ns.map V.int)) (fun i H' => Keep [] [] H H' ∧ H' D = some (.lst (((ns.map fun n => if n < 0 then -n else n).take i).map V.int))) ⟨Keep.new hD, upd_same⟩ (fun i H' _ h => h.1.sql ha (by simp)) ?_ ?_
    · rintro i y H1 H2 hi ⟨k1, k2⟩ ⟨rfl, hy⟩
      rw [List.getElem?_map] at hy
      cases e : ns[i]? with
      | none =>
        rw [e] at hy
        cases hy
      | some n =>
        rw [e] at hy
        cases hy
        refine ⟨rfl, _, rfl, n, rfl, _, k2, ?_, k1.put hD, ?_⟩
        · rw [List.length_map, List.length_take, List.length_map]
          exact Nat.lt_of_le_of_lt (Nat.min_le_right _ _) (Nat.lt_of_le_of_lt hl (by decide))
        · have e2 : (ns.map fun n => if n < 0 then -n else n)[i]? = some (if n < 0 then -n else n) := by
            rw [List.getElem?_map, e]
            rfl
          rw [upd_same, take_snoc e2, List.map_append]
          rfl
    · rintro H1 ⟨k1, k2⟩
      have hln : (ns.map fun n => if n < 0 then -n else n).take (ns.map V.int).length = ns.map fun n => if n < 0 then -n else n := List.take_of_length_le (by simp)
      rw [hln] at k2
      refine ⟨by show 1 ≤ sizeLine; decide, fun p hp => ?_⟩
      refine ⟨_, rfl, a, _, rfl, .inl (k1.put (k1.dom p hp) |>.sql ha (by simp)), rfl, ?_⟩
      have kp : Keep [] [] H1 (upd H1 p (.lst [.int 1])) := Keep.new hp
      generalize hb : (if decide (V.int ((ns.map V.int).length : Int) = V.int 0) = true then (1 : Int) else 0) = z
      have hz : z = 0 ∨ z = 1 := by
        rw [← hb]
        split
        · exact .inr rfl
        · exact .inl rfl
      refine .inr ⟨_, rfl, p, _, _, rfl, rfl, upd_same, ?_, ?_, ?_, fun q hq => ?_⟩
      · rw [hb]; omega
      · rw [hb]; omega
      · rw [hb]
        rcases hz with rfl | rfl <;> decide
      rw [hb]
      have kq : Keep [] [] (upd H1 p (.lst [.int 1])) (upd (upd H1 p (.lst [.int 1])) q (.lst (List.replicate z.toNat [V.int 1]).flatten)) := Keep.new hq
      have e1 : (List.replicate z.toNat [V.int 1]).flatten = (List.replicate z.toNat (1 : Int)).map V.int := by
        rcases hz with rfl | rfl <;> rfl
      refine ⟨D, q, _, _, rfl, rfl, kq.lst (kp.lst k2 (by simp)) (by simp), upd_same, ?_, fun ce hce => ?_⟩
      · rw [e1, List.length_map, List.length_map, List.length_map, List.length_replicate]
        refine Nat.le_trans (Nat.add_le_add hl (show z.toNat ≤ 1 from ?_)) (by decide)
        rcases hz with rfl | rfl <;> decide
      refine ⟨by show 3 ≤ sizeLine; decide, fun st hst => ?_⟩
      rw [e1, ← List.map_append] at hst ⊢
      have kc : Keep [] [] (upd (upd H1 p (.lst [.int 1])) q (.lst ((List.replicate z.toNat (1 : Int)).map V.int))) _ := Keep.new (o := .lst (((ns.map fun n => if n < 0 then -n else n) ++ List.replicate z.toNat 1).map V.int)) (e1 ▸ hce)
      have ks := Keep.new (L := []) (D := []) (o := .lst [.ref ce, .int 0, .int 1]) hst
      have kall := ((((k1.trans kp).trans (e1 ▸ kq)).trans kc).trans ks)
      have ncs : ce ≠ st := ne_of_none upd_same hst
      refine k st ce _ ((((k1.trans kp).trans (e1 ▸ kq)).trans kc).dom _ hst) (((k1.trans kp).trans (e1 ▸ kq)).dom _ (e1 ▸ hce)) kall ⟨_, 0, 1, upd_same, by rw [upd_ne ncs, upd_same], ?_, ?_, ?_, by decide, by decide⟩
      · cases ns with
        | nil =>
          have : z = 1 := by
            rw [← hb]
            rfl
          rw [this]
          intro e
          cases e
        | cons n r =>
          intro e
          cases e
      · rw [List.length_append, List.length_map, List.length_replicate]
        rcases hz with rfl | rfl
        · show ns.length + 0 ≤ 100
          omega
        · show ns.length + 1 ≤ 100
          omega
      · intro n hn
        rcases List.mem_append.mp hn with hn | hn
        · obtain ⟨m, _, rfl⟩ := List.mem_map.mp hn
          split <;> omega
        · rw [(List.mem_replicate.mp hn).2]
          decide
/-! ### a number drawn -/
def spDraw : Sp := fun vs H Q _ => ∃ (st ce : Addr) (m : Nat), vs = [.ref st, .int (m : Int)] ∧ StateAt H st ce ∧ 0 < m ∧ m < 2 ^ 200 ∧ ∀ (k : Nat) H', k < m → Keep [st, ce] [] H H' → StateAt H' st ce → Q (.int (k : Int)) H'
theorem sc__law_draw : FnScope ["_law_state", "_law_many", "_law_cells", "_law_at", "_law_cell"] ["_law_state", "_law_many"] (defScope s__law_draw) := ⟨rfl, rfl, rfl, by decide +kernel, rfl, by decide +kernel, by decide +kernel⟩
theorem ok_draw (T : Fx w K mg base) : Ok PR w K mg base d__law_draw ["_law_state", "_law_many"] 1 spDraw := by
  refine Ok.mk (N := ["_law_state", "_law_many", "_law_cells", "_law_at", "_law_cell"]) T.i__law_draw sc__law_draw (fun vs H Q E h => ?_) (fun _ _ _ _ _ _ us hl => match us, hl with | [_, _], _ => rfl) (fun cdv A outer s H vs Q E hr h => ?_)
  · obtain ⟨_, _, _, rfl, _⟩ := h
    rfl
  · obtain ⟨st, ce, m, rfl, S0, hm, hm2, k⟩ := h
    obtain ⟨ns, a, x, h1, h2, h3, h4, h5, h6, h7⟩ := S0.ex
    have nsc := S0.ne
    refine ⟨_, PSs.nox (pss_cons (ps_set (i := 2) sc__law_draw.nd rfl (Or.inl rfl) (pe_ix ix_list (pv 0) pe_int (fun _ _ => rfl)))
    (pss_cons (ps_set (i := 3) sc__law_draw.nd rfl (Or.inl rfl) (pe_op op_modN (pe_ix ix_list (pv 0) pe_int (fun _ _ => rfl)) (pe_callB call_len_seq rfl T.f_len B_len (pa_cons (pv 2) pa_nil))))
    (pss_cons (ps_set (i := 4) sc__law_draw.nd rfl (Or.inl rfl) (pe_ix ix_list (pv 2) (pv 3) (fun _ _ => rfl)))
    (pss_cons (ps_if (pt_cmpR op_ge (pv 4) pe_int (nomark _))
      (pss_cons (ps_asg (pe_op op_fdivW (pv 4) (pv 1)) (pg_sub (pv 2) (pv 3) set_list))
      (pss_one (ps_ret (pe_op op_modN (pv 4) (pv 1)))))
      pss_nil)
    (pss_cons (ps_asg (pe_op op_add (pe_ix ix_list (pv 0) pe_int (fun _ _ => rfl)) pe_int) (pg_sub (pv 0) pe_int set_list))
    (pss_cons (ps_asg (pe_op op_modN (pe_op op_add (pe_op op_add (pe_op op_mul (pe_ix ix_list (pv 0) pe_int (fun _ _ => rfl)) pe_int) (pv 4)) pe_int) pe_int) (pg_sub (pv 0) pe_int set_list))
    (pss_one (ps_ret (pe_op op_modN (pe_op op_fdiv (pe_op op_modN (pe_op op_mul (pe_ix ix_list (pv 0) pe_int (fun _ _ => rfl)) (pe_ix ix_list (pv 0) pe_int (fun _ _ => rfl))) pe_int) pe_int) (pv 1)))))))))), ?_⟩
    have hlen : (0 : Int) < ((ns.map V.int).length : Int) := by
      rw [List.length_map]
      have := List.length_pos_iff.mpr h3
      omega
    refine ⟨_, rfl, st, _, 0, _, rfl, rfl, SqL.of h1, rfl, ?_⟩
    refine ⟨_, rfl, st, _, 1, _, rfl, rfl, SqL.of h1, rfl, _, rfl, ce, _, rfl, .inl (SqL.of h2), _, _, rfl, rfl, by omega, ?_⟩
    obtain ⟨j, ej, hj⟩ := fmod_nat (i := a) hlen
    rw [List.length_map] at hj
    have hj' : j < ns.length := by omega
    have hget : (ns.map V.int)[j]? = some (.int ns[j]) := by rw [List.getElem?_map, List.getElem?_eq_getElem hj']; rfl
    have hpos : 0 ≤ ns[j] := h5 _ (List.getElem_mem hj')
    have ejx : ixN (ns.map V.int).length (a.fmod ((ns.map V.int).length : Int)) = some j := by
      rw [ej]
      unfold ixN
      rw [List.length_map, if_pos (by omega), if_pos (by omega)]
      simp
    refine ⟨_, rfl, _, rfl, ce, _, _, _, rfl, rfl, SqL.of h2, (show atI (ns.map V.int) (a.fmod ((ns.map V.int).length : Int)) = some (.int ns[j]) by rw [ej]; exact atI_nat hget), ?_⟩
    refine ⟨_, rfl, _, _, rfl, rfl, _, rfl, ?_⟩
    obtain ⟨kk, ek, hk⟩ := fmod_nat (i := ns[j]) (m := (m : Int)) (by omega)
    refine ite2 (fun hbig => ?_) (fun hsm => ?_)
    · refine ⟨_, rfl, _, rfl, _, _, rfl, rfl, wide_div (b := 200) (by omega) (by rw [Int.natAbs_natCast]; exact hm2) (by decide) (by decide), ?_⟩
      refine ⟨_, rfl, _, rfl, ce, _, _, j, rfl, rfl, h2, ejx, ?_⟩
      refine ⟨_, rfl, _, rfl, _, _, rfl, rfl, (show (m : Int) ≠ 0 by omega), ?_⟩
      show Q (.int ((ns[j]).fmod (m : Int))) _
      rw [ek]
      have kK : Keep [st, ce] [] H (upd H ce (.lst ((ns.map V.int).set j (.int (ns[j] / (m : Int)))))) := (Keep.refl H).putL h2 (by simp)
      refine k kk _ (by omega) kK ⟨ns.set j (ns[j] / (m : Int)), a, x, by rw [upd_ne nsc]; exact h1, ?_, ?_, by rw [List.length_set]; exact h4, ?_, h6, h7⟩
      · rw [upd_same, List.map_set]
      · intro e
        have := congrArg List.length e
        rw [List.length_set] at this
        exact h3 (List.length_eq_zero_iff.mp this)
      · intro n hn
        rcases List.mem_or_eq_of_mem_set hn with z | z
        · exact h5 n z
        · rw [z]
          exact Int.ediv_nonneg hpos (by omega)
    · have S3 : ∀ y1 y2 : Int, upd (upd H st (.lst ([V.ref ce, .int a, .int x].set 1 (.int y1)))) st (.lst (([V.ref ce, .int a, .int x].set 1 (.int y1)).set 2 (.int y2))) = upd H st (.lst [.ref ce, .int y1, .int y2]) := fun y1 y2 => by rw [upd_upd]; rfl
      refine ⟨_, rfl, st, _, 1, _, rfl, rfl, SqL.of h1, rfl, _, _, rfl, rfl, ?_⟩
      refine ⟨_, rfl, st, _, 1, 1, rfl, rfl, h1, rfl, ?_⟩
      refine ⟨_, rfl, st, _, 2, .int x, rfl, rfl, SqL.of upd_same, rfl, _, _, rfl, rfl, .inr ⟨by decide, by decide⟩, _, rfl, _, _, rfl, rfl, _, _, rfl, rfl, _, _, rfl, rfl, (show (2147483647 : Int) ≠ 0 by decide), ?_⟩
      refine ⟨_, rfl, st, _, 2, 2, rfl, rfl, upd_same, rfl, ?_⟩
      rw [S3]
      have hy := fmod_nat (i := x * 48271 + ns[j] + 12345) (m := 2147483647) (by decide)
      obtain ⟨y, ey, hy⟩ := hy
      refine ⟨_, rfl, st, _, 2, _, rfl, rfl, SqL.of upd_same, rfl, ?_⟩
      refine ⟨_, rfl, st, _, 2, _, rfl, rfl, SqL.of upd_same, rfl, _, _, rfl, rfl, .inl ⟨by omega, by omega⟩, _, _, rfl, rfl, (show (2147483629 : Int) ≠ 0 by decide), _, _, rfl, rfl, ⟨by decide, by decide⟩, _, rfl, _, _, rfl, rfl, (show (m : Int) ≠ 0 by omega), ?_⟩
      have hz := fmod_nat (i := ((x * 48271 + ns[j] + 12345).fmod 2147483647 * (x * 48271 + ns[j] + 12345).fmod 2147483647).fmod 2147483629 / 16) (m := (m : Int)) (by omega)
      obtain ⟨z, ez, hz⟩ := hz
      show Q (.int ((((x * 48271 + ns[j] + 12345).fmod 2147483647 * (x * 48271 + ns[j] + 12345).fmod 2147483647).fmod 2147483629 / 16).fmod (m : Int))) _
      rw [ez]
      have kK : Keep [st, ce] [] H (upd H st (.lst [.ref ce, .int (a + 1), .int ((x * 48271 + ns[j] + 12345).fmod 2147483647)])) := (Keep.refl H).putL h1 (by simp)
      exact k z _ (by omega) kK ⟨ns, _, _, upd_same, by rw [upd_ne nsc.symm]; exact h2, h3, h4, h5, by omega, by omega⟩
end
end Seal
/-! SealD7: keys and values drawn. -/
namespace Seal
open PySem PySem.Spec PyProof.Rows L2 SX
/-- the letters that are near -/
structure NearAt (H : Hp) (nr : Addr) (cs : List Nat) : Prop where
  at_ : H nr = some (.lst (cs.map fun c => tx [c]))
  two : 2 ≤ cs.length
  few : cs.length ≤ 100
  low : ∀ c ∈ cs, 97 ≤ c ∧ c ≤ 122
theorem NearAt.ne {H : Hp} {nr st ce : Addr} {cs : List Nat} (h : NearAt H nr cs) (s : StateAt H st ce) : nr ∉ [st, ce] := by
  obtain ⟨ns, a, x, h1, h2, h3, _⟩ := s.ex
  have two := h.two
  have n1 : nr ≠ st := ne_of h.at_ h1 fun z => by
    cases cs with
    | nil => simp at two
    | cons c r =>
      injection z with z
      injection z with z
      cases z
  have n2 : nr ≠ ce := ne_of h.at_ h2 fun z => by
    cases cs with
    | nil => simp at two
    | cons c r =>
      cases ns with
      | nil => exact h3 rfl
      | cons n q =>
        injection z with z
        injection z with z
        cases z
  intro hm
  rcases List.mem_cons.mp hm with e | hm
  · exact n1 e
  · exact n2 (List.mem_singleton.mp hm)
theorem NearAt.keep {H H' : Hp} {nr : Addr} {cs : List Nat} {L D : List Addr} (h : NearAt H nr cs) (k : Keep L D H H') (n : nr ∉ L) : NearAt H' nr cs := ⟨k.lst h.at_ n, h.two, h.few, h.low⟩
def LT : Tx := [97, 98, 99, 100, 101, 102, 103, 104, 105, 106, 107, 108, 109, 110, 111, 112, 113, 114, 115, 116, 117, 118, 119, 120, 121, 122]
theorem L_letters : ("abcdefghijklmnopqrstuvwxyz" : Str) = S LT := by decide +kernel
theorem LT_low : ∀ c ∈ LT, 97 ≤ c ∧ c ≤ 122 := by decide
theorem drop_le {α : Type} (n : Nat) (l : List α) : (l.drop n).length ≤ l.length := by rw [List.length_drop]; omega
theorem isKey_nil : IsKey [] := ⟨Nat.zero_le _, fun c h => by cases h⟩
theorem Lows.nil : Lows [] := fun c h => by cases h
theorem Lows.one {c : Nat} (h : 97 ≤ c ∧ c ≤ 122) : Lows [c] := fun z hz => by rw [List.mem_singleton.mp hz]; exact h
section
variable {w : World} {K : PySem.W.Frag} {mg : Str → Option Value} {base : Heap}
def spKey : Sp := fun vs H Q _ => ∃ (st ce nr : Addr) (cs : List Nat), vs = [.ref st, .ref nr] ∧ StateAt H st ce ∧ NearAt H nr cs ∧ ∀ l H', IsKey l → Keep [st, ce] [] H H' → StateAt H' st ce → Q (tx l) H'
theorem sc__law_key : FnScope ["_law_state", "_law_near", "_law_letters", "_law_found", "_law_k", "_law_some"] ["_law_state", "_law_near"] (defScope s__law_key) := ⟨rfl, rfl, rfl, by decide +kernel, rfl, by decide +kernel, by decide +kernel⟩
theorem ok_key (T : Fx w K mg base) : Ok PR w K mg base d__law_key ["_law_state", "_law_near"] 2 spKey := by
  obtain ⟨fd__law_draw, F__law_draw, b__law_draw, k__law_draw⟩ := ok_draw T
  refine Ok.mk (N := ["_law_state", "_law_near", "_law_letters", "_law_found", "_law_k", "_law_some"]) T.i__law_key sc__law_key (fun vs H Q E h => ?_) (fun _ _ _ _ _ _ us hl => match us, hl with | [_, _], _ => rfl) (fun cdv A outer s H vs Q E hr h => ?_)
  · obtain ⟨_, _, _, _, rfl, _⟩ := h
    rfl
  · obtain ⟨st, ce, nr, cs, rfl, S0, N0, k⟩ := h
    have nn := N0.ne S0
    refine ⟨_, PSs.nox (pss_cons (ps_set (i := 2) sc__law_key.nd rfl (Or.inl rfl) pe_str)
    (pss_cons (ps_set (i := 3) sc__law_key.nd rfl (Or.inl rfl) pe_str)
    (pss_cons (ps_for PassesOwn.never rfl (pi_range1 rfl T.f_range (pa_cons (pe_call F__law_draw (hr.mono (by first | decide | omega)) rfl T.g__law_draw k__law_draw b__law_draw .nil passL (pa_cons (pv 0) (pa_cons pe_int pa_nil))) pa_nil)) (pg_name (i := 4) sc__law_key.nd rfl (Or.inl rfl))
      (pss_cons (ps_set (i := 5) sc__law_key.nd rfl (Or.inl rfl) (pe_ifExp (pt_cmpR op_eq (pe_call F__law_draw (hr.mono (by first | decide | omega)) rfl T.g__law_draw k__law_draw b__law_draw .nil passL (pa_cons (pv 0) (pa_cons pe_int pa_nil))) pe_int (nomark _)) (pv 2) (pv 1)))
      (pss_one (ps_set (i := 3) sc__law_key.nd rfl (Or.inl rfl) (pe_op op_add_str (pv 3) (SealR.pe_or (pe_ix ix_str (pv 5) (pe_call F__law_draw (hr.mono (by first | decide | omega)) rfl T.g__law_draw k__law_draw b__law_draw .nil passL (pa_cons (pv 0) (pa_cons (pe_callB call_len_str rfl T.f_len B_len (pa_cons (pv 5) pa_nil)) pa_nil))) (fun _ _ => rfl)) (pe_ix ix_list (pv 5) (pe_call F__law_draw (hr.mono (by first | decide | omega)) rfl T.g__law_draw k__law_draw b__law_draw .nil passL (pa_cons (pv 0) (pa_cons (pe_callB call_len_seq rfl T.f_len B_len (pa_cons (pv 5) pa_nil)) pa_nil))) (fun _ _ => rfl))))))))
    (pss_one (ps_ret (pv 3)))))), ?_⟩
    refine ⟨_, rfl, st, ce, 9, rfl, S0, by decide, by decide, fun j H1 hj k1 S1 => ?_⟩
    refine ⟨(j : Int), rfl, by omega, by omega, ?_⟩
    refine for_it (walk_range (lo := 0) (n := (j : Int).toNat)) (fun i σ H' => (∃ l o4 o5, σ = [some (.ref st), some (.ref nr), some (tx LT), some (tx l), o4, o5] ∧ Lows l ∧ l.length ≤ i) ∧ Keep [st, ce] [] H H' ∧ StateAt H' st ce)
      ⟨⟨[], none, none, ?_, Lows.nil, Nat.le_refl _⟩, k1, S1⟩ (fun _ _ _ _ _ => True.intro) ?_ ?_
    · show [some (V.ref st), some (V.ref nr), some (V.str ("abcdefghijklmnopqrstuvwxyz" : Str)), some (V.str ("" : Str)), none, none] = _
      rw [L_letters, L_nil]
    · rintro i y σ H2 H3 hi ⟨⟨l, o4, o5, rfl, hl, hli⟩, k2, S2⟩ ⟨rfl, rfl⟩
      have N2 := N0.keep k2 nn
      refine ⟨_, rfl, st, ce, 8, rfl, S2, by decide, by decide, fun z H4 hz k4 S4 => ⟨rfl, _, rfl, ?_⟩⟩
      have k24 := k2.trans k4
      have step : ∀ (c : Nat) (H5 : Hp) (o : Option V), 97 ≤ c ∧ c ≤ 122 → Keep [st, ce] [] H H5 → StateAt H5 st ce → ∃ i2 j2, V.str (S l) = V.str i2 ∧ V.str ⟨#[c]⟩ = V.str j2 ∧ i2.length + j2.length ≤ sizeLine ∧
          ((∃ l2 o4 o5, ([some (V.ref st), some (V.ref nr), some (tx LT), some (tx l), some (V.int (0 + (i : Int))), o] : L2.St).set 3 (some (.str (i2 ++ j2))) = [some (.ref st), some (.ref nr), some (tx LT), some (tx l2), o4, o5] ∧ Lows l2 ∧ l2.length ≤ i + 1) ∧ Keep [st, ce] [] H H5 ∧ StateAt H5 st ce) := fun c H5 o hc k5 S5 => by
        refine ⟨S l, S [c], rfl, rfl, ?_, ⟨l ++ [c], some (V.int (0 + (i : Int))), o, ?_, hl.app (Lows.one hc), ?_⟩, k5, S5⟩
        · rw [len_S, len_S]
          show l.length + 1 ≤ sizeLine
          exact toSz (by omega)
        · rw [S_cat]
          rfl
        · rw [List.length_append]
          show l.length + 1 ≤ _
          omega
      refine ite2 (fun hT => ?_) (fun hF => ?_)
      · refine ⟨_, rfl, _, rfl, ?_⟩
        refine .inl ?_
        refine ⟨_, rfl, _, rfl, _, rfl, _, rfl, toSzS (by decide), st, ce, 26, rfl, S4, by decide, by decide, fun q H5 hq k5 S5 => ?_⟩
        have hg : LT[q]? = some (LT[q]'hq) := List.getElem?_eq_getElem hq
        exact ⟨S LT, _, LT[q]'hq, rfl, rfl, toSzS (by decide), atI_nat hg, step _ H5 _ (LT_low _ (List.getElem_mem hq)) (k24.trans k5) S5⟩
      · refine ⟨_, rfl, _, rfl, ?_⟩
        refine .inr ?_
        have N4 := N2.keep k4 nn
        have hlen : (cs.map fun c => tx [c]).length = cs.length := List.length_map _
        refine ⟨_, rfl, _, rfl, _, rfl, nr, _, rfl, .inl (SqL.of N4.at_), st, ce, cs.length, ?_, S4, Nat.lt_of_lt_of_le (by decide) N4.two, Nat.lt_of_le_of_lt N4.few (by decide), fun q H5 hq k5 S5 => ?_⟩
        · rw [hlen]
          rfl
        have N5 := N4.keep k5 nn
        have hg : (cs.map fun c => tx [c])[q]? = some (tx [cs[q]]) := by rw [List.getElem?_map, List.getElem?_eq_getElem hq]; rfl
        exact ⟨nr, _, _, tx [cs[q]], rfl, rfl, SqL.of N5.at_, atI_nat hg, step _ H5 _ (N5.low _ (List.getElem_mem hq)) (k24.trans k5) S5⟩
    · rintro σ H2 ⟨⟨l, o4, o5, rfl, hl, hli⟩, k2, S2⟩
      exact ⟨_, rfl, k l H2 ⟨by omega, hl⟩ k2 S2⟩
/-! ### values -/
def SG : Tx := [32, 33, 34, 35, 36, 38, 39, 40, 41, 42, 43, 44, 45, 46, 47, 48, 49, 50, 51, 52, 53, 54, 55, 56, 57, 58, 59, 60, 61, 62, 63, 64, 91, 92, 93, 94, 95, 96, 123, 124, 125, 126, 65, 66, 67, 68, 69, 70, 71, 72, 73, 74, 75, 76, 77, 78, 79, 80, 81, 82, 83, 84, 85, 86, 87, 88, 89, 90, 97, 98, 99, 100, 101, 102, 103, 104, 105, 106, 107, 108, 109, 110, 111, 112, 113, 114, 115, 116, 117, 118, 119, 120, 121, 122]
theorem SG_signs : ∀ c ∈ SG, 32 ≤ c ∧ c ≤ 126 := by decide
theorem L_signs : (" !\"#$&'()*+,-./0123456789:;<=>?@\x5b\\]^_`{|}~" : Str) ++ ("ABCDEFGHIJKLMNOPQRSTUVWXYZabcdefghijklmnopqrstuvwxyz" : Str) = S SG := by decide +kernel
theorem joinL_ones : ∀ l : Tx, TL.joinL [] (l.map fun c => [c]) = l
  | [] => rfl
  | [c] => rfl
  | c :: d :: r => by
    show [c] ++ ([] ++ TL.joinL [] ((d :: r).map fun c => [c])) = _
    rw [joinL_ones (d :: r)]
    rfl
def spValue : Sp := fun vs H Q _ => ∃ (st ce : Addr), vs = [.ref st] ∧ StateAt H st ce ∧ ∀ l H', IsVal l → Keep [st, ce] [] H H' → StateAt H' st ce → Q (tx l) H'
theorem sc__law_value : FnScope ["_law_state", "_law_signs", "_law_many", "_law_k"] ["_law_state"] (defScope s__law_value) := ⟨rfl, rfl, rfl, by decide +kernel, rfl, by decide +kernel, by decide +kernel⟩
theorem ok_value (T : Fx w K mg base) : Ok PR w K mg base d__law_value ["_law_state"] 2 spValue := by
  obtain ⟨fd__law_draw, F__law_draw, b__law_draw, k__law_draw⟩ := ok_draw T
  refine Ok.mk (N := ["_law_state", "_law_signs", "_law_many", "_law_k"]) T.i__law_value sc__law_value (fun vs H Q E h => ?_) (fun _ _ _ _ _ _ us hl => match us, hl with | [_], _ => rfl) (fun cdv A outer s H vs Q E hr h => ?_)
  · obtain ⟨_, _, rfl, _⟩ := h
    rfl
  · obtain ⟨st, ce, rfl, S0, k⟩ := h
    refine ⟨_, PSs.nox (pss_cons (ps_set (i := 1) sc__law_value.nd rfl (Or.inr rfl) pe_str)
    (pss_cons (ps_set (i := 1) sc__law_value.nd rfl (Or.inr rfl) (pe_op op_add_str (pv 1) pe_str))
    (pss_cons (ps_set (i := 2) sc__law_value.nd rfl (Or.inl rfl) (pe_ix ix_list (pe_lst (pa_cons pe_int (pa_cons pe_int (pa_cons pe_int (pa_cons pe_int pa_nil))))) (pe_call F__law_draw (hr.mono (by first | decide | omega)) rfl T.g__law_draw k__law_draw b__law_draw .nil passL (pa_cons (pv 0) (pa_cons pe_int pa_nil))) (fun _ _ => rfl)))
    (pss_cons (ps_if (pt_cmpR op_lt (pv 2) pe_int (nomark _))
      (pss_one (ps_ret (pe_join pe_str (pe_lc (own := [("_law_k", 3)]) (g := gName 3) (tt := tYes) rfl sc__law_value.nd (pi_range1 rfl T.f_range (pa_cons (pv 2) pa_nil)) (blkOk_by (N := ["_law_state", "_law_signs", "_law_many", "_law_k"]) (sc := defScope s__law_value) (own := [("_law_k", 3)]) (by decide +kernel)) (fun _ _ _ _ _ => (pg_name (i := 3) sc__law_value.nd rfl (Or.inl rfl))) (fun _ _ _ _ _ => pts_nil) (fun _ _ _ _ _ => (pe_ix ix_str (pv 1) (pe_call F__law_draw (hr.mono (by first | decide | omega)) rfl T.g__law_draw k__law_draw b__law_draw .nil passL (pa_cons (pv 0) (pa_cons (pe_callB call_len_str rfl T.f_len B_len (pa_cons (pv 1) pa_nil)) pa_nil))) (fun _ _ => rfl)))))))
      pss_nil)
    (pss_one (ps_ret (pe_slice sl_str (pe_op op_add_str (pe_slice sl_str (pv 1) (po_some (pe_call F__law_draw (hr.mono (by first | decide | omega)) rfl T.g__law_draw k__law_draw b__law_draw .nil passL (pa_cons (pv 0) (pa_cons (pe_callB call_len_str rfl T.f_len B_len (pa_cons (pv 1) pa_nil)) pa_nil)))) po_none) (pv 1)) po_none (po_some pe_int)))))))), ?_⟩
    refine ⟨_, rfl, _, _, rfl, rfl, by decide +kernel, ?_⟩
    rw [L_signs]
    refine ⟨by show 4 ≤ sizeLine; decide, fun p hp => ?_⟩
    have kp : Keep [st, ce] [] H (upd H p (.lst [.int 0, .int 1, .int 3, .int 40])) := Keep.new hp
    have Sp1 : StateAt (upd H p (.lst [.int 0, .int 1, .int 3, .int 40])) st ce := S0.keep0 (D := []) (Keep.new hp)
    refine ⟨_, rfl, st, ce, 4, rfl, Sp1, by decide, by decide, fun j H1 hj k1 S1 => ?_⟩
    have npS : p ∉ [st, ce] := fun hm => by
      obtain ⟨x1, e1⟩ := S0.some1
      obtain ⟨x2, e2⟩ := S0.some2
      rcases List.mem_cons.mp hm with e | hm
      · rw [e, e1] at hp
        cases hp
      · rw [List.mem_singleton.mp hm, e2] at hp
        cases hp
    have k01 := kp.trans k1
    have hj4 : j = 0 ∨ j = 1 ∨ j = 2 ∨ j = 3 := by omega
    have hm : ∃ m : Nat, ([V.int 0, .int 1, .int 3, .int 40] : List V)[j]? = some (.int (m : Int)) ∧ m ≤ 40 := by
      rcases hj4 with rfl | rfl | rfl | rfl
      · exact ⟨0, rfl, by decide⟩
      · exact ⟨1, rfl, by decide⟩
      · exact ⟨3, rfl, by decide⟩
      · exact ⟨40, rfl, by decide⟩
    obtain ⟨m, em, hm⟩ := hm
    refine ⟨p, _, _, _, rfl, rfl, SqL.of (k1.lst upd_same npS), atI_nat em, ?_⟩
    refine ⟨_, rfl, _, _, rfl, rfl, _, rfl, ?_⟩
    refine ite2 (fun hlt => ?_) (fun hge => ?_)
    · refine ⟨⟨_, rfl⟩, ?_⟩
      refine ⟨_, rfl, (m : Int), rfl, by omega, by omega, fun D hD => ?_⟩
      have kD : Keep [st, ce] [] H1 (upd H1 D (.lst [])) := Keep.new hD
      refine lc_it (walk_range (lo := 0) (n := (m : Int).toNat)) (fun i H' => Keep [st, ce] [] H1 H' ∧ StateAt H' st ce ∧ ∃ l : Tx, Signs l ∧ l.length = i ∧ H' D = some (.lst (l.map fun c => tx [c]))) ⟨kD, S1.keep0 (D := []) (Keep.new hD), [], fun c h => (by cases h), rfl, upd_same⟩ (fun _ _ _ _ => True.intro) ?_ ?_
      · rintro i y H2 H3 hi ⟨k2, S2, l, hl, hli, hD2⟩ ⟨rfl, rfl⟩
        have nDS : D ∉ [st, ce] := fun hm => by
          obtain ⟨x1, e1⟩ := S1.some1
          obtain ⟨x2, e2⟩ := S1.some2
          rcases List.mem_cons.mp hm with e | hm
          · rw [e, e1] at hD
            cases hD
          · rw [List.mem_singleton.mp hm, e2] at hD
            cases hD
        refine ⟨rfl, _, rfl, _, rfl, _, rfl, _, rfl, toSzS (by decide), st, ce, 94, rfl, S2, by decide, by decide, fun q H4 hq k4 S4 => ?_⟩
        have hg : SG[q]? = some (SG[q]'hq) := List.getElem?_eq_getElem hq
        have hD4 := k4.lst hD2 nDS
        refine ⟨S SG, _, SG[q]'hq, rfl, rfl, toSzS (by decide), atI_nat hg, _, hD4, ?_, ?_, ?_, l ++ [SG[q]'hq], hl.app (fun z hz => by rw [List.mem_singleton.mp hz]; exact SG_signs _ (List.getElem_mem hq)), by rw [List.length_append, hli]; rfl, ?_⟩
        · rw [List.length_map, hli]
          exact Nat.lt_of_lt_of_le (Nat.lt_of_lt_of_le hi (by omega : (m : Int).toNat ≤ 40)) (by decide)
        · exact (k2.trans k4).put hD
        · exact S4.keep (D := []) (L := [D]) ((Keep.refl H4).putL hD4 (by simp)) (fun z => nDS (by rw [List.mem_singleton.mp z]; simp)) (fun z => nDS (by rw [List.mem_singleton.mp z]; simp))
        · rw [upd_same, List.map_append]
          rfl
      · rintro H2 ⟨k2, S2, l, hl, hli, hD2⟩
        have e1 : (l.map fun c => tx [c]) = ((l.map fun c => ([c] : Tx)).map S).map V.str := by
          rw [List.map_map, List.map_map]
          rfl
        refine ⟨_, D, _, rfl, rfl, .inl (SqL.of (by rw [hD2, e1])), ?_, ?_⟩
        · have e2 : (((l.map fun c => ([c] : Tx)).map S).map (·.length)).sum = l.length := by
            rw [lens, List.map_map]
            clear hl hli hD2 e1
            induction l with
            | nil => rfl
            | cons c r ih =>
              rw [List.map_cons, List.sum_cons, ih, List.length_cons]
              show 1 + r.length = _
              omega
          have e3 : ("" : Str).length = 0 := by decide +kernel
          rw [e2, e3, hli]
          omega
        · have q : Q (.str (S l)) H2 := k l H2 ⟨by rw [hli]; omega, hl⟩ (k01.trans k2) S2
          have e4 : Txt.join ("" : Str) ((l.map fun c => ([c] : Tx)).map S) = S l := by
            rw [L_nil, join_S, joinL_ones]
          rw [← e4] at q
          exact q
    · refine ⟨_, rfl, _, rfl, _, rfl, _, rfl, toSzS (by decide), st, ce, 94, rfl, S1, by decide, by decide, fun q H2 hq k2 S2 => ?_⟩
      refine ⟨(q : Int), rfl, S SG, rfl, toSzS (by decide), _, rfl, _, _, rfl, rfl, ?_, 40, rfl, _, rfl, ?_, ?_⟩
      · rw [slice_from2, len_S, len_S]
        exact toSz (Nat.le_trans (Nat.add_le_add (drop_le q SG) (Nat.le_refl _)) (by decide))
      · rw [slice_from2, S_cat]
        exact toSzS (by rw [List.length_append]; exact Nat.le_trans (Nat.add_le_add (drop_le q SG) (Nat.le_refl _)) (by decide))
      · have q2 : Q (.str (S ((SG.drop q ++ SG).take 40))) H2 := k _ H2 ⟨by rw [List.length_take]; omega, fun c hc => by
          rcases List.mem_append.mp (List.mem_of_mem_take hc) with z | z
          · exact SG_signs c (List.mem_of_mem_drop z)
          · exact SG_signs c z⟩ (k01.trans k2) S2
        show Q (.str (cutS (cutS (S SG) (some (q : Int)) none ++ S SG) none (some ((40 : Nat) : Int)))) H2
        rw [slice_from2, S_cat, slice_to2]
        exact q2
end
end Seal
/-! SealD8: a content drawn. -/
namespace Seal
open PySem PySem.Spec PyProof.Rows L2 SX
/-! ### dicts with text keys -/
section
variable {α : Type}
def kvT (f : α → V) (C : List (Tx × α)) : List (Key × V) := C.map fun p => (Sum.inr (S p.1), f p.2)
def putC (C : List (Tx × α)) (k : Tx) (v : α) : List (Tx × α) := if (C.any fun p => decide (p.1 = k)) = true then C.map (fun p => if p.1 = k then (p.1, v) else p) else C ++ [(k, v)]
def lookC (C : List (Tx × α)) (k : Tx) : Option α := (C.find? fun p => decide (p.1 = k)).map (·.2)
theorem inr_S {a b : Tx} : (Sum.inr (S a) : Key) = Sum.inr (S b) ↔ a = b := ⟨fun h => S_inj (Sum.inr.inj h), fun h => by rw [h]⟩
theorem any_kvT (f : α → V) (k : Tx) : ∀ C : List (Tx × α), ((kvT f C).any fun kv => decide (kv.1 = (Sum.inr (S k) : Key))) = C.any fun p => decide (p.1 = k)
  | [] => rfl
  | p :: C => by
    show (decide ((Sum.inr (S p.1) : Key) = Sum.inr (S k)) || (kvT f C).any _) = (decide (p.1 = k) || C.any _)
    rw [any_kvT f k C, decide_eq_decide.mpr (inr_S (a := p.1) (b := k))]
theorem putK_kvT (f : α → V) (C : List (Tx × α)) (k : Tx) (v : α) : putK (kvT f C) (Sum.inr (S k)) (f v) = kvT f (putC C k v) := by
  unfold putK putC
  rw [any_kvT]
  split
  · unfold kvT
    rw [List.map_map, List.map_map]
    refine List.map_congr_left fun p _ => ?_
    show (if (Sum.inr (S p.1) : Key) = Sum.inr (S k) then ((Sum.inr (S p.1) : Key), f v) else (Sum.inr (S p.1), f p.2)) = _
    by_cases h : p.1 = k
    · rw [if_pos (inr_S.mpr h)]
      show _ = ((Sum.inr (S (if p.1 = k then (p.1, v) else p).1) : Key), f (if p.1 = k then (p.1, v) else p).2)
      rw [if_pos h]
    · rw [if_neg fun z => h (inr_S.mp z)]
      show _ = ((Sum.inr (S (if p.1 = k then (p.1, v) else p).1) : Key), f (if p.1 = k then (p.1, v) else p).2)
      rw [if_neg h]
  · unfold kvT
    rw [List.map_append]
    rfl
theorem valV_kvT (f : α → V) (k : Tx) : ∀ C : List (Tx × α), valV (kvT f C) (Sum.inr (S k)) = (lookC C k).map f
  | [] => rfl
  | p :: C => by
    show valV ((Sum.inr (S p.1), f p.2) :: kvT f C) (Sum.inr (S k)) = _
    unfold lookC
    rw [List.find?_cons]
    by_cases h : p.1 = k
    · rw [valV_pos (p := ((Sum.inr (S p.1) : Key), f p.2)) (inr_S.mpr h), decide_eq_true h]
      rfl
    · rw [valV_neg (p := ((Sum.inr (S p.1) : Key), f p.2)) fun z => h (inr_S.mp z), decide_eq_false h]
      exact valV_kvT f k C
theorem putC_keys (C : List (Tx × α)) (k : Tx) (v : α) : (putC C k v).map (·.1) = if k ∈ C.map (·.1) then C.map (·.1) else C.map (·.1) ++ [k] := by
  unfold putC
  by_cases h : (C.any fun p => decide (p.1 = k)) = true
  · rw [if_pos h, if_pos, List.map_map]
    · refine List.map_congr_left fun p _ => ?_
      show (if p.1 = k then (p.1, v) else p).1 = p.1
      split <;> rfl
    · obtain ⟨p, hp, e⟩ := List.any_eq_true.mp h
      exact List.mem_map.mpr ⟨p, hp, of_decide_eq_true e⟩
  · rw [if_neg h, if_neg, List.map_append]
    · rfl
    · intro hm
      obtain ⟨p, hp, e⟩ := List.mem_map.mp hm
      exact h (List.any_eq_true.mpr ⟨p, hp, decide_eq_true e⟩)
theorem putC_nd {C : List (Tx × α)} {k : Tx} {v : α} (h : (C.map (·.1)).Nodup) : ((putC C k v).map (·.1)).Nodup := by
  rw [putC_keys]
  split
  · exact h
  · rename_i n
    exact nd_snoc h n
theorem putC_len (C : List (Tx × α)) (k : Tx) (v : α) : (putC C k v).length ≤ C.length + 1 := by
  unfold putC
  split
  · rw [List.length_map]; omega
  · rw [List.length_append]; exact Nat.le_refl _
theorem putC_mem {C : List (Tx × α)} {k : Tx} {v : α} {p : Tx × α} (h : p ∈ putC C k v) : p ∈ C ∨ p = (k, v) := by
  unfold putC at h
  split at h
  · obtain ⟨q, hq, e⟩ := List.mem_map.mp h
    have e : (if q.1 = k then (q.1, v) else q) = p := e
    split at e
    · rename_i hk
      exact .inr (by rw [← e, hk])
    · exact .inl (e ▸ hq)
  · rcases List.mem_append.mp h with h | h
    · exact .inl h
    · exact .inr (List.mem_singleton.mp h)
theorem putC_new {C : List (Tx × α)} {k : Tx} {v : α} (h : k ∉ C.map (·.1)) : putC C k v = C ++ [(k, v)] := by
  unfold putC
  refine if_neg fun z => ?_
  obtain ⟨p, hp, e⟩ := List.any_eq_true.mp z
  exact h (List.mem_map.mpr ⟨p, hp, of_decide_eq_true e⟩)
theorem lookC_mem {C : List (Tx × α)} {k : Tx} {v : α} (h : (C.map (·.1)).Nodup) (hm : (k, v) ∈ C) : lookC C k = some v := by
  induction C with
  | nil => cases hm
  | cons p C ih =>
    unfold lookC
    rw [List.find?_cons]
    rcases List.mem_cons.mp hm with e | hm
    · subst e
      rw [decide_eq_true rfl]
      rfl
    · have n : p.1 ≠ k := fun e => by
        rw [List.map_cons] at h
        exact (List.nodup_cons.mp h).1 (e ▸ List.mem_map.mpr ⟨_, hm, rfl⟩)
      rw [decide_eq_false n]
      rw [List.map_cons] at h
      exact ih (List.nodup_cons.mp h).2 hm
theorem lookC_none {C : List (Tx × α)} {k : Tx} (h : k ∉ C.map (·.1)) : lookC C k = none := by
  unfold lookC
  rw [List.find?_eq_none.mpr fun p hp => ?_]
  · rfl
  · rw [decide_eq_true_eq]
    intro e
    exact h (List.mem_map.mpr ⟨p, hp, e⟩)
theorem lookC_some {C : List (Tx × α)} {k : Tx} {v : α} (h : lookC C k = some v) : (k, v) ∈ C := by
  unfold lookC at h
  cases e : C.find? fun p => decide (p.1 = k) with
  | none =>
    rw [e] at h
    cases h
  | some p =>
    rw [e] at h
    have h : p.2 = v := Option.some.inj h
    have h1 := List.mem_of_find?_eq_some e
    have h2 := of_decide_eq_true (List.find?_some (p := fun p : Tx × α => decide (p.1 = k)) e)
    have : p = (k, v) := by rw [← h, ← h2]
    exact this ▸ h1
theorem kvT_len (f : α → V) (C : List (Tx × α)) : (kvT f C).length = C.length := List.length_map _
theorem kvT_keys (f : α → V) (C : List (Tx × α)) : (kvT f C).map (·.1) = (C.map fun p => S p.1).map Sum.inr := by
  unfold kvT
  rw [List.map_map, List.map_map]
  rfl
end
/-- a content's dict -/
structure ContAt (H : Hp) (d : Addr) (C : List (Tx × Tx)) : Prop where
  at_ : H d = some (.dK (kvT tx C))
  nd : (C.map (·.1)).Nodup
  key : ∀ p ∈ C, IsKey p.1 ∧ IsVal p.2
theorem ContAt.keep {H H' : Hp} {d : Addr} {C : List (Tx × Tx)} {L D : List Addr} (h : ContAt H d C) (k : Keep L D H H') (n : d ∉ D) : ContAt H' d C := ⟨k.dic h.at_ n, h.nd, h.key⟩
theorem cont_put {H : Hp} {d : Addr} {C : List (Tx × Tx)} {k v : Tx} (h : ContAt H d C) (hk : IsKey k) (hv : IsVal v) : ContAt (upd H d (.dK (putK (kvT tx C) (Sum.inr (S k)) (tx v)))) d (putC C k v) :=
  ⟨by rw [upd_same, putK_kvT], putC_nd h.nd, fun p hp => (putC_mem hp).elim (h.key p) fun e => by rw [e]; exact ⟨hk, hv⟩⟩
section
variable {w : World} {K : PySem.W.Frag} {mg : Str → Option Value} {base : Heap}
def spContent : Sp := fun vs H Q _ => ∃ (st ce : Addr), vs = [.ref st] ∧ StateAt H st ce ∧ ∀ p nr d cs C H', H' p = some (.tup [.ref nr, .ref d]) → NearAt H' nr cs → ContAt H' d C → C.length ≤ 46 → H d = none → Keep [st, ce] [] H H' → StateAt H' st ce → Q (.ref p) H'
theorem sc__law_content : FnScope ["_law_state", "_law_letters", "_law_near", "_law_content_here", "_law_k", "_law_start", "_law_letter"] ["_law_state"] (defScope s__law_content) := ⟨rfl, rfl, rfl, by decide +kernel, rfl, by decide +kernel, by decide +kernel⟩
theorem ok_content (T : Fx w K mg base) : Ok PR w K mg base d__law_content ["_law_state"] 3 spContent := by
  obtain ⟨fd__law_draw, F__law_draw, b__law_draw, k__law_draw⟩ := ok_draw T
  obtain ⟨fd__law_key, F__law_key, b__law_key, k__law_key⟩ := ok_key T
  obtain ⟨fd__law_value, F__law_value, b__law_value, k__law_value⟩ := ok_value T
  refine Ok.mk (N := ["_law_state", "_law_letters", "_law_near", "_law_content_here", "_law_k", "_law_start", "_law_letter"]) T.i__law_content sc__law_content (fun vs H Q E h => ?_) (fun _ _ _ _ _ _ us hl => match us, hl with | [_], _ => rfl) (fun cdv A outer s H vs Q E hr h => ?_)
  · obtain ⟨_, _, rfl, _⟩ := h
    rfl
  · obtain ⟨st, ce, rfl, S0, k⟩ := h
    have hu := hu_of hr
    refine ⟨_, PSs.nox (pss_cons (ps_set (i := 1) sc__law_content.nd rfl (Or.inr rfl) pe_str)
    (pss_cons (ps_setLc (i := 2) (own := [("_law_k", 4)]) (g := gName 4) (tt := tYes) rfl sc__law_content.nd rfl rfl (sw_true rfl rfl rfl (by decide +kernel)) (pi_range1 rfl T.f_range (pa_cons (pe_op op_add pe_int (pe_call F__law_draw (hr.mono (by first | decide | omega)) rfl T.g__law_draw k__law_draw b__law_draw .nil passL (pa_cons (pv 0) (pa_cons pe_int pa_nil)))) pa_nil)) (blkOk_by (N := ["_law_state", "_law_letters", "_law_near", "_law_content_here", "_law_k", "_law_start", "_law_letter"]) (sc := defScope s__law_content) (own := [("_law_k", 4)]) (by decide +kernel)) (fun _ _ _ _ _ => (pg_name (i := 4) sc__law_content.nd rfl (Or.inl rfl))) (fun _ _ _ _ _ => pts_nil) (fun _ _ _ _ _ => (pe_ix ix_str (pv 1) (pe_call F__law_draw (hr.mono (by first | decide | omega)) rfl T.g__law_draw k__law_draw b__law_draw .nil passL (pa_cons (pv 0) (pa_cons pe_int pa_nil))) (fun _ _ => rfl))))
    (pss_cons (ps_set (i := 3) sc__law_content.nd rfl (Or.inl rfl) pe_dnewK)
    (C8.pss_cut (ps_if (pt_cmpR op_eq (pe_call F__law_draw (hr.mono (by first | decide | omega)) rfl T.g__law_draw k__law_draw b__law_draw .nil passL (pa_cons (pv 0) (pa_cons pe_int pa_nil))) pe_int (nomark _))
      (pss_cons (ps_set (i := 5) sc__law_content.nd rfl (Or.inl rfl) (pe_slice sl_str (pe_call F__law_key (hr.mono (by first | decide | omega)) rfl T.g__law_key k__law_key b__law_key .nil passL (pa_cons (pv 0) (pa_cons (pv 2) pa_nil))) po_none (po_some pe_int)))
      (pss_one (ps_for PassesOwn.never rfl (pi_str (pv 1)) (pg_name (i := 6) sc__law_content.nd rfl (Or.inl rfl))
        (pss_one (ps_dput hu (pv 3) (pe_op op_add_str (pv 5) (pv 6)) (pe_call F__law_value (hr.mono (by first | decide | omega)) rfl T.g__law_value k__law_value b__law_value .nil passL (pa_cons (pv 0) pa_nil)) rfl)))))
      pss_nil)
    (pss_cons (ps_for PassesOwn.never rfl (pi_range1 rfl T.f_range (pa_cons (pe_ix ix_list (pe_lst (pa_cons pe_int (pa_cons pe_int (pa_cons pe_int (pa_cons pe_int (pa_cons pe_int (pa_cons pe_int (pa_cons pe_int (pa_cons pe_int pa_nil))))))))) (pe_call F__law_draw (hr.mono (by first | decide | omega)) rfl T.g__law_draw k__law_draw b__law_draw .nil passL (pa_cons (pv 0) (pa_cons pe_int pa_nil))) (fun _ _ => rfl)) pa_nil)) (pg_name (i := 4) sc__law_content.nd rfl (Or.inl rfl))
      (pss_cons (ps_set (i := 5) sc__law_content.nd rfl (Or.inl rfl) pe_str)
      (C8.pss_cut (ps_if (PW.pt (pw_and (pt_cmpR (SealR.op_neNo hr.units0) (pv 3) pe_dnewK (nomark _)) (pw_and1 (pt_cmpR op_eq (pe_call F__law_draw (hr.mono (by first | decide | omega)) rfl T.g__law_draw k__law_draw b__law_draw .nil passL (pa_cons (pv 0) (pa_cons pe_int pa_nil))) pe_int (nomark _)))))
        (pss_cons (ps_set (i := 5) sc__law_content.nd rfl (Or.inl rfl) (pe_ix ix_list (pe_callTy (call_listD rfl) rfl T.f_list B_list (pa_cons (pv 3) pa_nil)) (pe_call F__law_draw (hr.mono (by first | decide | omega)) rfl T.g__law_draw k__law_draw b__law_draw .nil passL (pa_cons (pv 0) (pa_cons (pe_callB call_lenD rfl T.f_len B_len (pa_cons (pv 3) pa_nil)) pa_nil))) (fun _ _ => rfl)))
        (pss_one (ps_set (i := 5) sc__law_content.nd rfl (Or.inl rfl) (pe_slice sl_str (pv 5) po_none (po_some (pe_call F__law_draw (hr.mono (by first | decide | omega)) rfl T.g__law_draw k__law_draw b__law_draw .nil passL (pa_cons (pv 0) (pa_cons (pe_op op_add (pe_callB call_len_str rfl T.f_len B_len (pa_cons (pv 5) pa_nil)) pe_int) pa_nil))))))))
        pss_nil)
      (pss_one (ps_dput hu (pv 3) (pe_slice sl_str (pe_op op_add_str (pv 5) (pe_call F__law_key (hr.mono (by first | decide | omega)) rfl T.g__law_key k__law_key b__law_key .nil passL (pa_cons (pv 0) (pa_cons (pv 2) pa_nil)))) po_none (po_some pe_int)) (pe_call F__law_value (hr.mono (by first | decide | omega)) rfl T.g__law_value k__law_value b__law_value .nil passL (pa_cons (pv 0) pa_nil)) rfl)))))
    (pss_one (ps_ret (pe_tup (pa_cons (pv 2) (pa_cons (pv 3) pa_nil)))))))))), ?_⟩
    have fresh : ∀ {D : Addr}, H D = none → D ∉ [st, ce] := fun {D} hD hm => by
      obtain ⟨x1, e1⟩ := S0.some1
      obtain ⟨x2, e2⟩ := S0.some2
      rcases List.mem_cons.mp hm with e | hm
      · rw [e, e1] at hD
        cases hD
      · rw [List.mem_singleton.mp hm, e2] at hD
        cases hD
    refine ⟨_, rfl, st, ce, 2, rfl, S0, by decide, by decide, fun j H1 hj k1 S1 => ⟨_, _, rfl, rfl, 2 + (j : Int), rfl, by omega, by omega, fun D hD => ?_⟩⟩
    have hD0 := k1.dom _ hD
    have nDS := fresh hD0
    refine lc_it (walk_range (lo := 0) (n := (2 + (j : Int)).toNat)) (fun i H' => Keep [st, ce] [] H H' ∧ StateAt H' st ce ∧ ∃ cs : List Nat, cs.length = i ∧ (∀ c ∈ cs, 97 ≤ c ∧ c ≤ 122) ∧ H' D = some (.lst (cs.map fun c => tx [c])))
      ⟨k1.put hD0, S1.keep0 (D := []) (Keep.new hD), [], rfl, fun c h => (by cases h), upd_same⟩ (fun _ _ _ _ => True.intro) ?_ ?_
    · rintro i y H2 H3 hi ⟨k2, S2, cs, hcl, hcs, hD2⟩ ⟨rfl, rfl⟩
      refine ⟨rfl, _, rfl, _, rfl, st, ce, 26, rfl, S2, by decide, by decide, fun q H4 hq k4 S4 => ?_⟩
      have hg : LT[q]? = some (LT[q]'hq) := List.getElem?_eq_getElem hq
      have hD4 := k4.lst hD2 nDS
      refine ⟨("abcdefghijklmnopqrstuvwxyz" : Str), _, LT[q]'hq, rfl, rfl, by rw [L_letters]; exact toSzS (by decide), by rw [L_letters]; exact atI_nat hg, _, hD4, ?_, (k2.trans k4).put hD0, ?_, cs ++ [LT[q]'hq], by rw [List.length_append, hcl]; rfl, ?_, ?_⟩
      · rw [List.length_map, hcl]
        exact Nat.lt_of_lt_of_le hi (Nat.le_trans (by omega : (2 + (j : Int)).toNat ≤ 4) (by decide))
      · exact S4.keep (D := []) (L := [D]) ((Keep.refl H4).putL hD4 (by simp)) (fun z => nDS (by rw [List.mem_singleton.mp z]; simp)) (fun z => nDS (by rw [List.mem_singleton.mp z]; simp))
      · intro c hc
        rcases List.mem_append.mp hc with hc | hc
        · exact hcs c hc
        · rw [List.mem_singleton.mp hc]
          exact LT_low _ (List.getElem_mem hq)
      · rw [upd_same, List.map_append]
        rfl
    · rintro H2 ⟨k2, S2, cs, hcl, hcs, hD2⟩
      have N2 : NearAt H2 D cs := ⟨hD2, by omega, by omega, hcs⟩
      intro d hd
      have hd0 := k2.dom _ hd
      have kd : Keep [] [] H2 (upd H2 d (.dK [])) := Keep.new hd
      have eL : ∀ (o4 o5 o6 : Option V), ([some (V.ref st), some (V.str ("abcdefghijklmnopqrstuvwxyz" : Str)), some (V.ref D), some (V.ref d), o4, o5, o6] : L2.St) = [some (V.ref st), some (tx LT), some (V.ref D), some (V.ref d), o4, o5, o6] := fun o4 o5 o6 => by rw [L_letters]
      -- a key's value stored
      have put : ∀ {H5 : Hp} {C : List (Tx × Tx)} {kk vv : Tx} {n : Nat}, Keep [st, ce] [] H H5 → StateAt H5 st ce → NearAt H5 D cs → ContAt H5 d C → C.length ≤ n → IsKey kk → IsVal vv →
          Keep [st, ce] [] H (upd H5 d (.dK (putK (kvT tx C) (Sum.inr (S kk)) (tx vv)))) ∧ StateAt (upd H5 d (.dK (putK (kvT tx C) (Sum.inr (S kk)) (tx vv)))) st ce ∧ NearAt (upd H5 d (.dK (putK (kvT tx C) (Sum.inr (S kk)) (tx vv)))) D cs ∧
          ∃ C', ContAt (upd H5 d (.dK (putK (kvT tx C) (Sum.inr (S kk)) (tx vv)))) d C' ∧ C'.length ≤ n + 1 := fun {H5 C kk vv n} k5 S5 N5 hC hl hk hv => by
        have kk2 : Keep [] [d] H5 (upd H5 d (.dK (putK (kvT tx C) (Sum.inr (S kk)) (tx vv)))) := (Keep.refl H5).putD hC.at_ (by simp)
        exact ⟨k5.put hd0, S5.keep kk2 (by simp) (by simp), N5.keep kk2 (by simp), _, cont_put hC hk hv, Nat.le_trans (putC_len _ _ _) (Nat.succ_le_succ hl)⟩
      have C0 : ContAt (upd H2 d (.dK [])) d [] := ⟨upd_same, List.nodup_nil, fun p hp => by cases hp⟩
      have Sd : StateAt (upd H2 d (.dK [])) st ce := S2.keep0 kd
      have Nd : NearAt (upd H2 d (.dK [])) D cs := N2.keep kd (by simp)
      have kHd : Keep [st, ce] [] H (upd H2 d (.dK [])) := k2.put hd0
      refine ⟨fun σ H' => (∃ o4 o5 o6, σ = [some (.ref st), some (tx LT), some (.ref D), some (.ref d), o4, o5, o6]) ∧ Keep [st, ce] [] H H' ∧ StateAt H' st ce ∧ NearAt H' D cs ∧ ∃ C, ContAt H' d C ∧ C.length ≤ 26, ?_, ?_⟩
      · refine ⟨_, rfl, st, ce, 8, rfl, Sd, by decide, by decide, fun z H4 hz k4 S4 => ⟨rfl, _, rfl, ?_⟩⟩
        have k04 := kHd.trans k4
        have N4 := Nd.keep k4 nDS
        have C4 := C0.keep k4 (by simp)
        refine ite2 (fun hT => ?_) (fun hF => ?_)
        · refine ⟨_, rfl, _, rfl, st, ce, D, cs, rfl, S4, N4, fun l H5 hl k5 S5 => ⟨3, rfl, S l, rfl, toSzS (Nat.le_trans hl.1 (by decide)), ?_⟩⟩
          have e3 : cutS (S l) none (some 3) = S (l.take 3) := slice_to2 l 3
          rw [e3]
          refine ⟨_, rfl, _, rfl, ?_⟩
          refine for_it walk_str (fun i σ H' => (∃ o4 o6, σ = [some (.ref st), some (tx LT), some (.ref D), some (.ref d), o4, some (tx (l.take 3)), o6]) ∧ Keep [st, ce] [] H H' ∧ StateAt H' st ce ∧ NearAt H' D cs ∧ ∃ C, ContAt H' d C ∧ C.length ≤ i)
            ⟨⟨none, none, eL _ _ _⟩, k04.trans k5, S5, N4.keep k5 nDS, [], C4.keep k5 (by simp), Nat.le_refl _⟩ (fun _ _ _ _ _ => True.intro) ?_ ?_
          · rintro i y σ H6 H7 hi ⟨⟨o4, o6, rfl⟩, k6, S6, N6, C, hC, hCl⟩ ⟨rfl, c, hc, rfl⟩
            have hc : LT[i]? = some c := by
              rw [L_letters] at hc
              simpa using hc
            have hcl := LT_low c (List.mem_of_getElem? hc)
            have hi26 : i < 26 := (List.getElem?_eq_some_iff.mp hc).1
            refine ⟨_, rfl, st, ce, rfl, S6, fun v H8 hv k8 S8 => ?_⟩
            have hkey : IsKey (l.take 3 ++ [c]) := ⟨by rw [List.length_append, List.length_take]; show min 3 l.length + 1 ≤ 8; omega, Lows.app (a := l.take 3) (fun z hz => hl.2 z (List.mem_of_mem_take hz)) (Lows.one hcl)⟩
            have hC8 := hC.keep k8 (by simp)
            have eS : (S (l.take 3) ++ (⟨#[c]⟩ : Str)) = S (l.take 3 ++ [c]) := S_cat (l.take 3) [c]
            obtain ⟨p1, p2, p3, p4⟩ := put (n := i) (k6.trans k8) S8 (N6.keep k8 nDS) hC8 hCl hkey hv
            refine ⟨_, rfl, _, rfl, _, rfl, S (l.take 3), ⟨#[c]⟩, rfl, rfl, ?_, d, _, rfl, ?_, ⟨_, _, rfl⟩, p1, p2, p3, p4⟩
            · rw [len_S, List.length_take]
              show min 3 l.length + 1 ≤ sizeLine
              exact toSz (by omega)
            · rw [eS]
              exact DPut.k (k := Sum.inr (S (l.take 3 ++ [c]))) hC8.at_ (by rw [kvT_len]; exact Nat.lt_of_le_of_lt hCl (Nat.lt_of_lt_of_le hi26 (by decide)))
          · rintro σ H6 ⟨⟨o4, o6, rfl⟩, k6, S6, N6, C, hC, hCl⟩
            refine ⟨⟨_, _, _, rfl⟩, k6, S6, N6, C, hC, Nat.le_trans hCl ?_⟩
            rw [L_letters]
            show LT.toArray.size ≤ 26
            decide
        · exact ⟨⟨none, none, none, eL _ _ _⟩, k04, S4, N4, [], C4, Nat.zero_le _⟩
      · rintro σ H3 ⟨⟨o4, o5, o6, rfl⟩, k3, S3, N3, C, hC, hCl⟩
        refine ⟨by show 8 ≤ sizeLine; decide, fun p hp => ?_⟩
        have kp : Keep [] [] H3 (upd H3 p (.lst [.int 0, .int 1, .int 2, .int 3, .int 5, .int 8, .int 13, .int 20])) := Keep.new hp
        have npS := fresh (k3.dom _ hp)
        refine ⟨_, rfl, st, ce, 8, rfl, S3.keep0 kp, by decide, by decide, fun j H4 hj k4 S4 => ?_⟩
        have hm : ∃ m : Nat, ([V.int 0, .int 1, .int 2, .int 3, .int 5, .int 8, .int 13, .int 20] : List V)[j]? = some (.int (m : Int)) ∧ m ≤ 20 := by
          have hj8 : j = 0 ∨ j = 1 ∨ j = 2 ∨ j = 3 ∨ j = 4 ∨ j = 5 ∨ j = 6 ∨ j = 7 := by omega
          rcases hj8 with rfl | rfl | rfl | rfl | rfl | rfl | rfl | rfl
          · exact ⟨0, rfl, by decide⟩
          · exact ⟨1, rfl, by decide⟩
          · exact ⟨2, rfl, by decide⟩
          · exact ⟨3, rfl, by decide⟩
          · exact ⟨5, rfl, by decide⟩
          · exact ⟨8, rfl, by decide⟩
          · exact ⟨13, rfl, by decide⟩
          · exact ⟨20, rfl, by decide⟩
        obtain ⟨m, em, hm⟩ := hm
        have k34 := (kp.mono0 (L := [st, ce]) (D := [])).trans k4
        refine ⟨p, _, _, _, rfl, rfl, SqL.of (k4.lst upd_same npS), atI_nat em, (m : Int), rfl, by omega, by omega, ?_⟩
        refine for_it (walk_range (lo := 0) (n := (m : Int).toNat)) (fun i σ H' => (∃ o4 o5 o6, σ = [some (.ref st), some (tx LT), some (.ref D), some (.ref d), o4, o5, o6]) ∧ Keep [st, ce] [] H H' ∧ StateAt H' st ce ∧ NearAt H' D cs ∧ ∃ C, ContAt H' d C ∧ C.length ≤ 26 + i)
          ⟨⟨_, _, _, rfl⟩, k3.trans k34, S4, (N3.keep kp (by simp)).keep k4 nDS, C, (hC.keep kp (by simp)).keep k4 (by simp), hCl⟩ (fun _ _ _ _ _ => True.intro) ?_ ?_
        · rintro i y σ H5 H6 hi ⟨⟨o4, o5, o6, rfl⟩, k5, S5, N5, C, hC, hCl⟩ ⟨rfl, rfl⟩
          have hi20 : i < 20 := by omega
          refine ⟨fun σ H' => (∃ l0 : Tx, Lows l0 ∧ l0.length ≤ 8 ∧ σ = [some (.ref st), some (tx LT), some (.ref D), some (.ref d), some (.int (0 + (i : Int))), some (tx l0), o6]) ∧ Keep [st, ce] [] H H' ∧ StateAt H' st ce ∧ NearAt H' D cs ∧ ContAt H' d C, ?_, ?_⟩
          · refine ⟨_, rfl, fun q hq => ⟨d, q, kvT tx C, rfl, rfl, ?_, upd_same, _, rfl, ?_⟩⟩
            · exact (Keep.new (L := []) (D := []) (o := .dK []) hq).dic hC.at_ (by simp)
            have kq : Keep [] [] H6 (upd H6 q (.dK [])) := Keep.new hq
            have kq0 := k5.trans (kq.mono0 (L := [st, ce]) (D := []))
            have Sq := S5.keep0 kq
            have Nq := N5.keep kq (by simp)
            have Cq := hC.keep kq (by simp)
            have stay : ∀ H', Keep [st, ce] [] H H' → StateAt H' st ce → NearAt H' D cs → ContAt H' d C →
                (∃ l0 : Tx, Lows l0 ∧ l0.length ≤ 8 ∧ ([some (.ref st), some (tx LT), some (.ref D), some (.ref d), some (.int (0 + (i : Int))), some (V.str ("" : Str)), o6] : L2.St) = [some (.ref st), some (tx LT), some (.ref D), some (.ref d), some (.int (0 + (i : Int))), some (tx l0), o6]) ∧ Keep [st, ce] [] H H' ∧ StateAt H' st ce ∧ NearAt H' D cs ∧ ContAt H' d C :=
              fun H' a b c e => ⟨⟨[], Lows.nil, Nat.zero_le _, by rw [L_nil]⟩, a, b, c, e⟩
            refine ite2 (fun hne => ?_) (fun hem => ?_)
            · refine ⟨_, rfl, st, ce, 2, rfl, Sq, by decide, by decide, fun z H7 hz k7 S7 => ⟨rfl, _, rfl, ?_⟩⟩
              have k07 := kq0.trans k7
              have N7 := Nq.keep k7 nDS
              have C7 := Cq.keep k7 (by simp)
              have hC0 : 0 < C.length := by
                cases C with
                | nil => exact absurd hne (by simp [kvT])
                | cons a r => exact Nat.succ_pos _
              refine ite2 (fun hT => ?_) (fun hF => stay H7 k07 S7 N7 C7)
              refine ⟨_, rfl, d, _, rfl, .inl C7.at_, fun lp hlp => ?_⟩
              have klp : Keep [] [] H7 (upd H7 lp (.lst ((kvT tx C).map fun kv => kV kv.1))) := Keep.new hlp
              have nlS := fresh (k07.dom _ hlp)
              refine ⟨_, rfl, _, rfl, d, _, rfl, klp.dic C7.at_ (by simp), st, ce, C.length, by rw [kvT_len]; rfl, S7.keep0 klp, hC0, Nat.lt_of_le_of_lt hCl (Nat.lt_of_lt_of_le (Nat.add_lt_add_left hi20 26) (by decide)), fun x H8 hx k8 S8 => ?_⟩
              have hget : ((kvT tx C).map fun kv => kV kv.1)[x]? = some (tx (C[x]'hx).1) := by
                unfold kvT
                rw [List.map_map, List.getElem?_map, List.getElem?_eq_getElem hx]
                rfl
              have hkx := (hC.key _ (List.getElem_mem hx)).1
              refine ⟨lp, _, _, _, rfl, rfl, SqL.of (k8.lst upd_same nlS), atI_nat hget, ?_⟩
              refine ⟨_, rfl, _, rfl, _, rfl, _, rfl, toSzS (Nat.le_trans hkx.1 (by decide)), _, _, rfl, rfl, st, ce, (C[x]'hx).1.length + 1, rfl, S8, Nat.succ_pos _, Nat.lt_of_le_of_lt (Nat.succ_le_succ hkx.1) (by decide), fun y H9 hy k9 S9 => ?_⟩
              refine ⟨(y : Int), rfl, S (C[x]'hx).1, rfl, toSzS (Nat.le_trans hkx.1 (by decide)), ⟨(C[x]'hx).1.take y, fun z hz => hkx.2 z (List.mem_of_mem_take hz), by rw [List.length_take]; exact Nat.le_trans (Nat.min_le_right _ _) hkx.1, ?_⟩, ?_, S9, ?_, ?_⟩
              · show [some (V.ref st), some (tx LT), some (V.ref D), some (V.ref d), some (V.int (0 + (i : Int))), some (V.str (cutS (S (C[x]'hx).1) none (some (y : Int)))), o6] = _
                rw [slice_to2]
              · exact ((k07.trans (klp.mono0 (L := [st, ce]) (D := []))).trans k8).trans k9
              · exact ((N7.keep klp (by simp)).keep k8 nDS).keep k9 nDS
              · exact ((C7.keep klp (by simp)).keep k8 (by simp)).keep k9 (by simp)
            · exact stay _ kq0 Sq Nq Cq
          · rintro σ H7 ⟨⟨l0, hl0, hl8, rfl⟩, k7, S7, N7, hC7⟩
            refine ⟨_, rfl, st, ce, rfl, S7, fun v H8 hv k8 S8 => ?_⟩
            refine ⟨_, rfl, _, rfl, _, rfl, _, rfl, st, ce, D, cs, rfl, S8, N7.keep k8 nDS, fun l H9 hl k9 S9 => ?_⟩
            have hC9 := (hC7.keep k8 (by simp)).keep k9 (by simp)
            have hkey : IsKey ((l0 ++ l).take 8) := ⟨by rw [List.length_take]; omega, fun z hz => (hl0.app hl.2) z (List.mem_of_mem_take hz)⟩
            obtain ⟨p1, p2, p3, p4⟩ := put (n := 26 + i) ((k7.trans k8).trans k9) S9 ((N7.keep k8 nDS).keep k9 nDS) hC9 hCl hkey hv
            refine ⟨S l0, S l, rfl, rfl, ?_, 8, rfl, _, rfl, ?_, d, _, rfl, ?_, ⟨_, _, _, rfl⟩, p1, p2, p3, p4⟩
            · rw [len_S, len_S]
              exact toSz (Nat.le_trans (Nat.add_le_add hl8 hl.1) (by decide))
            · rw [S_cat]
              exact toSzS (by rw [List.length_append]; exact Nat.le_trans (Nat.add_le_add hl8 hl.1) (by decide))
            · have e8 : cutS (S l0 ++ S l) none (some 8) = S ((l0 ++ l).take 8) := by
                rw [S_cat]
                exact slice_to2 _ 8
              rw [e8]
              exact DPut.k (k := Sum.inr (S ((l0 ++ l).take 8))) hC9.at_ (by rw [kvT_len]; exact Nat.lt_of_le_of_lt hCl (Nat.lt_of_lt_of_le (Nat.add_lt_add_left hi20 26) (by decide)))
        · rintro σ H5 ⟨⟨o4, o5, o6, rfl⟩, k5, S5, N5, C, hC, hCl⟩
          refine ⟨_, rfl, _, rfl, by show 2 ≤ sizeLine; decide, fun r hr2 => ?_⟩
          have kr : Keep [] [] H5 (upd H5 r (.tup [.ref D, .ref d])) := Keep.new hr2
          exact k r D d cs C _ upd_same (N5.keep kr (by simp)) (hC.keep kr (by simp)) (by omega) hd0 (k5.trans (kr.mono0 (L := [st, ce]) (D := []))) (S5.keep0 kr)
end
end Seal
/-! SealD9: the digests: what stands, what a call tells. -/
namespace Seal
open PySem PySem.Spec PyProof.Rows L2 SX SealR LamX NdefX
/-! ### the lambdas by places -/
def retTup : Stmt → Expr
  | .Return (some (.Tuple (e :: _) _ _)) _ => e
  | _ => .Constant .none 0 ⟨0, 0, 0, 0⟩
def ifBody : Stmt → List Stmt
  | .If _ b _ _ => b
  | _ => []
def lamBody : Expr → Expr
  | .Lambda _ b _ _ => b
  | e => e
def lamArgs : Expr → Arguments
  | .Lambda a _ _ _ => a
  | _ => { posonlyargs := [], args := [], vararg := none, kwonlyargs := [], kw_defaults := [], kwarg := none, defaults := [] }
def lamScope : Expr → Scope
  | .Lambda _ _ s _ => s
  | _ => { kind := .function, names := [], isGenerator := false, isCoroutine := false }
def pass0s : Stmt := .Pass ⟨0, 0, 0, 0⟩
def lam1 : Expr := retTup ((ifBody ((defBody s__law_digest).getD 1 pass0s)).getD 1 pass0s)
def lam2 : Expr := retTup ((defBody s__law_digest).getD 3 pass0s)
def F1 (q : Str) (cl : List (Str × Addr)) (c : Addr) : NF := ⟨"<lambda>", q, lamArgs lam1, [], lamScope lam1, cl, c⟩
def F2 (q : Str) (cl : List (Str × Addr)) (c : Addr) : NF := ⟨"<lambda>", q, lamArgs lam2, [], lamScope lam2, cl, c⟩
def fr1 : List Str := ["_law_met", "_law_start", "_law_step"]
def fr2 : List Str := ["_law_few", "_law_start"]
theorem sc1 : NScope ["_law_text_here", "_law_met", "_law_start", "_law_step"] ["_law_text_here"] fr1 (lamScope lam1) := nscope_by (by decide +kernel)
theorem sc2 : NScope ["_law_sealed", "_law_few", "_law_start", "_law_at", "_law_sign"] ["_law_sealed"] fr2 (lamScope lam2) := nscope_by (by decide +kernel)
/-! ### what they tell -/
def digA (a step : Nat) (C : List (Tx × Nat)) : Known := fun t => (lookC C t).map fun i => a + step * i
def nsB (a : Nat) (t : Tx) : List Int := t.mapIdx fun (i : Nat) (c : Nat) => ((i : Int) + (a : Int)) * (c : Int)
def digB (a few : Nat) : Known := fun t => some ((nsB a t).sum.fmod (few : Int)).toNat
def ofN (i : Nat) : V := .int (i : Int)
/-- a digest stands at f; d: its dict, M: what it tells so far, n: how often it was asked at most -/
inductive DigAt (H : Hp) (f d : Addr) (M : Known) (n : Nat) : Prop where
  | a (q : Str) (cl : List (Str × Addr)) (c : Addr) (a step : Nat) (C : List (Tx × Nat)) (hf : H f = some (LamO f (F1 q cl c) (lamBody lam1))) (hc : H c = some (CodeO c q)) (cc : CloAt cl fr1 [.ref d, .int (a : Int), .int (step : Int)] H)
    (hd : H d = some (.dK (kvT ofN C))) (hn : C.length ≤ n) (hv : ∀ p ∈ C, p.2 ≤ n) (ha : a < 10 ^ 9) (hs : step ≤ 10 ^ 24) (hM : M = digA a step C)
  | b (q : Str) (cl : List (Str × Addr)) (c : Addr) (a few : Nat) (hf : H f = some (LamO f (F2 q cl c) (lamBody lam2))) (hc : H c = some (CodeO c q)) (cc : CloAt cl fr2 [.int (few : Int), .int (a : Int)] H)
    (h0 : 0 < few) (hw : few ≤ 100) (ha : a < 10 ^ 9) (hM : M = digB a few)
theorem clo_keep {L D : List Addr} {H H' : Hp} (k : Keep L D H H') {cl : List (Str × Addr)} {fr : List Str} {ws : List V} (h : CloAt cl fr ws H) : CloAt cl fr ws H' :=
  ⟨h.len, fun p hp => (h.all p hp).imp fun v e => k.ext e, h.inj, fun i y e => by
    obtain ⟨c, v, e1, e2, e3⟩ := h.has i y e
    exact ⟨c, v, e1, e2, k.ext e3⟩⟩
theorem DigAt.keep {L D : List Addr} {H H' : Hp} {f d : Addr} {M : Known} {n : Nat} (h : DigAt H f d M n) (k : Keep L D H H') (hd : d ∉ D) : DigAt H' f d M n := by
  cases h with
  | a q cl c a step C h1 h2 h3 h4 h5 h6 h7 h8 h9 => exact .a q cl c a step C (k.ext h1) (k.ext h2) (clo_keep k h3) (k.dic h4 hd) h5 h6 h7 h8 h9
  | b q cl c a few h1 h2 h3 h4 h5 h6 h7 => exact .b q cl c a few (k.ext h1) (k.ext h2) (clo_keep k h3) h4 h5 h6 h7
theorem DigAt.keep0 {L : List Addr} {H H' : Hp} {f d : Addr} {M : Known} {n : Nat} (h : DigAt H f d M n) (k : Keep L [] H H') : DigAt H' f d M n := h.keep k (by simp)
theorem DigAt.mono {H : Hp} {f d : Addr} {M : Known} {n n' : Nat} (h : DigAt H f d M n) (k : n ≤ n') : DigAt H f d M n' := by
  cases h with
  | a q cl c a step C h1 h2 h3 h4 h5 h6 h7 h8 h9 => exact .a q cl c a step C h1 h2 h3 h4 (Nat.le_trans h5 k) (fun p hp => Nat.le_trans (h6 p hp) k) h7 h8 h9
  | b q cl c a few h1 h2 h3 h4 h5 h6 h7 => exact .b q cl c a few h1 h2 h3 h4 h5 h6 h7
theorem DigAt.lam {H : Hp} {f d : Addr} {M : Known} {n : Nat} (h : DigAt H f d M n) : ∃ F e, H f = some (LamO f F e) := by
  cases h with
  | a q cl c a step C h1 _ _ _ _ _ _ _ _ => exact ⟨_, _, h1⟩
  | b q cl c a few h1 _ _ _ _ _ _ => exact ⟨_, _, h1⟩
theorem LamO.keep {L D : List Addr} {H H' : Hp} (k : Keep L D H H') {f : Addr} {F : NF} {e : Expr} (h : H f = some (LamO f F e)) : H' f = some (LamO f F e) := k.ext h
/-! ### cells hidden -/
theorem back_upd {cs : List Addr} {H : Hp} {d : Addr} {o : HO} (hd : d ∉ cs) : back cs H (upd (hid cs H) d o) = upd H d o := by
  funext b
  by_cases hb : b ∈ cs
  · have : b ≠ d := fun z => hd (z ▸ hb)
    rw [back_in hb, upd_ne this]
  · rw [back_out hb]
    by_cases hbd : b = d
    · rw [hbd, upd_same, upd_same]
    · rw [upd_ne hbd, upd_ne hbd, hid_out hb]
theorem back_self {cs : List Addr} {H : Hp} : back cs H (hid cs H) = H := by
  funext b
  by_cases hb : b ∈ cs
  · rw [back_in hb]
  · rw [back_out hb, hid_out hb]
theorem back_keep {cs : List Addr} {H H' : Hp} {L D : List Addr} (k : Keep L D (hid cs H) H') : Keep L D H (back cs H H') := by
  refine ⟨fun b e => ?_, fun b o e h1 h2 => ?_⟩
  · by_cases hb : b ∈ cs
    · rwa [back_in hb] at e
    · rw [back_out hb] at e
      have := k.dom b e
      rwa [hid_out hb] at this
  · by_cases hb : b ∈ cs
    · rw [back_in hb]
      exact e
    · rw [back_out hb]
      exact k.at_ b o (by rw [hid_out hb]; exact e) h1 h2
theorem dict_out {cs : List Addr} {H : Hp} {d : Addr} {kvs : List (Key × V)} (C : CellsIn cs H) (h : H d = some (.dK kvs)) : d ∉ cs := not_cell C h fun v z => by
  unfold CellO at z
  cases z
section
variable {w : World} {K : PySem.W.Frag} {mg : Str → Option Value} {base : Heap}
theorem lookC_put {α : Type} {C : List (Tx × α)} {k j : Tx} {v : α} (h : lookC C k = none) : lookC (putC C k v) j = if j = k then some v else lookC C j := by
  have hn : k ∉ C.map (·.1) := fun hm => by
    obtain ⟨p, hp, e⟩ := List.mem_map.mp hm
    unfold lookC at h
    cases q : C.find? fun p => decide (p.1 = k) with
    | none => exact absurd (decide_eq_true e) (by simpa using List.find?_eq_none.mp q p hp)
    | some z =>
      rw [q] at h
      cases h
  rw [putC_new hn]
  unfold lookC
  rw [List.find?_append]
  by_cases e : j = k
  · subst e
    rw [if_pos rfl]
    have : C.find? (fun p => decide (p.1 = j)) = none := by
      cases q : C.find? fun p => decide (p.1 = j) with
      | none => rfl
      | some z =>
        unfold lookC at h
        rw [q] at h
        cases h
    rw [this]
    simp
  · rw [if_neg e]
    have : List.find? (fun p : Tx × α => decide (p.1 = j)) [(k, v)] = none := by
      rw [List.find?_cons, decide_eq_false (fun z : k = j => e z.symm)]
      rfl
    rw [this, Option.or_none]
/-- THE CALL of a digest -/
theorem dig_call (T : Fx w K mg base) {H : Hp} {f d : Addr} {M : Known} {n : Nat} (D : DigAt H f d M n) (hn : n < 10 ^ 6) {t : Tx} (hl : t.length ≤ 100000) {Q : VK}
    (h : ∀ k M' H', M.Le M' → M' t = some k → k < 10 ^ 40 → Keep [] [d] H H' → DigAt H' f d M' (n + 1) → Q (.int (k : Int)) H') : CloRun PR w K mg base 1 f [tx t] H Q := by
  cases D with
  | a q cl c a step C h1 h2 h3 h4 h5 h6 h7 h8 h9 =>
    refine lam_run (k := 0) (F := F1 q cl c) sc1 (fun pm ctv us hl => match us, hl with | [_], _ => rfl) h1 h2 h3 rfl (fun A outer s hr => ?_)
    have hu := hu_of hr
    refine ⟨_, pe_op op_add (pv 2) (pe_op op_mulW (pv 3) (pe_dsetd (pv 1) (pv 0) (pe_callB call_lenD rfl T.f_len B_len (pa_cons (pv 1) pa_nil)) ⟨rfl, rfl, rfl, rfl⟩)), ?_⟩
    have od := dict_out h3.cs h4
    have hd' : hid (cl.map (·.2)) H d = some (.dK (kvT ofN C)) := by rw [hid_out od]; exact h4
    have hmul : ∀ i : Nat, i ≤ n → CMulW (step : Int) (i : Int) := fun i hi => wide_mul (a := 100) (b := 30) (by rw [Int.natAbs_natCast]; exact Nat.lt_of_le_of_lt h8 (by decide)) (by rw [Int.natAbs_natCast]; exact Nat.lt_of_le_of_lt (Nat.le_trans hi (Nat.le_of_lt hn)) (by decide)) (by decide) (by decide) (by decide)
    have hbound : ∀ i : Nat, i ≤ n → a + step * i < 10 ^ 40 := fun i hi => by
      have e1 : step * i ≤ 10 ^ 24 * 10 ^ 6 := Nat.mul_le_mul h8 (Nat.le_trans hi (Nat.le_of_lt hn))
      have e2 : (10 : Nat) ^ 24 * 10 ^ 6 + 10 ^ 9 < 10 ^ 40 := by decide
      omega
    have hcast : ∀ i : Nat, (a : Int) + (step : Int) * (i : Int) = ((a + step * i : Nat) : Int) := fun i => by
      rw [Int.natCast_add, Int.natCast_mul]
    refine ⟨_, rfl, _, rfl, _, rfl, d, rfl, .inl ⟨_, .inl hd'⟩, _, rfl, _, rfl, d, _, rfl, hd', kvT ofN C, Sum.inr (S t), hd', rfl, ?_, fun v hv => ?_, fun hno => ?_⟩
    · rw [kvT_len]
      exact Nat.lt_of_le_of_lt h5 (Nat.lt_of_lt_of_le hn (by decide))
    · rw [valV_kvT] at hv
      cases e : lookC C t with
      | none =>
        rw [e] at hv
        cases hv
      | some i =>
        rw [e] at hv
        cases hv
        have hi := h6 _ (lookC_some e)
        refine ⟨_, _, rfl, rfl, hmul i hi, _, _, rfl, rfl, ?_⟩
        show Q (.int ((a : Int) + (step : Int) * (i : Int))) _
        rw [hcast, back_self]
        refine h _ M H (Known.Le.refl M) ?_ (hbound i hi) (Keep.refl H) ((DigAt.a q cl c a step C h1 h2 h3 h4 h5 h6 h7 h8 h9).mono (Nat.le_succ n))
        rw [h9]
        unfold digA
        rw [e]
        rfl
    · have hno2 : lookC C t = none := by
        rw [valV_kvT] at hno
        cases e : lookC C t with
        | none => rfl
        | some i =>
          rw [e] at hno
          cases hno
      refine ⟨_, _, rfl, rfl, ?_, _, _, rfl, rfl, ?_⟩
      · rw [kvT_len]
        exact hmul C.length h5
      · show Q (.int ((a : Int) + (step : Int) * ((kvT ofN C).length : Int))) (back (cl.map (·.2)) H (upd (hid (cl.map (·.2)) H) d (.dK (putK (kvT ofN C) (Sum.inr (S t)) (V.int ((kvT ofN C).length : Int))))))
        have ep : putK (kvT ofN C) (Sum.inr (S t)) (V.int ((kvT ofN C).length : Int)) = kvT ofN (putC C t C.length) := by
          rw [kvT_len]
          exact putK_kvT ofN C t C.length
        rw [ep, back_upd od, kvT_len, hcast]
        have kd : Keep [] [d] H (upd H d (.dK (kvT ofN (putC C t C.length)))) := (Keep.refl H).putD h4 (by simp)
        refine h _ (digA a step (putC C t C.length)) _ ?_ ?_ (hbound _ h5) kd (.a q cl c a step (putC C t C.length) (LamO.keep kd h1) (kd.ext h2) (clo_keep kd h3) upd_same (Nat.le_trans (putC_len _ _ _) (Nat.succ_le_succ h5)) ?_ h7 h8 rfl)
        · intro z k hz
          rw [h9] at hz
          unfold digA at hz ⊢
          rw [lookC_put hno2]
          by_cases ez : z = t
          · rw [ez, hno2] at hz
            cases hz
          · rw [if_neg ez]
            exact hz
        · unfold digA
          rw [lookC_put hno2, if_pos rfl]
          rfl
        · intro p hp
          rcases putC_mem hp with hp | hp
          · exact Nat.le_succ_of_le (h6 p hp)
          · rw [hp]
            exact Nat.le_succ_of_le h5
  | b q cl c a few h1 h2 h3 h4 h5 h6 h7 =>
    refine lam_run (k := 0) (F := F2 q cl c) sc2 (fun pm ctv us hl => match us, hl with | [_], _ => rfl) h1 h2 h3 rfl (fun A outer s hr => ?_)
    have hu := hu_of hr
    refine ⟨_, pe_op op_modN (pe_callB (cr_sum rfl) rfl T.f_sum B_sum (pa_cons (pe_lc (own := [("_law_at", 3), ("_law_sign", 4)]) (g := gTup K 2 (gCons (gName 3) (gCons (gName 4) gNil))) (tt := tYes) rfl sc2.nd (pi_enumS rfl T.f_enumerate (pa_cons (pv 0) pa_nil))
      (blkOk_by (N := ["_law_sealed", "_law_few", "_law_start", "_law_at", "_law_sign"]) (sc := lamScope lam2) (own := [("_law_at", 3), ("_law_sign", 4)]) (by decide +kernel)) (fun _ _ _ _ _ => (pg_tup rfl (pgs_cons (pg_name (i := 3) sc2.nd rfl (Or.inl rfl)) (pgs_cons (pg_name (i := 4) sc2.nd rfl (Or.inl rfl)) pgs_nil))))
      (fun _ _ _ _ _ => pts_nil) (fun _ _ _ _ _ => pe_op op_mul (pe_op op_add (pv 3) (pv 2)) (pe_callB call_ord rfl T.f_ord B_ord (pa_cons (pv 4) pa_nil)))) pa_nil)) (pv 1), ?_⟩
    refine ⟨_, rfl, S t, rfl, fun L hL => ?_⟩
    refine lc_enumS (fun i H' => Keep [] [] (hid (cl.map (·.2)) H) H' ∧ H' L = some (.lst (((nsB a t).take i).map V.int))) ⟨Keep.new hL, upd_same⟩ ?_ ?_
    · rintro i c Tt H1 hc ⟨k1, k2⟩ hTt
      have hc : t[i]? = some c := by simpa using hc
      have hi : i < t.length := (List.getElem?_eq_some_iff.mp hc).1
      have kT : Keep [] [] H1 (upd H1 Tt (.tup [.int (i : Int), .str ⟨#[c]⟩])) := Keep.new hTt
      refine ⟨Tt, _, rfl, SqT.of upd_same, rfl, _, _, rfl, _, _, rfl, rfl, rfl, ?_⟩
      refine ⟨_, rfl, _, rfl, _, _, rfl, rfl, _, rfl, _, rfl, rfl, _, _, rfl, rfl, .inl ⟨by omega, by omega⟩, _, kT.lst k2 (by simp), ?_, (k1.trans kT).put hL, ?_⟩
      · rw [List.length_map, List.length_take]
        have e : (nsB a t).length = t.length := by unfold nsB; rw [List.length_mapIdx]
        exact Nat.lt_of_le_of_lt (Nat.min_le_right _ _) (by rw [e]; exact Nat.lt_of_le_of_lt hl (by decide))
      · have e : (nsB a t)[i]? = some (((i : Int) + (a : Int)) * (c : Int)) := by
          unfold nsB
          rw [List.getElem?_mapIdx, hc]
          rfl
        rw [upd_same, take_snoc e, List.map_append]
        rfl
    · rintro H1 ⟨k1, k2⟩
      have hln : (nsB a t).take (S t).cps.size = nsB a t := List.take_of_length_le (by
        unfold nsB
        rw [List.length_mapIdx]
        simp)
      rw [hln] at k2
      refine ⟨L, _, rfl, SqL.of k2, _, rfl, _, _, rfl, rfl, (show (few : Int) ≠ 0 by omega), ?_⟩
      obtain ⟨k, ek, hk⟩ := fmod_nat (i := (nsB a t).sum) (m := (few : Int)) (by omega)
      show Q (.int ((nsB a t).sum.fmod (few : Int))) (back (cl.map (·.2)) H H1)
      rw [ek]
      have kb : Keep [] [] H (back (cl.map (·.2)) H H1) := back_keep k1
      refine h k M _ (Known.Le.refl M) ?_ ?_ kb.mono0 ((DigAt.b q cl c a few h1 h2 h3 h4 h5 h6 h7).keep0 kb |>.mono (Nat.le_succ n))
      · rw [h7]
        unfold digB
        rw [ek, Int.toNat_natCast]
      · have : k < 100 := by omega
        exact Nat.lt_of_lt_of_le this (by decide)
end
end Seal
/-! SealD10: a digest drawn. -/
namespace Seal
open PySem PySem.Spec PyProof.Rows L2 SX SealR LamX NdefX
section
variable {w : World} {K : PySem.W.Frag} {mg : Str → Option Value} {base : Heap}
def tabA (K : PySem.W.Frag) : Addr := (He.cT K ("_law_digest", none)).2
def spDigest (K : PySem.W.Frag) : Sp := fun vs H Q _ => ∃ (st ce : Addr), vs = [.ref st] ∧ StateAt H st ce ∧ H (tabA K) = some (.tbl #[]) ∧
  ∀ p f d M b H', H' p = some (.tup [.ref f, .bl b]) → DigAt H' f d M 0 → H' d ≠ none → StateAt H' st ce → Q (.ref p) H'
theorem sc__law_digest : FnScope ["_law_state", "_law_few", "_law_sort", "_law_start", "_law_met", "_law_step", "_law_at", "_law_sign"] ["_law_state"] (defScope s__law_digest) := ⟨rfl, rfl, rfl, by decide +kernel, rfl, by decide +kernel, by decide +kernel⟩
theorem ndA : ∀ y ∈ (lamScope lam1).names, y.2 = .free → (defScope s__law_digest).names.lookup y.1 = some .cell ∨ (defScope s__law_digest).names.lookup y.1 = some .free := ndef_free (fr := fr1) (by decide +kernel)
theorem ndB : ∀ y ∈ (lamScope lam2).names, y.2 = .free → (defScope s__law_digest).names.lookup y.1 = some .cell ∨ (defScope s__law_digest).names.lookup y.1 = some .free := ndef_free (fr := fr2) (by decide +kernel)
theorem wc_out {l : List (Addr × V)} {H : Hp} {b : Addr} {o : HO} (hl : ∀ p ∈ l, H p.1 = none) (h : H b = some o) : withCells l H b = some o := by
  rw [withCells_out]
  · exact h
  · cases e : l.lookup b with
    | none => rfl
    | some v =>
      have := hl _ (mem_look e)
      rw [h] at this
      cases this
theorem clo3 {H : Hp} {a b c : Addr} {x y z : V} {n1 n2 n3 : Str} (hab : a ≠ b) (hac : a ≠ c) (hbc : b ≠ c) (h12 : n1 ≠ n2) (h13 : n1 ≠ n3) (h23 : n2 ≠ n3) :
    CloAt [(n3, c), (n2, b), (n1, a)] [n1, n2, n3] [x, y, z] (withCells [(a, x), (b, y), (c, z)] H) := by
  have ea : withCells [(a, x), (b, y), (c, z)] H a = some (CellO a x) := withCells_in (by simp [List.lookup])
  have eb : withCells [(a, x), (b, y), (c, z)] H b = some (CellO b y) := withCells_in (by
    rw [List.lookup_cons, beq_eq_false_iff_ne.mpr (fun e : b = a => hab e.symm)]
    simp [List.lookup])
  have ec : withCells [(a, x), (b, y), (c, z)] H c = some (CellO c z) := withCells_in (by
    rw [List.lookup_cons, beq_eq_false_iff_ne.mpr (fun e : c = a => hac e.symm)]
    show List.lookup c [(b, y), (c, z)] = some z
    rw [List.lookup_cons, beq_eq_false_iff_ne.mpr (fun e : c = b => hbc e.symm)]
    simp [List.lookup])
  have l3 : List.lookup n3 [(n3, c), (n2, b), (n1, a)] = some c := by simp [List.lookup]
  have l2 : List.lookup n2 [(n3, c), (n2, b), (n1, a)] = some b := by
    rw [List.lookup_cons, beq_eq_false_iff_ne.mpr h23]
    simp [List.lookup]
  have l1 : List.lookup n1 [(n3, c), (n2, b), (n1, a)] = some a := by
    rw [List.lookup_cons, beq_eq_false_iff_ne.mpr h13]
    show List.lookup n1 [(n2, b), (n1, a)] = some a
    rw [List.lookup_cons, beq_eq_false_iff_ne.mpr h12]
    simp [List.lookup]
  refine ⟨rfl, fun p hp => ?_, fun u v d e1 e2 => ?_, fun i u e => ?_⟩
  · rcases List.mem_cons.mp hp with e | hp
    · exact ⟨z, by rw [e]; exact ec⟩
    rcases List.mem_cons.mp hp with e | hp
    · exact ⟨y, by rw [e]; exact eb⟩
    · exact ⟨x, by rw [List.mem_singleton.mp hp]; exact ea⟩
  · have m1 := PySem.mem_of_lookup e1
    have m2 := PySem.mem_of_lookup e2
    simp only [List.mem_cons, List.not_mem_nil, or_false, Prod.mk.injEq] at m1 m2
    rcases m1 with ⟨q1, r1⟩ | ⟨q1, r1⟩ | ⟨q1, r1⟩ <;> rcases m2 with ⟨q2, r2⟩ | ⟨q2, r2⟩ | ⟨q2, r2⟩ <;>
      first
        | exact q1.trans q2.symm
        | exact absurd (r1.symm.trans r2) hab
        | exact absurd (r1.symm.trans r2) hac
        | exact absurd (r1.symm.trans r2) hbc
        | exact absurd (r2.symm.trans r1) hab
        | exact absurd (r2.symm.trans r1) hac
        | exact absurd (r2.symm.trans r1) hbc
  · match i, e with
    | 0, e => cases e; exact ⟨a, x, l1, rfl, ea⟩
    | 1, e => cases e; exact ⟨b, y, l2, rfl, eb⟩
    | 2, e => cases e; exact ⟨c, z, l3, rfl, ec⟩
    | i + 3, e => simp at e
theorem clo2 {H : Hp} {a b : Addr} {x y : V} {n1 n2 : Str} (hab : a ≠ b) (h12 : n1 ≠ n2) :
    CloAt [(n2, b), (n1, a)] [n1, n2] [x, y] (withCells [(a, x), (b, y)] H) := by
  have ea : withCells [(a, x), (b, y)] H a = some (CellO a x) := withCells_in (by simp [List.lookup])
  have eb : withCells [(a, x), (b, y)] H b = some (CellO b y) := withCells_in (by
    rw [List.lookup_cons, beq_eq_false_iff_ne.mpr (fun e : b = a => hab e.symm)]
    simp [List.lookup])
  have l2 : List.lookup n2 [(n2, b), (n1, a)] = some b := by simp [List.lookup]
  have l1 : List.lookup n1 [(n2, b), (n1, a)] = some a := by
    rw [List.lookup_cons, beq_eq_false_iff_ne.mpr h12]
    simp [List.lookup]
  refine ⟨rfl, fun p hp => ?_, fun u v d e1 e2 => ?_, fun i u e => ?_⟩
  · rcases List.mem_cons.mp hp with e | hp
    · exact ⟨y, by rw [e]; exact eb⟩
    · exact ⟨x, by rw [List.mem_singleton.mp hp]; exact ea⟩
  · have m1 := PySem.mem_of_lookup e1
    have m2 := PySem.mem_of_lookup e2
    simp only [List.mem_cons, List.not_mem_nil, or_false, Prod.mk.injEq] at m1 m2
    rcases m1 with ⟨q1, r1⟩ | ⟨q1, r1⟩ <;> rcases m2 with ⟨q2, r2⟩ | ⟨q2, r2⟩ <;>
      first
        | exact q1.trans q2.symm
        | exact absurd (r1.symm.trans r2) hab
        | exact absurd (r2.symm.trans r1) hab
  · match i, e with
    | 0, e => cases e; exact ⟨a, x, l1, rfl, ea⟩
    | 1, e => cases e; exact ⟨b, y, l2, rfl, eb⟩
    | i + 2, e => simp at e
/-- behind the lambda's making -/
theorem lam_heap {H5 : Hp} {P c' f r : Addr} {ps : Array Value} {o1 o2 o3 : HO} {p0 : Array Value} (hP : H5 P = some (.tbl p0)) (hf : H5 f = none) (hc : H5 c' = none) (nfc : f ≠ c') (hr : (upd (upd (upd H5 P (.tbl ps)) c' o1) f o2) r = none) :
    (upd (upd (upd (upd H5 P (.tbl ps)) c' o1) f o2) r o3) f = some o2 ∧ (upd (upd (upd (upd H5 P (.tbl ps)) c' o1) f o2) r o3) c' = some o1 ∧ (∀ b o, H5 b = some o → (∀ q, o ≠ .tbl q) → (upd (upd (upd (upd H5 P (.tbl ps)) c' o1) f o2) r o3) b = some o) ∧ (upd (upd (upd (upd H5 P (.tbl ps)) c' o1) f o2) r o3) r = some o3 := by
  have n1 : f ≠ r := ne_of_none upd_same hr
  have n2 : c' ≠ r := ne_of_none (by rw [upd_ne nfc.symm, upd_same]) hr
  refine ⟨by rw [upd_ne n1, upd_same], by rw [upd_ne n2, upd_ne nfc.symm, upd_same], fun b o e n => ?_, upd_same⟩
  have bP : b ≠ P := ne_of e hP fun z => n _ z
  have bc := ne_of_none e hc
  have bf := ne_of_none e hf
  have e1 : (upd (upd (upd H5 P (.tbl ps)) c' o1) f o2) b = some o := by rw [upd_ne bf, upd_ne bc, upd_ne bP]; exact e
  rw [upd_ne (ne_of_none e1 hr)]
  exact e1
theorem ok_digest (T : Fx w K mg base) : Ok PR w K mg base d__law_digest ["_law_state"] 2 (spDigest K) := by
  obtain ⟨fd__law_draw, F__law_draw, b__law_draw, k__law_draw⟩ := ok_draw T
  obtain ⟨fd, F⟩ := T.i__law_digest
  have hbd := FunD.bindsN (ps := ["_law_state"]) F fun _ _ _ _ _ _ us hl => match us, hl with | [_], _ => rfl
  obtain ⟨oc, od, dV, kV, doc, pm, an, cdv, ct, osl, rfl, lk, hcd, hD, _⟩ := F.ex
  obtain ⟨cc, rfl⟩ := He.codeIn_ref hcd
  have ec : He.codeOf K ("_law_digest", none) = cc := He.codeOf_eq lk rfl
  have TB : TabB base mg cc (tabA K) := by
    have := T.tab
    have e1 : (He.cT K ("_law_digest", none)).1 = cc := ec
    rw [e1] at this
    exact this
  refine ⟨_, fn_ofR (k := 1) (N := ["_law_state", "_law_few", "_law_sort", "_law_start", "_law_met", "_law_step", "_law_at", "_law_sign"]) lk hcd sc__law_digest (fun vs H Q E h => ?_) (fun A outer s H vs Q E hr h => ?_), hbd, F.kp⟩
  · obtain ⟨_, _, rfl, _⟩ := h
    rfl
  · obtain ⟨st, ce, rfl, S0, hT, k⟩ := h
    refine rat_cons (ps_asg (pe_tup (pa_cons (pe_call F__law_draw (hr.mono (by first | decide | omega)) rfl T.g__law_draw k__law_draw b__law_draw .nil passL (pa_cons (pv 0) (pa_cons pe_int pa_nil))) (pa_cons (pe_call F__law_draw (hr.mono (by first | decide | omega)) rfl T.g__law_draw k__law_draw b__law_draw .nil passL (pa_cons (pv 0) (pa_cons (pe_op op_pow pe_int pe_int) pa_nil))) pa_nil))) (pg_tup rfl (pgs_cons (pg_name (i := 2) sc__law_digest.nd rfl (Or.inl rfl)) (pgs_cons (pg_name (i := 3) sc__law_digest.nd rfl (Or.inr rfl)) pgs_nil)))) ?_
    refine ⟨_, rfl, st, ce, 4, rfl, S0, by decide, by decide, fun so H1 hso k1 S1 => ?_⟩
    refine ⟨_, rfl, _, _, rfl, rfl, ⟨by decide, by decide, by decide⟩, st, ce, 10 ^ 9, rfl, S1, by decide, by decide, fun a H2 ha k2 S2 => ?_⟩
    refine ⟨by show 2 ≤ sizeLine; decide, fun p hp => ⟨p, _, rfl, SqT.of upd_same, rfl, _, _, rfl, _, _, rfl, rfl, ?_⟩⟩
    have kp : Keep [] [] H2 (upd H2 p (.tup [.int (so : Int), .int (a : Int)])) := Keep.new hp
    have S3 := S2.keep0 kp
    have T3 : (upd H2 p (.tup [.int (so : Int), .int (a : Int)])) (tabA K) = some (.tbl #[]) := kp.tbl (k2.tbl (k1.tbl hT))
    generalize upd H2 p (.tup [.int (so : Int), .int (a : Int)]) = H3 at S3 T3
    have nd1 : s.heap.objs.size + 2 ≠ s.heap.objs.size + 3 := by omega
    refine rat_if (pt_cmpR op_lt (pv 2) pe_int (nomark _)) ?_
    refine ⟨_, rfl, _, _, rfl, rfl, _, rfl, ?_⟩
    refine ite2 (fun hlt => ?_) (fun hge => ?_)
    · refine rat_cons (ps_asg (pe_tup (pa_cons pe_dnewK (pa_cons (pe_op op_add pe_int (pe_call F__law_draw (hr.mono (by first | decide | omega)) rfl T.g__law_draw k__law_draw b__law_draw .nil passL (pa_cons (pv 0) (pa_cons (pe_op op_pow pe_int pe_int) pa_nil)))) pa_nil))) (pg_tup rfl (pgs_cons (pg_name (i := 4) sc__law_digest.nd rfl (Or.inr rfl)) (pgs_cons (pg_name (i := 5) sc__law_digest.nd rfl (Or.inr rfl)) pgs_nil)))) ?_
      intro d hd
      have kd : Keep [] [] H3 (upd H3 d (.dK [])) := Keep.new hd
      refine ⟨_, rfl, _, _, rfl, rfl, ⟨by decide, by decide, by decide⟩, st, ce, 10 ^ 24, rfl, S3.keep0 kd, by decide, by decide, fun b H4 hb k4 S4 => ⟨_, _, rfl, rfl, ?_⟩⟩
      have D4 : H4 d = some (.dK []) := k4.dic upd_same (by simp)
      have T4 : H4 (tabA K) = some (.tbl #[]) := k4.tbl (kd.tbl T3)
      refine ⟨by show 2 ≤ sizeLine; decide, fun q hq => ⟨q, _, rfl, SqT.of upd_same, rfl, _, _, rfl, _, _, rfl, rfl, ?_⟩⟩
      have kq : Keep [] [] H4 (upd H4 q (.tup [.ref d, .int (1 + (b : Int))])) := Keep.new hq
      refine rat_ret (pe_tup (pa_cons (pe_lam TB rfl rfl ndA) (pa_cons pe_bl pa_nil))) ?_
      have T5 := kq.tbl T4
      have S5 := S4.keep0 kq
      have D5 := kq.dic D4 (by simp)
      refine ⟨T5, fun f c' ps hf hc' nfc => ⟨by show 2 ≤ sizeLine; decide, fun r hr2 => ?_⟩⟩
      have kr := Keep.new (L := []) (D := []) (o := .tup [.ref f, .bl true]) hr2
      refine ⟨[(s.heap.objs.size + 2, .ref d), (s.heap.objs.size + 3, .int (a : Int)), (s.heap.objs.size + 4, .int (1 + (b : Int)))], fun z hz => ?_, fun hno => ?_⟩
      · rcases List.mem_cons.mp hz with e | hz
        · exact ⟨"_law_met", 4, by rw [e]; rfl, rfl, rfl, by rw [e]; rfl⟩
        rcases List.mem_cons.mp hz with e | hz
        · exact ⟨"_law_start", 3, by rw [e]; rfl, rfl, rfl, by rw [e]; rfl⟩
        · rw [List.mem_singleton.mp hz]
          exact ⟨"_law_step", 5, rfl, rfl, rfl, rfl⟩
      · obtain ⟨hf7, hc7, stay, hr7⟩ := lam_heap (o3 := .tup [.ref f, .bl true]) T5 hf hc' nfc hr2
        have hd7 := stay d _ D5 fun z y => by cases y
        obtain ⟨ns, a', x, e1, e2, e3⟩ := S5.ex
        have cast : (1 + (b : Int)) = ((1 + b : Nat) : Int) := by omega
        refine k r f d (digA a (1 + b) []) true _ (wc_out hno hr7) (.a _ _ c' a (1 + b) [] (wc_out hno hf7) (wc_out hno hc7) ?_ (wc_out hno hd7) (Nat.le_refl _) (fun p hp => by cases hp) ha (by omega) rfl) (by rw [wc_out hno hd7]; simp) ⟨ns, a', x, wc_out hno (stay st _ e1 fun z y => by cases y), wc_out hno (stay ce _ e2 fun z y => by cases y), e3⟩
        rw [← cast]
        exact clo3 (a := s.heap.objs.size + 2) (b := s.heap.objs.size + 3) (c := s.heap.objs.size + 4) (n1 := "_law_met") (n2 := "_law_start") (n3 := "_law_step") (Nat.ne_of_lt (Nat.add_lt_add_left (by decide) _)) (Nat.ne_of_lt (Nat.add_lt_add_left (by decide) _)) (Nat.ne_of_lt (Nat.add_lt_add_left (by decide) _)) (by decide +kernel) (by decide +kernel) (by decide +kernel)
    · refine rat_cons (ps_set (i := 1) sc__law_digest.nd rfl (Or.inr rfl) (pe_ix ix_list (pe_lst (pa_cons pe_int (pa_cons pe_int (pa_cons pe_int (pa_cons pe_int pa_nil))))) (pe_call F__law_draw (hr.mono (by first | decide | omega)) rfl T.g__law_draw k__law_draw b__law_draw .nil passL (pa_cons (pv 0) (pa_cons pe_int pa_nil))) (fun _ _ => rfl))) ?_
      refine ⟨by show 4 ≤ sizeLine; decide, fun l hl => ?_⟩
      have kl : Keep [] [] H3 (upd H3 l (.lst [.int 1, .int 2, .int 7, .int 100])) := Keep.new hl
      have nlS : l ∉ [st, ce] := fun hm => by
        obtain ⟨x1, e1⟩ := S3.some1
        obtain ⟨x2, e2⟩ := S3.some2
        rcases List.mem_cons.mp hm with e | hm
        · rw [e, e1] at hl
          cases hl
        · rw [List.mem_singleton.mp hm, e2] at hl
          cases hl
      refine ⟨_, rfl, st, ce, 4, rfl, S3.keep0 kl, by decide, by decide, fun j H4 hj k4 S4 => ?_⟩
      have hm : ∃ m : Nat, ([V.int 1, .int 2, .int 7, .int 100] : List V)[j]? = some (.int (m : Int)) ∧ 0 < m ∧ m ≤ 100 := by
        have hj4 : j = 0 ∨ j = 1 ∨ j = 2 ∨ j = 3 := by omega
        rcases hj4 with rfl | rfl | rfl | rfl
        · exact ⟨1, rfl, by decide, by decide⟩
        · exact ⟨2, rfl, by decide, by decide⟩
        · exact ⟨7, rfl, by decide, by decide⟩
        · exact ⟨100, rfl, by decide, by decide⟩
      obtain ⟨m, em, hm0, hm⟩ := hm
      refine ⟨l, _, _, _, rfl, rfl, SqL.of (k4.lst upd_same nlS), atI_nat em, ?_⟩
      have T4 := k4.tbl (kl.tbl T3)
      refine rat_ret (pe_tup (pa_cons (pe_lam TB rfl rfl ndB) (pa_cons pe_bl pa_nil))) ?_
      refine ⟨T4, fun f c' ps hf hc' nfc => ⟨by show 2 ≤ sizeLine; decide, fun r hr2 => ?_⟩⟩
      refine ⟨[(s.heap.objs.size + 1, .int (m : Int)), (s.heap.objs.size + 3, .int (a : Int))], fun z hz => ?_, fun hno => ?_⟩
      · rcases List.mem_cons.mp hz with e | hz
        · exact ⟨"_law_few", 1, by rw [e]; rfl, rfl, rfl, by rw [e]; rfl⟩
        · rw [List.mem_singleton.mp hz]
          exact ⟨"_law_start", 3, rfl, rfl, rfl, rfl⟩
      · obtain ⟨hf7, hc7, stay, hr7⟩ := lam_heap (o3 := .tup [.ref f, .bl false]) T4 hf hc' nfc hr2
        obtain ⟨ns, a', x, e1, e2, e3⟩ := S4.ex
        exact k r f f (digB a m) false _ (wc_out hno hr7) (.b _ _ c' a m (wc_out hno hf7) (wc_out hno hc7) (clo2 (a := s.heap.objs.size + 1) (b := s.heap.objs.size + 3) (n1 := "_law_few") (n2 := "_law_start") (Nat.ne_of_lt (Nat.add_lt_add_left (by decide) _)) (by decide +kernel)) hm0 hm ha rfl) (by rw [wc_out hno hf7]; simp) ⟨ns, a', x, wc_out hno (stay st _ e1 fun z y => by cases y), wc_out hno (stay ce _ e2 fun z y => by cases y), e3⟩
end
end Seal
/-! SealD11: numbers and texts of what is told. -/
namespace Seal
open PySem PySem.Spec PyProof.Rows L2 SX SealR LamX NdefX
/-! ### texts, as they are joined -/
theorem joinL_flat : ∀ l : List Tx, TL.joinL [] l = l.flatten
  | [] => rfl
  | [p] => by
    show p = (p :: []).flatten
    simp
  | p :: q :: r => by
    show p ++ ([] ++ TL.joinL [] (q :: r)) = _
    rw [joinL_flat (q :: r)]
    simp
theorem rowsTx_flat (r : List (Nat × Nat)) : rowsTx r = (r.map rowTx).flatten := by
  unfold rowsTx
  rw [List.flatMap_def]
def Small (r : List (Nat × Nat)) : Prop := ∀ p ∈ r, p.2 < 10 ^ 40
theorem rowTx_len {p : Nat × Nat} (h : p.2 < 10 ^ 40) : (rowTx p).length ≤ 42 := by
  unfold rowTx
  have := dg_len (k := 40) (by decide) h
  rw [List.length_cons, List.length_cons]
  omega
theorem rowsTx_len {r : List (Nat × Nat)} (h : Small r) : (rowsTx r).length ≤ 42 * r.length := by
  induction r with
  | nil => exact Nat.le_refl _
  | cons p r ih =>
    have h1 := rowTx_len (h p List.mem_cons_self)
    have h2 := ih fun q hq => h q (List.mem_cons_of_mem _ hq)
    have e : rowsTx (p :: r) = rowTx p ++ rowsTx r := rfl
    rw [e, List.length_append, List.length_cons]
    omega
theorem startTx_len {s : Tx} {x : Option Tx} (hs : s.length ≤ 9) (hx : ∀ l, x = some l → l.length ≤ 41) : (startTx s x).length ≤ 60 := by
  unfold startTx
  rw [List.length_append]
  cases x with
  | none =>
    show s.length + 1 ≤ 60
    omega
  | some l =>
    have h1 := hx l rfl
    have h2 : (dg l.length).length ≤ 2 := dg_len (by decide) (Nat.lt_of_le_of_lt h1 (by decide))
    show s.length + (61 :: (dg l.length ++ 58 :: l)).length ≤ 60
    rw [List.length_cons, List.length_append, List.length_cons]
    omega
theorem nums_len {M : Known} : ∀ {ks : List (Nat × Tr)} {r}, nums M ks = some r → r.length = ks.length
  | [], r, h => by
    unfold nums at h
    rw [← Option.some.inj h]
    rfl
  | (c, t) :: ks, r, h => by
    obtain ⟨n, l, h1, h2, e⟩ := nums_of_cons h
    rw [e]
    exact congrArg Nat.succ (nums_len h2)
theorem nums_snoc {M : Known} {c : Nat} {t : Tr} {n : Nat} : ∀ {ks : List (Nat × Tr)} {r}, nums M ks = some r → t.num M = some n → nums M (ks ++ [(c, t)]) = some (r ++ [(c, n)])
  | [], r, h, ht => by
    unfold nums at h
    rw [← Option.some.inj h]
    refine nums_cons (l := []) ht ?_
    unfold nums
    rfl
  | (c', t') :: ks, r, h, ht => by
    obtain ⟨n', l, h1, h2, e⟩ := nums_of_cons h
    rw [e]
    exact nums_cons h1 (nums_snoc h2 ht)
theorem nums_nil {M : Known} : nums M [] = some [] := by
  unfold nums
  rfl
theorem sizes_nil : sizes [] = 0 := by
  unfold sizes
  rfl
theorem sizes_snoc (ks : List (Nat × Tr)) (c : Nat) (t : Tr) : sizes (ks ++ [(c, t)]) = sizes ks + t.size := by
  rw [sizes_app]
  have e : sizes [(c, t)] = t.size + sizes [] := by
    conv => lhs; unfold sizes
  rw [e, sizes_nil, Nat.add_zero]
theorem L_node : ("node" : Str) ≠ "stub" := by decide +kernel
section
variable {w : World} {K : PySem.W.Frag} {mg : Str → Option Value} {base : Heap}
/-- what a digest stands for, what it costs -/
def spNumT (d : Nat) : Sp := fun vs H Q _ => ∃ (v : V) (t : Tr) (f dd : Addr) (M : Known) (n : Nat), vs = [v, .ref f] ∧ Tells H t v ∧ Fit d t ∧ DigAt H f dd M n ∧ n + t.size < 10 ^ 6 ∧
  ∀ k M' H', M.Le M' → t.num M' = some k → k < 10 ^ 40 → Keep [] [dd] H H' → DigAt H' f dd M' (n + t.size) → Q (.int (k : Int)) H'
def spTextT (d : Nat) : Sp := fun vs H Q _ => ∃ (v : V) (s : Tx) (x : Option Tx) (ks : List (Nat × Tr)) (f dd : Addr) (M : Known) (n : Nat), vs = [v, .ref f] ∧ Tells H (.node s x ks) v ∧ Fit (d + 1) (.node s x ks) ∧ DigAt H f dd M n ∧ n + sizes ks < 10 ^ 6 ∧
  ∀ r M' H', M.Le M' → nums M' ks = some r → Small r → Keep [] [dd] H H' → DigAt H' f dd M' (n + sizes ks) → Q (tx (textTx s x r)) H'
theorem sc__law_text : FnScope ["_law_told_here", "_law_seal", "_law_text_here", "_law_letter", "_law_kid"] ["_law_told_here", "_law_seal"] (defScope s__law_text) := ⟨rfl, rfl, rfl, by decide +kernel, rfl, by decide +kernel, by decide +kernel⟩
theorem sc__law_number : FnScope ["_law_told_here", "_law_seal"] ["_law_told_here", "_law_seal"] (defScope s__law_number) := ⟨rfl, rfl, rfl, by decide +kernel, rfl, by decide +kernel, by decide +kernel⟩
theorem ok_textT (T : Fx w K mg base) (d : Nat) (G : Ok PR w K mg base d__law_number ["_law_told_here", "_law_seal"] (2 * d + 2) (spNumT d)) : Ok PR w K mg base d__law_text ["_law_told_here", "_law_seal"] (2 * d + 3) (spTextT d) := by
  obtain ⟨fd__law_number, F__law_number, b__law_number, k__law_number⟩ := G
  refine Ok.mk (k := 2 * d + 2) (N := ["_law_told_here", "_law_seal", "_law_text_here", "_law_letter", "_law_kid"]) T.i__law_text sc__law_text (fun vs H Q E h => ?_) (fun _ _ _ _ _ _ us hl => match us, hl with | [_, _], _ => rfl) (fun cdv A outer s H vs Q E hr h => ?_)
  · obtain ⟨_, _, _, _, _, _, _, _, rfl, _⟩ := h
    rfl
  · obtain ⟨v, st, x, ks, f, dd, M, n, rfl, ht, fit, D, hn, k⟩ := h
    refine ⟨_, PSs.nox (pss_cons (ps_if (pt_cmpR op_isN (pv 0) pe_non (nomark _))
      (pss_one (ps_ret pe_str))
      pss_nil)
    (pss_cons (ps_set (i := 2) sc__law_text.nd rfl (Or.inl rfl) (pe_op op_add_str (pe_ix ix_tup (pv 0) pe_int (fun _ _ => rfl)) pe_str))
    (C8.pss_cut (ps_if (pt_cmpR op_notN (pe_ix ix_tup (pv 0) pe_int (fun _ _ => rfl)) pe_non (nomark _))
      (pss_one (ps_set (i := 2) sc__law_text.nd rfl (Or.inl rfl) (pe_op op_add_str (pe_op op_add_str (pe_op op_add_str (pe_op op_add_str (pe_ix ix_tup (pv 0) pe_int (fun _ _ => rfl)) pe_str) (pe_callTy call_str_int rfl T.f_str B_str (pa_cons (pe_callB call_len_str rfl T.f_len B_len (pa_cons (pe_ix ix_tup (pv 0) pe_int (fun _ _ => rfl)) pa_nil)) pa_nil))) pe_str) (pe_ix ix_tup (pv 0) pe_int (fun _ _ => rfl)))))
      pss_nil)
    (pss_one (ps_ret (pe_op op_add_str (pv 2) (pe_join pe_str (pe_lc (own := [("_law_letter", 3), ("_law_kid", 4)]) (g := gTup K 2 (gCons (gName 3) (gCons (gName 4) gNil))) (tt := tYes) rfl sc__law_text.nd (pi_tup (pe_ix ix_tup (pv 0) pe_int (fun _ _ => rfl))) (blkOk_by (N := ["_law_told_here", "_law_seal", "_law_text_here", "_law_letter", "_law_kid"]) (sc := defScope s__law_text) (own := [("_law_letter", 3), ("_law_kid", 4)]) (by decide +kernel)) (fun _ _ _ _ _ => (pg_tup rfl (pgs_cons (pg_name (i := 3) sc__law_text.nd rfl (Or.inl rfl)) (pgs_cons (pg_name (i := 4) sc__law_text.nd rfl (Or.inl rfl)) pgs_nil)))) (fun _ _ _ _ _ => pts_nil) (fun _ _ _ _ _ => (pe_op op_add_str (pe_op op_add_str pe_str (pv 3)) (pe_callTy call_str_int rfl T.f_str B_str (pa_cons (pe_call F__law_number (hr.mono (by first | decide | omega)) rfl T.g__law_number k__law_number b__law_number .nil passL (pa_cons (pv 4) (pa_cons (pv 1) pa_nil))) pa_nil)))))))))))), ?_⟩
    have ht' := ht
    unfold Tells at ht'
    obtain ⟨a, b, us, rfl, ha, hb, hL⟩ := ht'
    refine ⟨_, rfl, rfl, _, rfl, ?_⟩
    refine iteF ?_
    refine ⟨_, rfl, a, _, _, _, rfl, rfl, SqT.of ha, rfl, S st, S [45], rfl, (congrArg V.str L_dash), toSz (by rw [len_S, len_S]; show st.length + 1 ≤ _; have := fit.stem.2; omega), ?_⟩
    rw [S_cat]
    refine ⟨fun σ H' => σ = [some (.ref a), some (.ref f), some (tx (startTx st x)), none, none] ∧ H' = H, ?_, ?_⟩
    · refine ⟨_, rfl, a, _, _, _, rfl, rfl, SqT.of ha, rfl, rfl, _, rfl, ?_⟩
      rw [txO_dec]
      cases x with
      | none => exact iteF ⟨rfl, rfl⟩
      | some l =>
        have hl := fit.val rfl
        have hs := fit.stem.2
        have hd : (dg (S l).length).length ≤ 2 := dg_len (by decide) (by rw [len_S]; exact Nat.lt_of_le_of_lt hl (by decide))
        have hd2 : (dg l.length).length ≤ 2 := dg_len (by decide) (Nat.lt_of_le_of_lt hl (by decide))
        refine iteT ?_
        refine ⟨_, rfl, a, _, _, _, rfl, rfl, SqT.of ha, rfl, S st, S [61], rfl, (congrArg V.str L_eq), toSz (by rw [len_S, len_S]; show st.length + 1 ≤ _; omega), ?_⟩
        rw [S_cat]
        refine ⟨_, rfl, a, _, _, _, rfl, rfl, SqT.of ha, rfl, _, rfl, toSzS (Nat.le_trans hl (by decide)), _, rfl, ?_, ?_⟩
        · rw [len_S]
          exact log2_small (Nat.lt_of_le_of_lt hl (by decide))
        refine ⟨S (st ++ [61]), S (dg (S l).length), rfl, (congrArg V.str (num_S2 _)), toSz (by rw [len_S, len_S, List.length_append]; show st.length + 1 + _ ≤ _; omega), ?_⟩
        rw [S_cat]
        refine ⟨_, S [58], rfl, (congrArg V.str L_col), toSz (by rw [len_S, len_S, List.length_append, List.length_append]; show st.length + 1 + _ + 1 ≤ _; omega), ?_⟩
        rw [S_cat]
        refine ⟨_, rfl, a, _, _, _, rfl, rfl, SqT.of ha, rfl, _, S l, rfl, rfl, toSz (by rw [len_S, len_S, List.length_append, List.length_append, List.length_append]; show st.length + 1 + _ + 1 + _ ≤ _; omega), ?_⟩
        rw [S_cat]
        refine ⟨?_, rfl⟩
        have e : ((((st ++ [61]) ++ dg (S l).length) ++ [58]) ++ l) = startTx st (some l) := by
          rw [len_S]
          unfold startTx
          simp only [List.append_assoc, List.cons_append, List.nil_append]
        show [some (V.ref a), some (V.ref f), some (V.str (S ((((st ++ [61]) ++ dg (S l).length) ++ [58]) ++ l))), none, none] = _
        rw [e]
    · rintro σ H1 ⟨rfl, he⟩
      subst he
      refine ⟨_, rfl, ⟨_, rfl⟩, ?_⟩
      refine ⟨_, rfl, a, _, _, _, rfl, rfl, SqT.of ha, rfl, b, rfl, ⟨_, SqT.of hb⟩, fun L hLn => ?_⟩
      refine lc_it (walk_tup (xs := us)) (fun i H' => ∃ M' r, M.Le M' ∧ nums M' (ks.take i) = some r ∧ Small r ∧ Keep [] [dd] H1 H' ∧ DigAt H' f dd M' (n + sizes (ks.take i)) ∧ H' L = some (.lst (r.map fun p => tx (rowTx p)))) ?_ (fun i H' _ h => ?_) ?_ ?_
      · refine ⟨M, [], Known.Le.refl M, nums_nil, (fun p hp => by cases hp), Keep.new hLn, ?_, upd_same⟩
        rw [List.take_zero, sizes_nil]
        exact D.keep0 (L := []) (Keep.new hLn)
      · obtain ⟨M', r, _, _, _, h4, _⟩ := h
        exact h4.sqt (SqT.of hb)
      · rintro i y H2 H3 hi ⟨M', r, m1, m2, m3, m4, m5, m6⟩ ⟨rfl, hy⟩
        obtain ⟨c, t, p, u, ek, rfl, hp, htt⟩ := tellsL_get hL hy
        have fk := (fit.kid (List.mem_of_getElem? ek)).2
        have hsz : sizes (ks.take (i + 1)) ≤ sizes ks := by
          have q := sizes_app (ks.take (i + 1)) (ks.drop (i + 1))
          rw [List.take_append_drop] at q
          omega
        have hs2 : sizes (ks.take (i + 1)) = sizes (ks.take i) + t.size := by rw [take_snoc ek, sizes_snoc]
        refine ⟨p, _, rfl, SqT.of (m4.tup hp), rfl, _, _, rfl, _, _, rfl, rfl, rfl, ?_⟩
        refine ⟨_, rfl, S [59], S [c], (congrArg V.str L_semi), rfl, toSz (by show 2 ≤ 1000000; decide), ?_⟩
        rw [S_cat]
        refine ⟨_, rfl, _, rfl, u, t, f, dd, M', _, rfl, tells_keep m4 t u htt, fk, m5, by omega, fun kk M2 H4 n1 n2 n3 n4 n5 => ?_⟩
        refine ⟨_, rfl, log2_small (Nat.lt_of_lt_of_le n3 (by decide)), ?_⟩
        have hd : (dg kk).length ≤ 40 := dg_len (by decide) n3
        refine ⟨_, S (dg kk), rfl, (congrArg V.str (num_S2 _)), toSz (by rw [len_S, len_S]; show 2 + _ ≤ _; omega), ?_⟩
        rw [S_cat]
        have hL4 := n4.lst m6 (by simp)
        have hlr : r.length = (ks.take i).length := nums_len m2
        refine ⟨_, hL4, ?_, M2, r ++ [(c, kk)], m1.trans n1, ?_, ?_, ?_, ?_, ?_⟩
        · rw [List.length_map, hlr, List.length_take]
          exact Nat.lt_of_le_of_lt (Nat.min_le_right _ _) (Nat.lt_of_le_of_lt fit.len (by decide))
        · rw [take_snoc ek]
          exact nums_snoc (nums_mono n1 m2) n2
        · intro q hq
          rcases List.mem_append.mp hq with hq | hq
          · exact m3 q hq
          · rw [List.mem_singleton.mp hq]
            exact n3
        · exact (m4.trans n4).put hLn
        · rw [hs2, ← Nat.add_assoc]
          exact n5.keep (L := [L]) (D := []) ((Keep.refl H4).putL hL4 (by simp)) (by simp)
        · rw [upd_same, List.map_append]
          rfl
      · rintro H2 ⟨M', r, m1, m2, m3, m4, m5, m6⟩
        have hln : ks.take us.length = ks := List.take_of_length_le (by rw [tellsL_len hL]; exact Nat.le_refl _)
        rw [hln] at m2 m5
        have hlr : r.length = ks.length := nums_len m2
        have hk := fit.len
        have hrl := rowsTx_len m3
        have hst := startTx_len fit.stem.2 fun l e => fit.val e
        have e1 : (r.map fun p => tx (rowTx p)) = ((r.map rowTx).map S).map V.str := by
          rw [List.map_map, List.map_map]
          rfl
        refine ⟨_, L, _, rfl, rfl, .inl (SqL.of (by rw [m6, e1])), ?_, ?_⟩
        · rw [lens, L_nil, len_S]
          have e2 : ((r.map rowTx).map (·.length)).sum = (rowsTx r).length := by
            rw [rowsTx_flat, List.length_flatten]
          rw [e2, List.length_nil, Nat.mul_zero]
          omega
        · have e4 : Txt.join ("" : Str) ((r.map rowTx).map S) = S (rowsTx r) := by
            rw [L_nil, join_S, joinL_flat, rowsTx_flat]
          rw [e4]
          refine ⟨S (startTx st x), S (rowsTx r), rfl, rfl, toSz (by rw [len_S, len_S]; omega), ?_⟩
          rw [S_cat]
          exact k r M' H2 m1 m2 m3 m4 m5
theorem ok_numT (T : Fx w K mg base) : ∀ d, Ok PR w K mg base d__law_number ["_law_told_here", "_law_seal"] (2 * d + 2) (spNumT d)
  | 0 => by
    refine Ok.mk (k := 1) (N := ["_law_told_here", "_law_seal"]) T.i__law_number sc__law_number (fun vs H Q E h => ?_) (fun _ _ _ _ _ _ us hl => match us, hl with | [_, _], _ => rfl) (fun cdv A outer s H vs Q E hr h => ?_)
    · obtain ⟨_, _, _, _, _, _, rfl, _⟩ := h
      rfl
    · obtain ⟨_, _, _, _, _, _, _, _, f, _⟩ := h
      exact f.no.elim
  | d + 1 => by
    obtain ⟨fd__law_text, F__law_text, b__law_text, k__law_text⟩ := ok_textT T d (ok_numT T d)
    refine Ok.mk (k := 2 * d + 3) (N := ["_law_told_here", "_law_seal"]) T.i__law_number sc__law_number (fun vs H Q E h => ?_) (fun _ _ _ _ _ _ us hl => match us, hl with | [_, _], _ => rfl) (fun cdv A outer s H vs Q E hr h => ?_)
    · obtain ⟨_, _, _, _, _, _, rfl, _⟩ := h
      rfl
    · obtain ⟨v, t, f, dd, M, n, rfl, ht, fit, D, hn, k⟩ := h
      refine ⟨_, PSs.nox (pss_cons (ps_if (PW.pt (pw_and (pt_cmpR op_notN (pv 0) pe_non (nomark _)) (pw_and1 (pt_cmpR op_eq (pe_ix ix_tup (pv 0) pe_int (fun _ _ => rfl)) pe_str (nomark _)))))
      (pss_one (ps_ret (pe_ix ix_tup (pv 0) pe_int (fun _ _ => rfl))))
      pss_nil)
    (pss_one (ps_ret (SealR.pe_clo (k := 1) (i := 1) (hr.mono (by first | decide | omega)) rfl (by first | exact Or.inl rfl | exact Or.inr (Or.inl rfl) | exact Or.inr (Or.inr rfl)) (pa_cons (pe_call F__law_text (hr.mono (by first | decide | omega)) rfl T.g__law_text k__law_text b__law_text .nil passL (pa_cons (pv 0) (pa_cons (pv 1) pa_nil))) pa_nil))))), ?_⟩
      cases t with
      | stub m =>
        have ht' := ht
        unfold Tells at ht'
        obtain ⟨a, rfl, ha⟩ := ht'
        refine ⟨_, rfl, rfl, _, rfl, ?_⟩
        refine iteT ?_
        refine ⟨_, rfl, a, _, _, _, rfl, rfl, SqT.of ha, rfl, rfl, _, rfl, ?_⟩
        refine iteT ?_
        refine ⟨_, rfl, a, _, _, _, rfl, rfl, SqT.of ha, rfl, ?_⟩
        refine k m M H (Known.Le.refl M) ?_ fit.num (Keep.refl H) (D.mono (Nat.le_add_right _ _))
        unfold Tr.num
        rfl
      | node s x ks =>
        have ht' := ht
        unfold Tells at ht'
        obtain ⟨a, b, us, rfl, ha, hb, hL⟩ := ht'
        refine ⟨_, rfl, rfl, _, rfl, ?_⟩
        refine iteT ?_
        refine ⟨_, rfl, a, _, _, _, rfl, rfl, SqT.of ha, rfl, rfl, _, rfl, ?_⟩
        refine iteF ?_
        have hsz : (Tr.node s x ks).size = 1 + sizes ks := by
          conv => lhs; unfold Tr.size
        obtain ⟨F, e, hF⟩ := D.lam
        refine ⟨f, F, e, rfl, hF, _, rfl, _, rfl, _, s, x, ks, f, dd, M, n, rfl, ht, fit, D, by omega, fun r M1 H1 m1 m2 m3 m4 D1 => ⟨LamO.keep m4 hF, ?_⟩⟩
        have hlr : r.length = ks.length := nums_len m2
        have hk := fit.len
        have hrl := rowsTx_len m3
        have hst := startTx_len fit.stem.2 fun l e => fit.val e
        refine dig_call T D1 (by omega) (by unfold textTx; rw [List.length_append]; omega) fun kk M2 H2 n1 n2 n3 n4 D2 => ?_
        refine k kk M2 H2 (m1.trans n1) (num_of (nums_mono n1 m2) n2) n3 (m4.trans n4) ?_
        rw [hsz, Nat.add_comm 1, ← Nat.add_assoc]
        exact D2
end
end Seal
/-! SealD12: numbers of the whole, slices shown. -/
namespace Seal
open PySem PySem.Spec PyProof.Rows L2 SX SealR LamX NdefX
/-- a whole as it is told: nothing, or a tree -/
def TellsO (H : Hp) (o : Option Tr) (v : V) : Prop := match o with
  | none => v = .non
  | some t => Tells H t v
theorem tellsO_keep {L D : List Addr} {H H' : Hp} (k : Keep L D H H') {o : Option Tr} {v : V} (h : TellsO H o v) : TellsO H' o v := by
  cases o with
  | none => exact h
  | some t => exact tells_keep k t v h
section
variable {w : World} {K : PySem.W.Frag} {mg : Str → Option Value} {base : Heap}
def spTextN : Sp := fun vs H Q _ => ∃ f : Addr, vs = [.non, .ref f] ∧ Q (tx []) H
theorem ok_textN (T : Fx w K mg base) : Ok PR w K mg base d__law_text ["_law_told_here", "_law_seal"] 3 spTextN := by
  obtain ⟨fd__law_number, F__law_number, b__law_number, k__law_number⟩ := ok_numT T 0
  refine Ok.mk (k := 2) (N := ["_law_told_here", "_law_seal", "_law_text_here", "_law_letter", "_law_kid"]) T.i__law_text sc__law_text (fun vs H Q E h => ?_) (fun _ _ _ _ _ _ us hl => match us, hl with | [_, _], _ => rfl) (fun cdv A outer s H vs Q E hr h => ?_)
  · obtain ⟨_, rfl, _⟩ := h
    rfl
  · obtain ⟨f, rfl, k⟩ := h
    refine ⟨_, PSs.nox (pss_cons (ps_if (pt_cmpR op_isN (pv 0) pe_non (nomark _))
      (pss_one (ps_ret pe_str))
      pss_nil)
    (pss_cons (ps_set (i := 2) sc__law_text.nd rfl (Or.inl rfl) (pe_op op_add_str (pe_ix ix_tup (pv 0) pe_int (fun _ _ => rfl)) pe_str))
    (pss_cons (ps_if (pt_cmpR op_notN (pe_ix ix_tup (pv 0) pe_int (fun _ _ => rfl)) pe_non (nomark _))
      (pss_one (ps_set (i := 2) sc__law_text.nd rfl (Or.inl rfl) (pe_op op_add_str (pe_op op_add_str (pe_op op_add_str (pe_op op_add_str (pe_ix ix_tup (pv 0) pe_int (fun _ _ => rfl)) pe_str) (pe_callTy call_str_int rfl T.f_str B_str (pa_cons (pe_callB call_len_str rfl T.f_len B_len (pa_cons (pe_ix ix_tup (pv 0) pe_int (fun _ _ => rfl)) pa_nil)) pa_nil))) pe_str) (pe_ix ix_tup (pv 0) pe_int (fun _ _ => rfl)))))
      pss_nil)
    (pss_one (ps_ret (pe_op op_add_str (pv 2) (pe_join pe_str (pe_lc (own := [("_law_letter", 3), ("_law_kid", 4)]) (g := gTup K 2 (gCons (gName 3) (gCons (gName 4) gNil))) (tt := tYes) rfl sc__law_text.nd (pi_tup (pe_ix ix_tup (pv 0) pe_int (fun _ _ => rfl))) (blkOk_by (N := ["_law_told_here", "_law_seal", "_law_text_here", "_law_letter", "_law_kid"]) (sc := defScope s__law_text) (own := [("_law_letter", 3), ("_law_kid", 4)]) (by decide +kernel)) (fun _ _ _ _ _ => (pg_tup rfl (pgs_cons (pg_name (i := 3) sc__law_text.nd rfl (Or.inl rfl)) (pgs_cons (pg_name (i := 4) sc__law_text.nd rfl (Or.inl rfl)) pgs_nil)))) (fun _ _ _ _ _ => pts_nil) (fun _ _ _ _ _ => (pe_op op_add_str (pe_op op_add_str pe_str (pv 3)) (pe_callTy call_str_int rfl T.f_str B_str (pa_cons (pe_call F__law_number (hr.mono (by first | decide | omega)) rfl T.g__law_number k__law_number b__law_number .nil passL (pa_cons (pv 4) (pa_cons (pv 1) pa_nil))) pa_nil)))))))))))), ?_⟩
    refine ⟨_, rfl, rfl, _, rfl, ?_⟩
    refine iteT ?_
    show Q (.str ("" : Str)) H
    rw [L_nil]
    exact k
/-- the number of the whole -/
def spNumN : Sp := fun vs H Q _ => ∃ (f dd : Addr) (M : Known) (n : Nat), vs = [.non, .ref f] ∧ DigAt H f dd M n ∧ n + 1 < 10 ^ 6 ∧
  ∀ k M' H', M.Le M' → M' [] = some k → k < 10 ^ 40 → Keep [] [dd] H H' → DigAt H' f dd M' (n + 1) → Q (.int (k : Int)) H'
theorem ok_numN (T : Fx w K mg base) : Ok PR w K mg base d__law_number ["_law_told_here", "_law_seal"] 4 spNumN := by
  obtain ⟨fd__law_text, F__law_text, b__law_text, k__law_text⟩ := ok_textN T
  refine Ok.mk (k := 3) (N := ["_law_told_here", "_law_seal"]) T.i__law_number sc__law_number (fun vs H Q E h => ?_) (fun _ _ _ _ _ _ us hl => match us, hl with | [_, _], _ => rfl) (fun cdv A outer s H vs Q E hr h => ?_)
  · obtain ⟨_, _, _, _, rfl, _⟩ := h
    rfl
  · obtain ⟨f, dd, M, n, rfl, D, hn, k⟩ := h
    refine ⟨_, PSs.nox (pss_cons (ps_if (PW.pt (pw_and (pt_cmpR op_notN (pv 0) pe_non (nomark _)) (pw_and1 (pt_cmpR op_eq (pe_ix ix_tup (pv 0) pe_int (fun _ _ => rfl)) pe_str (nomark _)))))
      (pss_one (ps_ret (pe_ix ix_tup (pv 0) pe_int (fun _ _ => rfl))))
      pss_nil)
    (pss_one (ps_ret (SealR.pe_clo (k := 1) (i := 1) (hr.mono (by first | decide | omega)) rfl (by first | exact Or.inl rfl | exact Or.inr (Or.inl rfl) | exact Or.inr (Or.inr rfl)) (pa_cons (pe_call F__law_text (hr.mono (by first | decide | omega)) rfl T.g__law_text k__law_text b__law_text .nil passL (pa_cons (pv 0) (pa_cons (pv 1) pa_nil))) pa_nil))))), ?_⟩
    refine ⟨_, rfl, rfl, _, rfl, ?_⟩
    refine iteF ?_
    refine iteF ?_
    obtain ⟨F, e, hF⟩ := D.lam
    refine ⟨f, F, e, rfl, hF, _, rfl, _, rfl, f, rfl, hF, ?_⟩
    exact dig_call T D (by omega) (by decide) fun kk M2 H2 n1 n2 n3 n4 D2 => k kk M2 H2 n1 n2 n3 n4 D2
/-! ### a slice shown -/
/-- .. and a step may still be taken -/
structure Neat (d : Nat) (t : Tr) : Prop where
  fit : Fit d t
  strict : t.All (fun s => s.length ≤ 8) (fun v => v.length ≤ 40) (fun _ => True) (fun n => n < 10 ^ 39)
theorem Neat.kid {d : Nat} {s : Tx} {x : Option Tx} {ks : List (Nat × Tr)} (h : Neat (d + 1) (.node s x ks)) {p : Nat × Tr} (hp : p ∈ ks) : Neat d p.2 := by
  have q := h.strict
  unfold Tr.All at q
  exact ⟨(h.fit.kid hp).2, (alls_mem q.2.2 hp).2⟩
theorem DigAt.bound {H : Hp} {f d : Addr} {M : Known} {n : Nat} (h : DigAt H f d M n) (hn : n < 10 ^ 6) {t : Tx} {k : Nat} (e : M t = some k) : k < 10 ^ 39 := by
  cases h with
  | a q cl c a step C h1 h2 h3 h4 h5 h6 h7 h8 h9 =>
    subst h9
    unfold digA at e
    cases el : lookC C t with
    | none =>
      rw [el] at e
      cases e
    | some i =>
      rw [el] at e
      have e : a + step * i = k := Option.some.inj e
      have hi : i ≤ n := h6 _ (lookC_some el)
      have hi2 : i ≤ 10 ^ 6 := by omega
      have h10 : step * i ≤ 10 ^ 24 * 10 ^ 6 := Nat.mul_le_mul h8 hi2
      omega
  | b q cl c a few h1 h2 h3 h4 h5 h6 h7 =>
    subst h7
    have e := Option.some.inj e
    have h8 : ((nsB a t).sum.fmod (few : Int)) < (few : Int) := Int.fmod_lt_of_pos _ (by omega)
    omega
def spShown (d : Nat) : Sp := fun vs H Q _ => ∃ (v : V) (o : Option Tr) (way : Tx) (wd f dd : Addr) (W : List (Tx × Bool)) (M : Known) (n : Nat), vs = [v, tx way, .ref wd, .ref f] ∧ TellsO H o v ∧ (∀ t, o = some t → Neat d t ∧ t.Whole ∧ n + t.size < 10 ^ 6) ∧ (o = none → 1 ≤ d) ∧ way.length + 20 * d ≤ 1000 ∧
  H wd = some (.dK (kvT V.bl W)) ∧ wd ≠ dd ∧ DigAt H f dd M n ∧
  ∀ u o' M' n' H', TellsO H' o' u → (o = none → o' = none) → (∀ t, o = some t → ∃ t', o' = some t' ∧ Neat d t' ∧ t'.size ≤ t.size ∧ n' ≤ n + t.size) → (o = none → n' = n) → M.Le M' → Keep [] [dd] H H' → DigAt H' f dd M' n' → Q u H'
theorem sc__law_shown : FnScope ["_law_told_here", "_law_way", "_law_ways_here", "_law_seal", "_law_key_here", "_law_rows_here", "_law_letter", "_law_kid"] ["_law_told_here", "_law_way", "_law_ways_here", "_law_seal"] (defScope s__law_shown) := ⟨rfl, rfl, rfl, by decide +kernel, rfl, by decide +kernel, by decide +kernel⟩
theorem ok_shown (T : Fx w K mg base) : ∀ d, d ≤ 12 → Ok PR w K mg base d__law_shown ["_law_told_here", "_law_way", "_law_ways_here", "_law_seal"] (d + 30) (spShown d)
  | 0, _ => by
    refine Ok.mk (k := 29) (N := ["_law_told_here", "_law_way", "_law_ways_here", "_law_seal", "_law_key_here", "_law_rows_here", "_law_letter", "_law_kid"]) T.i__law_shown sc__law_shown (fun vs H Q E h => ?_) (fun _ _ _ _ _ _ us hl => match us, hl with | [_, _, _, _], _ => rfl) (fun cdv A outer s H vs Q E hr h => ?_)
    · obtain ⟨_, _, _, _, _, _, _, _, _, rfl, _⟩ := h
      rfl
    · obtain ⟨_, o, _, _, _, _, _, _, _, _, _, h1, h2, _⟩ := h
      cases o with
      | none => exact absurd (h2 rfl) (by decide)
      | some t => exact (h1 t rfl).1.fit.no.elim
  | d + 1, hd12 => by
    obtain ⟨fd__law_shown, F__law_shown, b__law_shown, k__law_shown⟩ := ok_shown T d (Nat.le_of_succ_le hd12)
    obtain ⟨fd__law_number, F__law_number, b__law_number, k__law_number⟩ := (ok_numT T (d + 1)).mono (k' := 28) (by omega)
    refine Ok.mk (k := d + 30) (N := ["_law_told_here", "_law_way", "_law_ways_here", "_law_seal", "_law_key_here", "_law_rows_here", "_law_letter", "_law_kid"]) T.i__law_shown sc__law_shown (fun vs H Q E h => ?_) (fun _ _ _ _ _ _ us hl => match us, hl with | [_, _, _, _], _ => rfl) (fun cdv A outer s H vs Q E hr h => ?_)
    · obtain ⟨_, _, _, _, _, _, _, _, _, rfl, _⟩ := h
      rfl
    · obtain ⟨v, o, way, wd, f, dd, W, M, n, rfl, ht, hfit, _, hway, hw, hwd, D, k⟩ := h
      have hu := hu_of hr
      refine ⟨_, PSs.nox (pss_cons (ps_if (pt_cmpR op_isN (pv 0) pe_non (nomark _))
      (pss_one (ps_ret pe_non))
      pss_nil)
    (pss_cons (ps_if (pt_cmp (pc_dnotin hu (pv 1) (pv 2)))
      (pss_one (ps_ret (pe_tup (pa_cons pe_str (pa_cons (pe_call F__law_number (hr.mono (by first | decide | omega)) rfl T.g__law_number k__law_number b__law_number .nil passL (pa_cons (pv 0) (pa_cons (pv 3) pa_nil))) pa_nil)))))
      pss_nil)
    (pss_cons (ps_set (i := 4) sc__law_shown.nd rfl (Or.inr rfl) (pe_op op_add_str (pv 1) (pe_ix ix_tup (pv 0) pe_int (fun _ _ => rfl))))
    (pss_cons (ps_setLc (i := 5) (own := [("_law_letter", 6), ("_law_kid", 7)]) (g := gTup K 2 (gCons (gName 6) (gCons (gName 7) gNil))) (tt := tYes) rfl sc__law_shown.nd rfl rfl (sw_true rfl rfl rfl (by decide +kernel)) (pi_tup (pe_ix ix_tup (pv 0) pe_int (fun _ _ => rfl))) (blkOk_by (N := ["_law_told_here", "_law_way", "_law_ways_here", "_law_seal", "_law_key_here", "_law_rows_here", "_law_letter", "_law_kid"]) (sc := defScope s__law_shown) (own := [("_law_letter", 6), ("_law_kid", 7)]) (by decide +kernel)) (fun _ _ _ _ _ => (pg_tup rfl (pgs_cons (pg_name (i := 6) sc__law_shown.nd rfl (Or.inl rfl)) (pgs_cons (pg_name (i := 7) sc__law_shown.nd rfl (Or.inl rfl)) pgs_nil)))) (fun _ _ _ _ _ => pts_nil) (fun _ _ _ _ _ => (pe_tup (pa_cons (pv 6) (pa_cons (pe_call F__law_shown (hr.mono (by first | decide | omega)) rfl T.g__law_shown k__law_shown b__law_shown .nil passL (pa_cons (pv 7) (pa_cons (pe_op op_add_str (pv 4) (pv 6)) (pa_cons (pv 2) (pa_cons (pv 3) pa_nil))))) pa_nil)))))
    (pss_one (ps_ret (pe_tup (pa_cons pe_str (pa_cons (pe_ix ix_tup (pv 0) pe_int (fun _ _ => rfl)) (pa_cons (pe_ix ix_tup (pv 0) pe_int (fun _ _ => rfl)) (pa_cons (pe_callTy call_tuple_of rfl T.f_tuple B_tuple (pa_cons (pv 5) pa_nil)) pa_nil))))))))))), ?_⟩
      cases o with
      | none =>
        have ht : v = .non := ht
        subst ht
        refine ⟨_, rfl, rfl, _, rfl, ?_⟩
        refine iteT ?_
        exact k .non none M n H rfl (fun _ => rfl) (fun t e => nomatch e) (fun _ => rfl) (Known.Le.refl M) (Keep.refl H) D
      | some t =>
        obtain ⟨neat, whole, hn⟩ := hfit t rfl
        have fit := neat.fit
        have ht : Tells H t v := ht
        have hvn : ∃ a, v = .ref a := by
          cases t with
          | stub m =>
            unfold Tells at ht
            obtain ⟨a, e, _⟩ := ht
            exact ⟨a, e⟩
          | node s x ks =>
            unfold Tells at ht
            obtain ⟨a, _, _, e, _⟩ := ht
            exact ⟨a, e⟩
        obtain ⟨a, rfl⟩ := hvn
        refine ⟨_, rfl, rfl, _, rfl, ?_⟩
        refine iteF ?_
        refine ⟨_, rfl, _, rfl, wd, _, rfl, DGet.k (k := Sum.inr (S way)) hw, _, rfl, ?_⟩
        -- a number in its place
        have stub : ∀ (Q' : VK), (∀ p (m : Nat) M' H', H' p = some (.tup [.str "stub", .int (m : Int)]) → m < 10 ^ 39 → M.Le M' → Keep [] [dd] H H' → DigAt H' f dd M' (n + t.size) → Q (.ref p) H') := fun Q' p m M' H' hp hm m1 m2 D' => by
          refine k (.ref p) (some (.stub m)) M' (n + t.size) H' ?_ (fun e => nomatch e) (fun t2 e => ?_) (fun e => nomatch e) m1 m2 D'
          · show Tells H' (.stub m) (.ref p)
            unfold Tells
            exact ⟨p, rfl, hp⟩
          · cases e
            refine ⟨_, rfl, ⟨⟨?_, ?_, ?_⟩, ?_⟩, ?_, Nat.le_refl _⟩
            · unfold Tr.All
              exact Nat.lt_of_lt_of_le hm (by decide)
            · unfold Tr.size
              decide
            · unfold Tr.depth
              omega
            · unfold Tr.All
              exact hm
            · have e : (Tr.stub m).size = 1 := by
                unfold Tr.size
                rfl
              rw [e]
              exact size_pos t
        have small : ∀ M' m H1, t.num M' = some m → DigAt H1 f dd M' (n + t.size) → m < 10 ^ 39 := fun M' m H1 m2 m5 => by
          cases t with
          | stub z =>
            unfold Tr.Whole at whole
            exact whole.elim
          | node s x ks =>
            obtain ⟨r, _, e⟩ := num_node m2
            exact m5.bound hn e
        cases e : valV (kvT V.bl W) (Sum.inr (S way) : Key) with
        | none =>
          refine iteT ?_
          refine ⟨_, rfl, _, rfl, _, t, f, dd, M, n, rfl, ht, fit, D, hn, fun m M' H1 m1 m2 m3 m4 m5 => ?_⟩
          refine ⟨by show 2 ≤ sizeLine; decide, fun p hp => ?_⟩
          have kp := Keep.new (L := []) (D := []) (o := .tup [.str "stub", .int (m : Int)]) hp
          exact stub Q p m M' _ upd_same (small M' m H1 m2 m5) m1 (m4.trans kp.mono0) (m5.keep0 kp)
        | some z =>
          refine iteF ?_
          cases t with
          | stub m =>
            unfold Tr.Whole at whole
            exact whole.elim
          | node st x ks =>
            have ht' := ht
            unfold Tells at ht'
            obtain ⟨a', b, us, ea, ha, hb, hL⟩ := ht'
            cases ea
            unfold Tr.Whole at whole
            have hsz : (Tr.node st x ks).size = 1 + sizes ks := by
              conv => lhs; unfold Tr.size
            have hst := fit.stem.2
            refine ⟨_, rfl, _, rfl, a, _, _, _, rfl, rfl, SqT.of ha, rfl, S way, S st, rfl, rfl, toSz (by rw [len_S, len_S]; omega), ?_⟩
            rw [S_cat]
            refine ⟨_, rfl, a, _, _, _, rfl, rfl, SqT.of ha, rfl, b, rfl, ⟨_, SqT.of hb⟩, fun L hLn => ?_⟩
            refine lc_it (walk_tup (xs := us)) (fun i H' => ∃ M' n' ks' vs', M.Le M' ∧ n' ≤ n + sizes (ks.take i) ∧ Keep [] [dd] H H' ∧ DigAt H' f dd M' n' ∧ H' L = some (.lst vs') ∧ TellsL H' ks' vs' ∧ (∀ p ∈ ks', (97 ≤ p.1 ∧ p.1 ≤ 122) ∧ Neat d p.2) ∧ sizes ks' ≤ sizes (ks.take i)) ?_ (fun i H' _ h => ?_) ?_ ?_
            · refine ⟨M, n, [], [], Known.Le.refl M, Nat.le_add_right _ _, Keep.new hLn, D.keep0 (L := []) (Keep.new hLn), upd_same, ?_, (fun p hp => by cases hp), ?_⟩
              · unfold TellsL
                rfl
              · rw [sizes_nil]
                exact Nat.zero_le _
            · obtain ⟨M', n', ks', vs', _, _, h4, _⟩ := h
              exact h4.sqt (SqT.of hb)
            · rintro i y H2 H3 hi ⟨M', n', ks', vs', m1, m2, m3, m4, m5, m6, m7, m8⟩ ⟨rfl, hy⟩
              obtain ⟨c, t, p, u, ek, rfl, hp, htt⟩ := tellsL_get hL hy
              obtain ⟨hc, fk⟩ := fit.kid (List.mem_of_getElem? ek)
              have wk : t.Whole := by
                have go : ∀ l : List (Nat × Tr), wholes l → ∀ q ∈ l, q.2.Whole := by
                  intro l
                  induction l with
                  | nil => intro _ q hq; cases hq
                  | cons q0 l ih =>
                    obtain ⟨c0, t0⟩ := q0
                    intro hw q hq
                    unfold wholes at hw
                    rcases List.mem_cons.mp hq with e | hq
                    · rw [e]
                      exact hw.1
                    · exact ih hw.2 q hq
                exact go ks whole _ (List.mem_of_getElem? ek)
              have hsz1 : sizes (ks.take (i + 1)) ≤ sizes ks := by
                have q := sizes_app (ks.take (i + 1)) (ks.drop (i + 1))
                rw [List.take_append_drop] at q
                omega
              have hs2 : sizes (ks.take (i + 1)) = sizes (ks.take i) + t.size := by rw [take_snoc ek, sizes_snoc]
              refine ⟨p, _, rfl, SqT.of (m3.tup hp), rfl, _, _, rfl, _, _, rfl, rfl, rfl, ?_⟩
              refine ⟨_, rfl, _, rfl, _, rfl, _, rfl, S (way ++ st), S [c], rfl, rfl, toSz (by rw [len_S, len_S, List.length_append]; show _ + 1 ≤ _; omega), ?_⟩
              rw [S_cat]
              refine ⟨_, rfl, _, rfl, u, some t, way ++ st ++ [c], wd, f, dd, W, M', n', rfl, tells_keep m3 t u htt, (fun t2 e => ?_), (fun e => nomatch e), ?_, m3.dic hw (by simp [hwd]), hwd, m4, fun u' o' M2 n2 H4 q1 _ q3 _ q4 q5 q6 => ?_⟩
              · cases e
                exact ⟨neat.kid (List.mem_of_getElem? ek), wk, by omega⟩
              · rw [List.length_append, List.length_append]
                show way.length + st.length + 1 + 20 * d ≤ 1000
                omega
              · obtain ⟨t', rfl, f1, f2, f3⟩ := q3 t rfl
                refine ⟨by show 2 ≤ sizeLine; decide, fun r hr2 => ?_⟩
                have kr := Keep.new (L := []) (D := []) (o := .tup [tx [c], u']) hr2
                have hL4 := kr.lst (q5.lst m5 (by simp)) (by simp)
                have kL : Keep [L] [] (upd H4 r (.tup [tx [c], u'])) (upd (upd H4 r (.tup [tx [c], u'])) L (.lst (vs' ++ [.ref r]))) := (Keep.refl _).putL hL4 (by simp)
                refine ⟨_, hL4, ?_, M2, n2, ks' ++ [(c, t')], vs' ++ [.ref r], m1.trans q4, ?_, ((m3.trans q5).trans kr.mono0).put hLn, (q6.keep0 kr).keep kL (by simp), upd_same, ?_, ?_, ?_⟩
                · rw [tellsL_len m6]
                  have h1 := sizes_len ks'
                  have h2 := fit.size
                  have h3 : sizes (ks.take i) ≤ sizes ks := by omega
                  exact Nat.lt_of_le_of_lt (by omega : ks'.length ≤ 100) (by decide)
                · rw [hs2]
                  omega
                · exact tellsL_app (tellsL_keep kL (tellsL_keep kr (tellsL_keep q5 m6))) (tellsL_one (kL.tup upd_same) (tells_keep kL _ _ (tells_keep kr _ _ q1)))
                · intro q hq
                  rcases List.mem_append.mp hq with hq | hq
                  · exact m7 q hq
                  · rw [List.mem_singleton.mp hq]
                    exact ⟨hc, f1⟩
                · rw [sizes_snoc, hs2]
                  omega
            · rintro H2 ⟨M', n', ks', vs', m1, m2, m3, m4, m5, m6, m7, m8⟩
              have hln : ks.take us.length = ks := List.take_of_length_le (by rw [tellsL_len hL]; exact Nat.le_refl _)
              rw [hln] at m2 m8
              have ha2 := m3.tup ha
              refine ⟨_, rfl, a, _, _, _, rfl, rfl, SqT.of ha2, rfl, ?_⟩
              refine ⟨_, rfl, a, _, _, _, rfl, rfl, SqT.of ha2, rfl, ?_⟩
              refine ⟨_, rfl, L, vs', rfl, .inl ⟨SqL.of m5, fun q hq => ?_⟩⟩
              refine ⟨by show 4 ≤ sizeLine; decide, fun p hp => ?_⟩
              have kq := Keep.new (L := []) (D := []) (o := .tup vs') hq
              have kp := Keep.new (L := []) (D := []) (o := .tup [.str "node", tx st, txO x, .ref q]) hp
              refine k (.ref p) (some (.node st x ks')) M' n' _ ?_ (fun e => nomatch e) (fun t2 e => ?_) (fun e => nomatch e) m1 ((m3.trans kq.mono0).trans kp.mono0) ((m4.keep0 kq).keep0 kp)
              · show Tells _ (.node st x ks') (.ref p)
                unfold Tells
                exact ⟨p, q, vs', rfl, upd_same, kp.tup upd_same, tellsL_keep kp (tellsL_keep kq m6)⟩
              · cases e
                have hsz' : (Tr.node st x ks').size = 1 + sizes ks' := by
                  conv => lhs; unfold Tr.size
                have fa := fit.all
                unfold Tr.All at fa
                have fs := neat.strict
                unfold Tr.All at fs
                refine ⟨_, rfl, ⟨⟨?_, ?_, ?_⟩, ?_⟩, by omega, by omega⟩
                · unfold Tr.All
                  exact ⟨fa.1, fa.2.1, alls_of fun p hp => ⟨(m7 p hp).1, (m7 p hp).2.fit.all⟩⟩
                · have := fit.size
                  omega
                · have hdd : ∀ l : List (Nat × Tr), (∀ p ∈ l, p.2.depth ≤ d) → depths l ≤ d := by
                    intro l
                    induction l with
                    | nil => intro _; unfold depths; exact Nat.zero_le _
                    | cons q0 l ih =>
                      obtain ⟨c0, t0⟩ := q0
                      intro h
                      unfold depths
                      exact Nat.max_le.mpr ⟨h _ List.mem_cons_self, ih fun p hp => h p (List.mem_cons_of_mem _ hp)⟩
                  have := hdd ks' fun p hp => (m7 p hp).2.fit.depth
                  have e : (Tr.node st x ks').depth = 1 + depths ks' := by
                    conv => lhs; unfold Tr.depth
                  omega
                · unfold Tr.All
                  exact ⟨fs.1, fs.2.1, alls_of fun p hp => ⟨True.intro, (m7 p hp).2.strict⟩⟩
end
end Seal
/-! SealD13: numbers and texts of parts. -/
namespace Seal
open PySem PySem.Spec PyProof.Rows L2 SX SealR LamX NdefX
def tJoin (ts : List TE) : TE := fun σ H Q => tJs ts Str.empty σ H fun out H1 => Q (.str out) H1
theorem pe_joinedN {X : Cx} {v1 v2 : Expr} {rest : List Expr} {ts : List TE} {pos : Pos} (h : PJ X (v1 :: v2 :: rest) ts) : PE X (.JoinedStr (v1 :: v2 :: rest) pos) (tJoin ts) := pe_joined h
/-- rows of letters and numbers, as tuples -/
def RowsL (H : Hp) : List (Nat × Nat) → List V → Prop
  | [], us => us = []
  | (c, k) :: r, us => ∃ a q, us = .ref a :: q ∧ H a = some (.tup [tx [c], .int (k : Int)]) ∧ RowsL H r q
theorem rowsL_keep {L D : List Addr} {H H' : Hp} (k : Keep L D H H') : ∀ {r us}, RowsL H r us → RowsL H' r us
  | [], _, h => h
  | (c, n) :: r, us, ⟨a, q, e, h1, h2⟩ => ⟨a, q, e, k.tup h1, rowsL_keep k h2⟩
theorem rowsL_app {H : Hp} : ∀ {r r' us us'}, RowsL H r us → RowsL H r' us' → RowsL H (r ++ r') (us ++ us')
  | [], _, _, _, h, h' => by
    have h : _ = [] := h
    subst h
    exact h'
  | (c, n) :: r, _, _, _, ⟨a, q, e, h1, h2⟩, h' => by
    subst e
    exact ⟨a, _, rfl, h1, rowsL_app h2 h'⟩
theorem rowsL_len {H : Hp} : ∀ {r us}, RowsL H r us → us.length = r.length
  | [], _, h => by
    have h : _ = [] := h
    subst h
    rfl
  | (c, n) :: r, _, ⟨a, q, e, h1, h2⟩ => by
    subst e
    exact congrArg Nat.succ (rowsL_len h2)
theorem rowsL_get {H : Hp} : ∀ {r us} {i : Nat} {v : V}, RowsL H r us → us[i]? = some v → ∃ c k a, r[i]? = some (c, k) ∧ v = .ref a ∧ H a = some (.tup [tx [c], .int (k : Int)])
  | [], _, i, v, h, e => by
    have h : _ = [] := h
    subst h
    simp at e
  | (c, n) :: r, _, i, v, ⟨a, q, e1, h1, h2⟩, e => by
    subst e1
    cases i with
    | zero => exact ⟨c, n, a, rfl, (Option.some.inj e).symm, h1⟩
    | succ i => exact rowsL_get (i := i) h2 e
section
variable {w : World} {K : PySem.W.Frag} {mg : Str → Option Value} {base : Heap}
def spWritten : Sp := fun vs H Q _ => ∃ (s0 : Tx) (l : Addr) (us : List V) (r : List (Nat × Nat)), vs = [tx s0, .ref l] ∧ s0.length ≤ 100 ∧ H l = some (.lst us) ∧ RowsL H r us ∧ Small r ∧ r.length ≤ 200 ∧ ∀ H', Keep [] [] H H' → Q (tx (s0 ++ rowsTx r)) H'
theorem sc_written : FnScope ["start", "rows", "letter", "number"] ["start", "rows"] (defScope s_written) := ⟨rfl, rfl, rfl, by decide +kernel, rfl, by decide +kernel, by decide +kernel⟩
theorem ok_written (T : Fx w K mg base) : Ok PR w K mg base d_written ["start", "rows"] 1 spWritten := by
  refine Ok.mk (N := ["start", "rows", "letter", "number"]) T.i_written sc_written (fun vs H Q E h => ?_) (fun _ _ _ _ _ _ us hl => match us, hl with | [_, _], _ => rfl) (fun cdv A outer s H vs Q E hr h => ?_)
  · obtain ⟨_, _, _, _, rfl, _⟩ := h
    rfl
  · obtain ⟨s0, l, us, r, rfl, hs, hl, hR, hsm, hrl, k⟩ := h
    refine ⟨_, PSs.nox (pss_one (ps_ret (pe_op op_add_str (pv 0) (pe_join pe_str (pe_lc (own := [("letter", 2), ("number", 3)]) (g := gTup K 2 (gCons (gName 2) (gCons (gName 3) gNil))) (tt := tYes) rfl sc_written.nd (pi_list (pv 1)) (blkOk_by (N := ["start", "rows", "letter", "number"]) (sc := defScope s_written) (own := [("letter", 2), ("number", 3)]) (by decide +kernel)) (fun _ _ _ _ _ => (pg_tup rfl (pgs_cons (pg_name (i := 2) sc_written.nd rfl (Or.inl rfl)) (pgs_cons (pg_name (i := 3) sc_written.nd rfl (Or.inl rfl)) pgs_nil)))) (fun _ _ _ _ _ => pts_nil) (fun _ _ _ _ _ => (pe_joinedN (.cons pe_str (.cons (pe_fmt (pv 2)) (.cons (pe_fmt (pv 3)) PJ.nil)))))))))), ?_⟩
    refine ⟨_, rfl, ⟨_, rfl⟩, ?_⟩
    refine ⟨_, rfl, l, rfl, ⟨_, SqL.of hl⟩, fun D hD => ?_⟩
    refine lc_it (walk_list (K := K) (xs := us)) (fun i H' => Keep [] [] H H' ∧ H' D = some (.lst ((r.take i).map fun p => tx (rowTx p)))) ⟨Keep.new hD, upd_same⟩ (fun i H' _ h => SqL.of (h.1.lst hl (by simp))) ?_ ?_
    · rintro i y H1 H2 hi ⟨k1, k2⟩ ⟨rfl, hy⟩
      obtain ⟨c, n, a, er, rfl, ha⟩ := rowsL_get hR hy
      have hn := hsm _ (List.mem_of_getElem? er)
      have hd : (dg n).length ≤ 40 := dg_len (by decide) hn
      refine ⟨a, _, rfl, SqT.of (k1.tup ha), rfl, _, _, rfl, _, _, rfl, rfl, rfl, ?_⟩
      refine ⟨S [59], congrArg V.str L_semi, ?_, _, rfl, .inl ⟨S [c], rfl, by show 1 ≤ sizeLine; decide, S [c], rfl, ?_, _, rfl, .inr ⟨_, rfl, log2_small (Nat.lt_of_lt_of_le hn (by decide)), S (dg n), num_S2 n ▸ rfl, ?_, _, k2, ?_, k1.put hD, ?_⟩⟩⟩
      · rw [E_S]
        show 1 ≤ sizeLine
        decide
      · rw [E_S, S_cat]
        show 2 ≤ sizeLine
        decide
      · rw [E_S, S_cat, S_cat]
        exact toSzS (by rw [List.length_append]; show 2 + _ ≤ _; omega)
      · rw [List.length_map, List.length_take]
        exact Nat.lt_of_le_of_lt (Nat.min_le_right _ _) (Nat.lt_of_le_of_lt hrl (by decide))
      · rw [upd_same, E_S, S_cat, S_cat, take_snoc er, List.map_append]
        rfl
    · rintro H1 ⟨k1, k2⟩
      have hln : r.take us.length = r := List.take_of_length_le (by rw [rowsL_len hR]; exact Nat.le_refl _)
      rw [hln] at k2
      have hrl2 := rowsTx_len hsm
      have e1 : (r.map fun p => tx (rowTx p)) = ((r.map rowTx).map S).map V.str := by
        rw [List.map_map, List.map_map]
        rfl
      refine ⟨_, D, _, rfl, rfl, .inl (SqL.of (by rw [k2, e1])), ?_, ?_⟩
      · rw [lens, L_nil, len_S]
        have e2 : ((r.map rowTx).map (·.length)).sum = (rowsTx r).length := by
          rw [rowsTx_flat, List.length_flatten]
        rw [e2, List.length_nil, Nat.mul_zero]
        omega
      · have e4 : Txt.join ("" : Str) ((r.map rowTx).map S) = S (rowsTx r) := by
          rw [L_nil, join_S, joinL_flat, rowsTx_flat]
        rw [e4]
        refine ⟨S s0, S (rowsTx r), rfl, rfl, toSz (by rw [len_S, len_S]; omega), ?_⟩
        rw [S_cat]
        exact k H1 k1
/-! ### number_of, text_of -/
def spNumP (d : Nat) (K : PySem.W.Frag) : Sp := fun vs H Q _ => ∃ (v : V) (t : Tr) (f dd : Addr) (M : Known) (n : Nat), vs = [v, .ref f] ∧ PartAt K H t v ∧ Fit d t ∧ DigAt H f dd M n ∧ n + t.size < 10 ^ 6 ∧
  ∀ k M' H', M.Le M' → t.num M' = some k → k < 10 ^ 40 → Keep [] [dd] H H' → DigAt H' f dd M' (n + t.size) → Q (.int (k : Int)) H'
def spTextP (d : Nat) (K : PySem.W.Frag) : Sp := fun vs H Q _ => ∃ (v : V) (s : Tx) (x : Option Tx) (ks : List (Nat × Tr)) (f dd : Addr) (M : Known) (n : Nat), vs = [v, .ref f] ∧ PartAt K H (.node s x ks) v ∧ Fit (d + 1) (.node s x ks) ∧ DigAt H f dd M n ∧ n + sizes ks < 10 ^ 6 ∧
  ∀ r M' H', M.Le M' → nums M' ks = some r → Small r → Keep [] [dd] H H' → DigAt H' f dd M' (n + sizes ks) → Q (tx (textTx s x r)) H'
theorem sc_text_of : FnScope ["tree", "digest", "letter", "kid"] ["tree", "digest"] (defScope s_text_of) := ⟨rfl, rfl, rfl, by decide +kernel, rfl, by decide +kernel, by decide +kernel⟩
theorem sc_number_of : FnScope ["tree", "digest"] ["tree", "digest"] (defScope s_number_of) := ⟨rfl, rfl, rfl, by decide +kernel, rfl, by decide +kernel, by decide +kernel⟩
theorem ok_textP (T : Fx w K mg base) (d : Nat) (G : Ok PR w K mg base d_number_of ["tree", "digest"] (2 * d + 2) (spNumP d K)) : Ok PR w K mg base d_text_of ["tree", "digest"] (2 * d + 3) (spTextP d K) := by
  obtain ⟨fd_number_of, F_number_of, b_number_of, k_number_of⟩ := G
  obtain ⟨fd_written, F_written, b_written, k_written⟩ := ok_written T
  obtain ⟨fd_start, F_Node_start, b_Node_start, k_Node_start⟩ := ok_start T
  refine Ok.mk (k := 2 * d + 2) (N := ["tree", "digest", "letter", "kid"]) T.i_text_of sc_text_of (fun vs H Q E h => ?_) (fun _ _ _ _ _ _ us hl => match us, hl with | [_, _], _ => rfl) (fun cdv A outer s H vs Q E hr h => ?_)
  · obtain ⟨_, _, _, _, _, _, _, _, rfl, _⟩ := h
    rfl
  · obtain ⟨v, st, x, ks, f, dd, M, n, rfl, ht, fit, D, hn, k⟩ := h
    refine ⟨_, PSs.nox (pss_cons (ps_if (pt_cmpR op_isN (pv 0) pe_non (nomark _))
      (pss_one (ps_ret pe_str))
      pss_nil)
    (pss_cons (ps_if (pt_val (pe_callB call_isi rfl T.f_isinstance B_isinstance (pa_cons (pv 0) (pa_cons (C8.pe_gc (v := .ref (He.ga K "Stub")) rfl ⟨_, T.g_Stub, rfl⟩) pa_nil))))
      (pss_one ps_never)
      pss_nil)
    (pss_one (ps_ret (pe_call F_written (hr.mono (by first | decide | omega)) rfl T.g_written k_written b_written .nil passL (pa_cons (pe_meth0 (pv 0) T.c_Node T.m_Node_start F_Node_start (hr.mono (by first | decide | omega)) b_Node_start .nil passL) (pa_cons (pe_lc (own := [("letter", 2), ("kid", 3)]) (g := gTup K 2 (gCons (gName 2) (gCons (gName 3) gNil))) (tt := tYes) rfl sc_text_of.nd (pi_tup (pe_fld (pv 0) rfl)) (blkOk_by (N := ["tree", "digest", "letter", "kid"]) (sc := defScope s_text_of) (own := [("letter", 2), ("kid", 3)]) (by decide +kernel)) (fun _ _ _ _ _ => (pg_tup rfl (pgs_cons (pg_name (i := 2) sc_text_of.nd rfl (Or.inl rfl)) (pgs_cons (pg_name (i := 3) sc_text_of.nd rfl (Or.inl rfl)) pgs_nil)))) (fun _ _ _ _ _ => pts_nil) (fun _ _ _ _ _ => (pe_tup (pa_cons (pv 2) (pa_cons (pe_call F_number_of (hr.mono (by first | decide | omega)) rfl T.g_number_of k_number_of b_number_of .nil passL (pa_cons (pv 3) (pa_cons (pv 1) pa_nil))) pa_nil))))) pa_nil))))))), ?_⟩
    have ht' := ht
    unfold PartAt at ht'
    obtain ⟨a, dx, b, us, rfl, ha, hb, hL⟩ := ht'
    refine ⟨_, rfl, rfl, _, rfl, ?_⟩
    refine iteF ?_
    refine ⟨_, rfl, _, _, _, _, false, rfl, .own _, T.tyN ha, T.ex2.kNS, _, rfl, ?_⟩
    refine iteF ?_
    have hst := startTx_len fit.stem.2 fun l e => fit.val e
    refine ⟨_, rfl, a, dx, _, rfl, ha, fN_start, a, dx, b, st, x, rfl, ha, Nat.le_trans fit.stem.2 (by decide), fun l e => Nat.le_trans (fit.val e) (by decide), ?_⟩
    refine ⟨_, rfl, a, _, dx, _, _, rfl, ha, T.c_Node, T.n_Node_kids, fN_kids, b, rfl, ⟨_, SqT.of hb⟩, fun L hLn => ?_⟩
    refine lc_it (walk_tup (xs := us)) (fun i H' => ∃ M' r vs', M.Le M' ∧ nums M' (ks.take i) = some r ∧ Small r ∧ Keep [] [dd] H H' ∧ DigAt H' f dd M' (n + sizes (ks.take i)) ∧ H' L = some (.lst vs') ∧ RowsL H' r vs') ?_ (fun i H' _ h => ?_) ?_ ?_
    · refine ⟨M, [], [], Known.Le.refl M, nums_nil, (fun p hp => by cases hp), Keep.new hLn, ?_, upd_same, rfl⟩
      rw [List.take_zero, sizes_nil]
      exact D.keep0 (L := []) (Keep.new hLn)
    · obtain ⟨M', r, vs', _, _, _, h4, _⟩ := h
      exact h4.sqt (SqT.of hb)
    · rintro i y H2 H3 hi ⟨M', r, vs', m1, m2, m3, m4, m5, m6, m7⟩ ⟨rfl, hy⟩
      obtain ⟨c, t, p, u, ek, rfl, hp, htt⟩ := partL_get hL hy
      have fk := (fit.kid (List.mem_of_getElem? ek)).2
      have hsz : sizes (ks.take (i + 1)) ≤ sizes ks := by
        have q := sizes_app (ks.take (i + 1)) (ks.drop (i + 1))
        rw [List.take_append_drop] at q
        omega
      have hs2 : sizes (ks.take (i + 1)) = sizes (ks.take i) + t.size := by rw [take_snoc ek, sizes_snoc]
      refine ⟨p, _, rfl, SqT.of (m4.tup hp), rfl, _, _, rfl, _, _, rfl, rfl, rfl, ?_⟩
      refine ⟨_, rfl, _, rfl, _, rfl, u, t, f, dd, M', _, rfl, part_keep m4 t u htt, fk, m5, by omega, fun kk M2 H4 n1 n2 n3 n4 n5 => ?_⟩
      refine ⟨by show 2 ≤ sizeLine; decide, fun q hq => ?_⟩
      have kq := Keep.new (L := []) (D := []) (o := .tup [tx [c], .int (kk : Int)]) hq
      have hL4 := kq.lst (n4.lst m6 (by simp)) (by simp)
      have kL : Keep [L] [] (upd H4 q (.tup [tx [c], .int (kk : Int)])) (upd (upd H4 q (.tup [tx [c], .int (kk : Int)])) L (.lst (vs' ++ [.ref q]))) := (Keep.refl _).putL hL4 (by simp)
      have hlr : r.length = (ks.take i).length := nums_len m2
      refine ⟨_, hL4, ?_, M2, r ++ [(c, kk)], vs' ++ [.ref q], m1.trans n1, ?_, ?_, ((m4.trans n4).trans kq.mono0).put hLn, ?_, upd_same, ?_⟩
      · rw [rowsL_len m7, hlr, List.length_take]
        exact Nat.lt_of_le_of_lt (Nat.min_le_right _ _) (Nat.lt_of_le_of_lt fit.len (by decide))
      · rw [take_snoc ek]
        exact nums_snoc (nums_mono n1 m2) n2
      · intro z hz
        rcases List.mem_append.mp hz with hz | hz
        · exact m3 z hz
        · rw [List.mem_singleton.mp hz]
          exact n3
      · rw [hs2, ← Nat.add_assoc]
        exact (n5.keep0 kq).keep kL (by simp)
      · exact rowsL_app (rowsL_keep kL (rowsL_keep kq (rowsL_keep n4 m7))) ⟨q, [], rfl, kL.tup upd_same, rfl⟩
    · rintro H2 ⟨M', r, vs', m1, m2, m3, m4, m5, m6, m7⟩
      have hln : ks.take us.length = ks := List.take_of_length_le (by rw [partL_len hL]; exact Nat.le_refl _)
      rw [hln] at m2 m5
      have hlr : r.length = ks.length := nums_len m2
      have hk := fit.len
      exact ⟨startTx st x, L, vs', r, rfl, by omega, m6, m7, m3, by omega, fun H3 k3 => k r M' H3 m1 m2 m3 (m4.trans k3.mono0) (m5.keep0 k3)⟩
theorem ok_numP (T : Fx w K mg base) : ∀ d, Ok PR w K mg base d_number_of ["tree", "digest"] (2 * d + 2) (spNumP d K)
  | 0 => by
    refine Ok.mk (k := 1) (N := ["tree", "digest"]) T.i_number_of sc_number_of (fun vs H Q E h => ?_) (fun _ _ _ _ _ _ us hl => match us, hl with | [_, _], _ => rfl) (fun cdv A outer s H vs Q E hr h => ?_)
    · obtain ⟨_, _, _, _, _, _, rfl, _⟩ := h
      rfl
    · obtain ⟨_, _, _, _, _, _, _, _, f, _⟩ := h
      exact f.no.elim
  | d + 1 => by
    obtain ⟨fd_text_of, F_text_of, b_text_of, k_text_of⟩ := ok_textP T d (ok_numP T d)
    refine Ok.mk (k := 2 * d + 3) (N := ["tree", "digest"]) T.i_number_of sc_number_of (fun vs H Q E h => ?_) (fun _ _ _ _ _ _ us hl => match us, hl with | [_, _], _ => rfl) (fun cdv A outer s H vs Q E hr h => ?_)
    · obtain ⟨_, _, _, _, _, _, rfl, _⟩ := h
      rfl
    · obtain ⟨v, t, f, dd, M, n, rfl, ht, fit, D, hn, k⟩ := h
      refine ⟨_, PSs.nox (pss_cons (ps_if (pt_val (pe_callB call_isi rfl T.f_isinstance B_isinstance (pa_cons (pv 0) (pa_cons (C8.pe_gc (v := .ref (He.ga K "Stub")) rfl ⟨_, T.g_Stub, rfl⟩) pa_nil))))
      (pss_one (ps_ret (pe_fld (pv 0) rfl)))
      pss_nil)
    (pss_one (ps_ret (SealR.pe_clo (k := 1) (i := 1) (hr.mono (by first | decide | omega)) rfl (by first | exact Or.inl rfl | exact Or.inr (Or.inl rfl) | exact Or.inr (Or.inr rfl)) (pa_cons (pe_call F_text_of (hr.mono (by first | decide | omega)) rfl T.g_text_of k_text_of b_text_of .nil passL (pa_cons (pv 0) (pa_cons (pv 1) pa_nil))) pa_nil))))), ?_⟩
      cases t with
      | stub m =>
        have ht' := ht
        unfold PartAt at ht'
        obtain ⟨a, dx, rfl, ha⟩ := ht'
        refine ⟨_, rfl, _, _, _, _, true, rfl, .own _, T.tyS ha, T.ex2.kSS, _, rfl, ?_⟩
        refine iteT ?_
        refine ⟨_, rfl, a, _, dx, _, _, rfl, ha, T.c_Stub, T.n_Stub_number, fS_number, ?_⟩
        refine k m M H (Known.Le.refl M) ?_ fit.num (Keep.refl H) (D.mono (Nat.le_add_right _ _))
        unfold Tr.num
        rfl
      | node s x ks =>
        have ht' := ht
        unfold PartAt at ht'
        obtain ⟨a, dx, b, us, rfl, ha, hb, hL⟩ := ht'
        refine ⟨_, rfl, _, _, _, _, false, rfl, .own _, T.tyN ha, T.ex2.kNS, _, rfl, ?_⟩
        refine iteF ?_
        have hsz : (Tr.node s x ks).size = 1 + sizes ks := by
          conv => lhs; unfold Tr.size
        obtain ⟨F, e, hF⟩ := D.lam
        refine ⟨f, F, e, rfl, hF, _, rfl, _, rfl, _, s, x, ks, f, dd, M, n, rfl, ht, fit, D, by omega, fun r M1 H1 m1 m2 m3 m4 D1 => ⟨LamO.keep m4 hF, ?_⟩⟩
        have hlr : r.length = ks.length := nums_len m2
        have hk := fit.len
        have hrl := rowsTx_len m3
        have hst := startTx_len fit.stem.2 fun l e => fit.val e
        refine dig_call T D1 (by omega) (by unfold textTx; rw [List.length_append]; omega) fun kk M2 H2 n1 n2 n3 n4 D2 => ?_
        refine k kk M2 H2 (m1.trans n1) (num_of (nums_mono n1 m2) n2) n3 (m4.trans n4) ?_
        rw [hsz, Nat.add_comm 1, ← Nat.add_assoc]
        exact D2
end
end Seal
/-! SealD14: texts seen, clashes. -/
namespace Seal
open PySem PySem.Spec PyProof.Rows L2 SX SealR LamX NdefX
def PartO (K : PySem.W.Frag) (H : Hp) (o : Option Tr) (v : V) : Prop := match o with
  | none => v = .non
  | some t => PartAt K H t v
theorem partO_keep {K : PySem.W.Frag} {L D : List Addr} {H H' : Hp} (k : Keep L D H H') {o : Option Tr} {v : V} (h : PartO K H o v) : PartO K H' o v := by
  cases o with
  | none => exact h
  | some t => exact part_keep k t v h
section
variable {w : World} {K : PySem.W.Frag} {mg : Str → Option Value} {base : Heap}
/-! ### the texts seen -/
def spTextPN : Sp := fun vs H Q _ => ∃ f : Addr, vs = [.non, .ref f] ∧ Q (tx []) H
theorem ok_textPN (T : Fx w K mg base) : Ok PR w K mg base d_text_of ["tree", "digest"] 3 spTextPN := by
  obtain ⟨fd_number_of, F_number_of, b_number_of, k_number_of⟩ := ok_numP T 0
  obtain ⟨fd_written, F_written, b_written, k_written⟩ := ok_written T
  obtain ⟨fd_start, F_Node_start, b_Node_start, k_Node_start⟩ := ok_start T
  refine Ok.mk (k := 2) (N := ["tree", "digest", "letter", "kid"]) T.i_text_of sc_text_of (fun vs H Q E h => ?_) (fun _ _ _ _ _ _ us hl => match us, hl with | [_, _], _ => rfl) (fun cdv A outer s H vs Q E hr h => ?_)
  · obtain ⟨_, rfl, _⟩ := h
    rfl
  · obtain ⟨f, rfl, k⟩ := h
    refine ⟨_, PSs.nox (pss_cons (ps_if (pt_cmpR op_isN (pv 0) pe_non (nomark _))
      (pss_one (ps_ret pe_str))
      pss_nil)
    (pss_cons (ps_if (pt_val (pe_callB call_isi rfl T.f_isinstance B_isinstance (pa_cons (pv 0) (pa_cons (C8.pe_gc (v := .ref (He.ga K "Stub")) rfl ⟨_, T.g_Stub, rfl⟩) pa_nil))))
      (pss_one ps_never)
      pss_nil)
    (pss_one (ps_ret (pe_call F_written (hr.mono (by first | decide | omega)) rfl T.g_written k_written b_written .nil passL (pa_cons (pe_meth0 (pv 0) T.c_Node T.m_Node_start F_Node_start (hr.mono (by first | decide | omega)) b_Node_start .nil passL) (pa_cons (pe_lc (own := [("letter", 2), ("kid", 3)]) (g := gTup K 2 (gCons (gName 2) (gCons (gName 3) gNil))) (tt := tYes) rfl sc_text_of.nd (pi_tup (pe_fld (pv 0) rfl)) (blkOk_by (N := ["tree", "digest", "letter", "kid"]) (sc := defScope s_text_of) (own := [("letter", 2), ("kid", 3)]) (by decide +kernel)) (fun _ _ _ _ _ => (pg_tup rfl (pgs_cons (pg_name (i := 2) sc_text_of.nd rfl (Or.inl rfl)) (pgs_cons (pg_name (i := 3) sc_text_of.nd rfl (Or.inl rfl)) pgs_nil)))) (fun _ _ _ _ _ => pts_nil) (fun _ _ _ _ _ => (pe_tup (pa_cons (pv 2) (pa_cons (pe_call F_number_of (hr.mono (by first | decide | omega)) rfl T.g_number_of k_number_of b_number_of .nil passL (pa_cons (pv 3) (pa_cons (pv 1) pa_nil))) pa_nil))))) pa_nil))))))), ?_⟩
    refine ⟨_, rfl, rfl, _, rfl, ?_⟩
    refine iteT ?_
    show Q (.str ("" : Str)) H
    rw [L_nil]
    exact k
def sizeO : Option Tr → Nat
  | none => 1
  | some t => t.size
def spSeen (K : PySem.W.Frag) : Sp := fun vs H Q _ => ∃ (v : V) (o : Option Tr) (f dd : Addr) (M : Known) (n : Nat), vs = [v, .ref f] ∧ PartO K H o v ∧ (∀ t, o = some t → Fit 12 t) ∧ DigAt H f dd M n ∧ n + 100 * sizeO o < 10 ^ 6 ∧
  ∀ l ts M' H', M.Le M' → ts = txsO M' o → (∀ t ∈ ts, t.length ≤ 5000) → ts.length ≤ 100 → H' l = some (.lst (ts.map tx)) → H l = none → Keep [] [dd] H H' → DigAt H' f dd M' (n + 100 * sizeO o) → Q (.ref l) H'
theorem nodes_size : ∀ (t z : Tr), z ∈ t.nodes → z.size ≤ t.size ∧ z.depth ≤ t.depth := by
  refine Tr.ind (fun n z h => ?_) fun s x ks ih z h => ?_
  · unfold Tr.nodes at h
    cases h
  · unfold Tr.nodes at h
    rcases List.mem_cons.mp h with e | h
    · rw [e]
      exact ⟨Nat.le_refl _, Nat.le_refl _⟩
    · have go : ∀ l : List (Nat × Tr), (∀ q ∈ l, q ∈ ks) → z ∈ nodess l → z.size ≤ sizes l ∧ z.depth ≤ depths l := by
        intro l
        induction l with
        | nil => intro _ h; unfold nodess at h; cases h
        | cons q l ihl =>
          obtain ⟨c, t⟩ := q
          intro hl h
          unfold nodess at h
          unfold sizes depths
          rcases List.mem_append.mp h with h | h
          · have := ih (c, t) (hl _ List.mem_cons_self) z h
            have h1 : z.size ≤ t.size := this.1
            have h2 : z.depth ≤ t.depth := this.2
            exact ⟨by omega, by omega⟩
          · have := ihl (fun q hq => hl q (List.mem_cons_of_mem _ hq)) h
            exact ⟨by omega, by omega⟩
      have := go ks (fun _ h => h) h
      have e1 : (Tr.node s x ks).size = 1 + sizes ks := by
        conv => lhs; unfold Tr.size
      have e2 : (Tr.node s x ks).depth = 1 + depths ks := by
        conv => lhs; unfold Tr.depth
      exact ⟨by omega, by omega⟩
theorem nodes_all {ps pv : Tx → Prop} {pc pn : Nat → Prop} : ∀ (t z : Tr), z ∈ t.nodes → t.All ps pv pc pn → z.All ps pv pc pn := by
  refine Tr.ind (fun n z h _ => ?_) fun s x ks ih z h ha => ?_
  · unfold Tr.nodes at h
    cases h
  · unfold Tr.nodes at h
    rcases List.mem_cons.mp h with e | h
    · rw [e]
      exact ha
    · unfold Tr.All at ha
      have go : ∀ l : List (Nat × Tr), (∀ q ∈ l, q ∈ ks) → z ∈ nodess l → z.All ps pv pc pn := by
        intro l
        induction l with
        | nil => intro _ h; unfold nodess at h; cases h
        | cons q l ihl =>
          obtain ⟨c, t⟩ := q
          intro hl h
          unfold nodess at h
          rcases List.mem_append.mp h with h | h
          · exact ih (c, t) (hl _ List.mem_cons_self) z h (alls_mem ha.2.2 (hl _ List.mem_cons_self)).2
          · exact ihl (fun q hq => hl q (List.mem_cons_of_mem _ hq)) h
      exact go ks (fun _ h => h) h
theorem nodes_node : ∀ (t z : Tr), z ∈ t.nodes → ∃ s x ks, z = .node s x ks := by
  refine Tr.ind (fun n z h => ?_) fun s x ks ih z h => ?_
  · unfold Tr.nodes at h
    cases h
  · unfold Tr.nodes at h
    rcases List.mem_cons.mp h with e | h
    · exact ⟨s, x, ks, e⟩
    · have go : ∀ l : List (Nat × Tr), (∀ q ∈ l, q ∈ ks) → z ∈ nodess l → ∃ s x ks, z = .node s x ks := by
        intro l
        induction l with
        | nil => intro _ h; unfold nodess at h; cases h
        | cons q l ihl =>
          obtain ⟨c, t⟩ := q
          intro hl h
          unfold nodess at h
          rcases List.mem_append.mp h with h | h
          · exact ih (c, t) (hl _ List.mem_cons_self) z h
          · exact ihl (fun q hq => hl q (List.mem_cons_of_mem _ hq)) h
      exact go ks (fun _ h => h) h
/-- texts of the nodes so far -/
def TxsAre (M : Known) (zs : List Tr) (ts : List Tx) : Prop := zs.map (Tr.text M) = ts.map some
theorem TxsAre.fm {M : Known} : ∀ {zs : List Tr} {ts : List Tx}, TxsAre M zs ts → zs.filterMap (Tr.text M) = ts
  | [], [], _ => rfl
  | [], t :: ts, h => by cases h
  | z :: zs, [], h => by cases h
  | z :: zs, t :: ts, h => by
    have h1 : z.text M :: zs.map (Tr.text M) = some t :: ts.map some := h
    injection h1 with h2 h3
    rw [List.filterMap_cons, h2, TxsAre.fm (M := M) (zs := zs) (ts := ts) h3]
theorem TxsAre.mono {M M' : Known} (m : M.Le M') : ∀ {zs : List Tr} {ts : List Tx}, TxsAre M zs ts → TxsAre M' zs ts
  | [], [], _ => rfl
  | [], t :: ts, h => by cases h
  | z :: zs, [], h => by cases h
  | z :: zs, t :: ts, h => by
    have h1 : z.text M :: zs.map (Tr.text M) = some t :: ts.map some := h
    injection h1 with h2 h3
    show z.text M' :: zs.map (Tr.text M') = some t :: ts.map some
    rw [text_mono m h2, (TxsAre.mono m (zs := zs) (ts := ts) h3 : zs.map (Tr.text M') = ts.map some)]
theorem TxsAre.snoc {M : Known} {zs : List Tr} {ts : List Tx} {z : Tr} {t : Tx} (h : TxsAre M zs ts) (e : z.text M = some t) : TxsAre M (zs ++ [z]) (ts ++ [t]) := by
  unfold TxsAre at h ⊢
  rw [List.map_append, List.map_append, h, List.map_cons, List.map_nil, e]
  rfl
theorem TxsAre.len {M : Known} {zs : List Tr} {ts : List Tx} (h : TxsAre M zs ts) : ts.length = zs.length := by
  have := congrArg List.length h
  rw [List.length_map, List.length_map] at this
  exact this.symm
theorem pe_weak {X : Cx} {e : Expr} {t t' : TE} (h : PE X e t) (wk : ∀ σ H Q, t' σ H Q → t σ H Q) : PE X e t' := ⟨fun pins s σ H Q I q => h.run pins s σ H Q I (wk σ H Q q)⟩
/-- all nodes of the part in a slot, whatever it is -/
def tAllNodes (i : Nat) (K : PySem.W.Frag) : TE := fun σ H Q => ∃ v t, σ[i]? = some (some v) ∧ PartAt K H t v ∧ Fit 12 t ∧ ∀ l ns H', H l = none → Keep [] [] H H' → H' l = some (.lst ns) → Nds K H' t.nodes ns → Q (.ref l) H'
theorem allNodes_w {i : Nat} {E1 E2 : XK} (σ : L2.St) (H : Hp) (Q : VK) (h : tAllNodes i K σ H Q) :
    tMeth (He.ga K "Node") "all_nodes" (spAN 12 K) [] E1 (tVar i) tNil σ H Q ∨ tMeth (He.ga K "Stub") "all_nodes" (spAS K) [] E2 (tVar i) tNil σ H Q := by
  obtain ⟨v, t, hi, hP, fit, k⟩ := h
  cases t with
  | stub m =>
    have hP' := hP
    unfold PartAt at hP'
    obtain ⟨q, dq, rfl, hq⟩ := hP'
    exact .inr ⟨_, hi, q, dq, _, rfl, hq, fS_all, q, dq, m, rfl, hq, fun l H1 hl k1 e1 => k l [] H1 hl k1 e1 (by unfold Tr.nodes Nds; rfl)⟩
  | node s x ks =>
    have hP' := hP
    unfold PartAt at hP'
    obtain ⟨q, dq, bq, vq, rfl, hq, _, _⟩ := hP'
    exact .inl ⟨_, hi, q, dq, _, rfl, hq, fN_all, q, s, x, ks, rfl, hP, fit, fun l ns H1 hl k1 e1 hN => k l ns H1 hl k1 e1 hN⟩
theorem sc_seen_texts : FnScope ["tree", "digest", "node"] ["tree", "digest"] (defScope s_seen_texts) := ⟨rfl, rfl, rfl, by decide +kernel, rfl, by decide +kernel, by decide +kernel⟩
theorem ok_seen (T : Fx w K mg base) : Ok PR w K mg base d_seen_texts ["tree", "digest"] 30 (spSeen K) := by
  obtain ⟨fd1, F1, b1, k1⟩ := (ok_textP T 11 (ok_numP T 11)).mono (k' := 29) (by decide)
  obtain ⟨fd2, F2, b2, k2⟩ := (ok_textPN T).mono (k' := 29) (by decide)
  obtain ⟨fd3, F_Node_all_nodes, b_Node_all_nodes, k_Node_all_nodes⟩ := ok_allN T 12
  obtain ⟨fd4, F_Stub_all_nodes, b_Stub_all_nodes, k_Stub_all_nodes⟩ := ok_allS T
  refine Ok.mk (k := 29) (N := ["tree", "digest", "node"]) T.i_seen_texts sc_seen_texts (fun vs H Q E h => ?_) (fun _ _ _ _ _ _ us hl => match us, hl with | [_, _], _ => rfl) (fun cdv A outer s H vs Q E hr h => ?_)
  · obtain ⟨_, _, _, _, _, _, rfl, _⟩ := h
    rfl
  · obtain ⟨v, o, f, dd, M, n, rfl, hP, hfit, D, hn, k⟩ := h
    refine ⟨_, PSs.nox (pss_cons (ps_if (pt_cmpR op_isN (pv 0) pe_non (nomark _))
        (pss_one (ps_ret (pe_lst (pa_cons (pe_call F2 (hr.mono (by decide)) rfl T.g_text_of k2 b2 .nil passL (pa_cons (pv 0) (pa_cons (pv 1) pa_nil))) pa_nil)))) pss_nil)
      (pss_one (ps_ret (pe_lc (own := [("node", 2)]) (g := gName 2) (tt := tYes) rfl sc_seen_texts.nd (pi_list (pe_weak (t' := tAllNodes 0 K) (SealR.pe_or (pe_meth0 (pv 0) T.c_Node T.m_Node_all_nodes F_Node_all_nodes (hr.mono (by decide)) b_Node_all_nodes .nil passL) (pe_meth0 (pv 0) T.c_Stub T.m_Stub_all_nodes F_Stub_all_nodes (hr.mono (by decide)) b_Stub_all_nodes .nil passL)) allNodes_w))
        (blkOk_by (N := ["tree", "digest", "node"]) (sc := defScope s_seen_texts) (own := [("node", 2)]) (by decide +kernel)) (fun _ _ _ _ _ => (pg_name (i := 2) sc_seen_texts.nd rfl (Or.inl rfl))) (fun _ _ _ _ _ => pts_nil)
        (fun _ _ _ _ _ => (pe_call F1 (hr.mono (by decide)) rfl T.g_text_of k1 b1 .nil passL (pa_cons (pv 2) (pa_cons (pv 1) pa_nil)))))))), ?_⟩
    cases o with
    | none =>
      have hP : v = .non := hP
      subst hP
      refine ⟨_, rfl, rfl, _, rfl, ?_⟩
      refine iteT ?_
      refine ⟨_, rfl, _, rfl, f, rfl, by show 1 ≤ sizeLine; decide, fun p hp => ?_⟩
      have kp := Keep.new (L := []) (D := []) (o := .lst [tx []]) hp
      exact k p [[]] M _ (Known.Le.refl M) rfl (fun t ht => by rw [List.mem_singleton.mp ht]; exact Nat.zero_le _) (by decide) upd_same hp kp.mono0 ((D.keep0 kp).mono (Nat.le_add_right _ _))
    | some t =>
      have fit := hfit t rfl
      have hP : PartAt K H t v := hP
      have hsz : sizeO (some t) = t.size := rfl
      have hs100 := fit.size
      have hvr : v ≠ .non := fun e => by
        subst e
        cases t with
        | stub m =>
          unfold PartAt at hP
          obtain ⟨_, _, e, _⟩ := hP
          cases e
        | node s x ks =>
          unfold PartAt at hP
          obtain ⟨_, _, _, _, e, _⟩ := hP
          cases e
      refine ⟨_, rfl, rfl, _, rfl, ?_⟩
      rw [decide_eq_false hvr]
      refine iteF ?_
      refine ⟨v, t, rfl, hP, fit, fun l ns H1 hl k1 e1 hN => ⟨l, rfl, ⟨_, SqL.of e1⟩, fun L hLn => ?_⟩⟩
      have hL0 := k1.dom _ hLn
      have hlL : l ≠ L := ne_of_none e1 hLn
      have hnl := nodes_len t
      refine lc_it (walk_list (xs := ns)) (fun i H' => ∃ M' ts, M.Le M' ∧ TxsAre M' (t.nodes.take i) ts ∧ (∀ z ∈ ts, z.length ≤ 5000) ∧ Keep [] [dd] H H' ∧ Keep [] [dd] H1 H' ∧ DigAt H' f dd M' (n + 100 * i) ∧ H' L = some (.lst (ts.map tx))) ?_ (fun i H' _ h => ?_) ?_ ?_
      · refine ⟨M, [], Known.Le.refl M, rfl, (fun z hz => by cases hz), k1.mono0.put hL0, Keep.new hLn, ?_, upd_same⟩
        exact (D.keep0 k1).keep0 (L := []) (Keep.new hLn)
      · obtain ⟨M', ts, _, _, _, _, h5, _⟩ := h
        exact SqL.of (h5.lst e1 (by simp))
      · rintro i y H2 H3 hi ⟨M', ts, m1, m2, m3, m4, m5, m6, m7⟩ ⟨rfl, hy⟩
        obtain ⟨z, ez, hz⟩ := nds_get hN hy
        have hzm := List.mem_of_getElem? ez
        obtain ⟨s2, x2, ks2, rfl⟩ := nodes_node t z hzm
        have hsd := nodes_size t _ hzm
        have fz : Fit 12 (.node s2 x2 ks2) := ⟨nodes_all t _ hzm fit.all, Nat.le_trans hsd.1 fit.size, Nat.le_trans hsd.2 fit.depth⟩
        have hsz2 : (Tr.node s2 x2 ks2).size = 1 + sizes ks2 := by
          conv => lhs; unfold Tr.size
        have hz100 := fz.size
        have hil : i < t.nodes.length := (List.getElem?_eq_some_iff.mp ez).1
        rw [hsz] at hn
        refine ⟨rfl, _, rfl, _, rfl, y, s2, x2, ks2, f, dd, M', _, rfl, part_keep m5 _ _ hz, fz, m6, by omega, fun r M2 H4 n1 n2 n3 n4 n5 => ?_⟩
        have hL4 := n4.lst m7 (by simp)
        have kL : Keep [L] [] H4 (upd H4 L (.lst (ts.map tx ++ [tx (textTx s2 x2 r)]))) := (Keep.refl _).putL hL4 (by simp)
        have hrl := rowsTx_len n3
        have hlr : r.length = ks2.length := nums_len n2
        have hst := startTx_len fz.stem.2 fun l e => fz.val e
        have hk2 := fz.len
        refine ⟨_, hL4, ?_, M2, ts ++ [textTx s2 x2 r], m1.trans n1, ?_, ?_, (m4.trans n4).put hL0, (m5.trans n4).put hLn, (n5.mono (by omega)).keep kL (by simp), ?_⟩
        · rw [List.length_map, m2.len, List.length_take]
          exact Nat.lt_of_le_of_lt (Nat.min_le_right _ _) (Nat.lt_of_le_of_lt (Nat.le_trans hnl hs100) (by decide))
        · rw [take_snoc ez]
          exact (m2.mono n1).snoc (text_of n2)
        · intro z hz
          rcases List.mem_append.mp hz with hz | hz
          · exact m3 z hz
          · rw [List.mem_singleton.mp hz]
            unfold textTx
            rw [List.length_append]
            omega
        · rw [upd_same, List.map_append]
          rfl
      · rintro H2 ⟨M', ts, m1, m2, m3, m4, m5, m6, m7⟩
        have hnn : ns.length = t.nodes.length := nds_len hN
        rw [hnn, List.take_length] at m2
        rw [hnn] at m6
        rw [hsz] at k
        exact k L ts M' H2 m1 m2.fm.symm m3 (by rw [m2.len]; omega) m7 hL0 m4 (m6.mono (by omega))
end
end Seal
/-! SealD15: clashes. -/
namespace Seal
open PySem PySem.Spec PyProof.Rows L2 SX SealR LamX NdefX
section
variable {w : World} {K : PySem.W.Frag} {mg : Str → Option Value} {base : Heap}
/-- a pair of unlike texts of one number -/
def ClashAt (H : Hp) (M : Known) (ts : List Tx) (v : V) : Prop := ∃ p a b k, v = .ref p ∧ H p = some (.tup [tx a, tx b]) ∧ a ∈ ts ∧ b ∈ ts ∧ a ≠ b ∧ M a = some k ∧ M b = some k
def spClash : Sp := fun vs H Q _ => ∃ (l f dd : Addr) (ts : List Tx) (M : Known) (n : Nat), vs = [.ref l, .ref f] ∧ H l = some (.lst (ts.map tx)) ∧ (∀ z ∈ ts, z.length ≤ 5000) ∧ ts.length ≤ 1000 ∧ DigAt H f dd M n ∧ H dd ≠ none ∧ n + ts.length < 10 ^ 6 ∧
  ∀ v M' H', M.Le M' → (ClashAt H' M' ts v ∨ (v = .non ∧ ¬ Clash M' ts)) → Keep [] [dd] H H' → DigAt H' f dd M' (n + ts.length) → Q v H'
theorem sc_clash_in : FnScope ["texts", "digest", "first", "text", "number"] ["texts", "digest"] (defScope s_clash_in) := ⟨rfl, rfl, rfl, by decide +kernel, rfl, by decide +kernel, by decide +kernel⟩
/-- what has been met so far, by numbers -/
structure Met (kvs : List (Key × V)) (M : Known) (ts : List Tx) : Prop where
  to : ∀ t ∈ ts, ∃ k, M t = some k ∧ valV kvs (Sum.inl (k : Int)) = some (tx t)
  of : ∀ (k : Nat) v, valV kvs (Sum.inl (k : Int)) = some v → ∃ t, v = tx t ∧ t ∈ ts ∧ M t = some k
theorem ok_clash (T : Fx w K mg base) : Ok PR w K mg base d_clash_in ["texts", "digest"] 3 spClash := by
  refine Ok.mk (k := 2) (N := ["texts", "digest", "first", "text", "number"]) T.i_clash_in sc_clash_in (fun vs H Q E h => ?_) (fun _ _ _ _ _ _ us hl => match us, hl with | [_, _], _ => rfl) (fun cdv A outer s H vs Q E hr h => ?_)
  · obtain ⟨_, _, _, _, _, _, rfl, _⟩ := h
    rfl
  · obtain ⟨l, f, dd, ts, M, n, rfl, hl, h5, hlen, D, hdd, hn, k⟩ := h
    have hu := hu_of hr
    refine ⟨_, PSs.nox (pss_cons (ps_set (i := 2) sc_clash_in.nd rfl (Or.inl rfl) pe_dnewK)
    (pss_cons (ps_for PassesOwn.never rfl (pi_list (pv 0)) (pg_name (i := 3) sc_clash_in.nd rfl (Or.inl rfl))
      (pss_cons (ps_set (i := 4) sc_clash_in.nd rfl (Or.inl rfl) (SealR.pe_clo (k := 1) (i := 1) (hr.mono (by first | decide | omega)) rfl (by first | exact Or.inl rfl | exact Or.inr (Or.inl rfl) | exact Or.inr (Or.inr rfl)) (pa_cons (pv 3) pa_nil)))
      (pss_one (ps_if (pt_cmpR op_ne (pe_dsetd (pv 2) (pv 4) (pv 3) ⟨rfl, rfl, rfl, rfl⟩) (pv 3) (nomark _))
        (pss_one (ps_ret (pe_tup (pa_cons (pe_dget hu (pv 2) (pv 4) (fun _ _ => rfl)) (pa_cons (pv 3) pa_nil)))))
        pss_nil))))
    (pss_one (ps_ret pe_non)))), ?_⟩
    intro d1 hd1
    have nd1 : d1 ≠ dd := fun e => hdd (e ▸ hd1)
    have k0 := Keep.new (L := []) (D := [dd]) (o := .dK []) hd1
    have k00 := Keep.new (L := []) (D := []) (o := .dK []) hd1
    refine ⟨_, rfl, l, rfl, ⟨_, SqL.of (k0.lst hl (by simp))⟩, ?_⟩
    refine for_it (walk_list (xs := ts.map tx)) (fun i σ H' => ∃ M' kvs o3 o4, σ = [some (.ref l), some (.ref f), some (.ref d1), o3, o4] ∧ M.Le M' ∧ Keep [] [dd] H H' ∧ DigAt H' f dd M' (n + i) ∧ H' d1 = some (.dK kvs) ∧ kvs.length ≤ i ∧ Met kvs M' (ts.take i))
      ⟨M, [], none, none, rfl, Known.Le.refl M, k0, (D.keep0 k00).mono (Nat.le_add_right _ _), upd_same, Nat.le_refl _, ⟨(fun t ht => by cases ht), (fun k v e => by cases e)⟩⟩ (fun i σ H' _ h => ?_) ?_ ?_
    · obtain ⟨M', kvs, o3, o4, _, _, h3, _⟩ := h
      exact SqL.of (h3.lst hl (by simp))
    · rintro i y σ H1 H2 hi ⟨M', kvs, o3, o4, rfl, m1, m2, m3, m4, m5, m6⟩ ⟨rfl, hy⟩
      rw [List.getElem?_map] at hy
      cases et : ts[i]? with
      | none =>
        rw [et] at hy
        cases hy
      | some t =>
        rw [et] at hy
        cases hy
        have htm := List.mem_of_getElem? et
        have hil : i < ts.length := (List.getElem?_eq_some_iff.mp et).1
        obtain ⟨F, e, hF⟩ := m3.lam
        refine ⟨f, F, e, rfl, hF, _, rfl, hF, ?_⟩
        refine dig_call T m3 (by omega) (Nat.le_trans (h5 t htm) (by decide)) fun kk M2 H3 n1 n2 n3 n4 n5 => ?_
        have hd3 := n4.dic m4 (by simp [nd1])
        refine ⟨_, rfl, d1, rfl, .inl ⟨_, .inl hd3⟩, _, rfl, _, rfl, kvs, Sum.inl (kk : Int), hd3, rfl, Nat.lt_of_le_of_lt m5 (Nat.lt_of_lt_of_le (Nat.lt_of_lt_of_le hil hlen) (by decide)), fun v hv => ?_, fun hno => ?_⟩
        · obtain ⟨t0, rfl, ht0, hk0⟩ := m6.of kk v hv
          refine ⟨_, rfl, rfl, _, rfl, ?_⟩
          by_cases et0 : t0 = t
          · subst et0
            rw [decide_eq_true rfl]
            refine iteF ?_
            refine ⟨M2, kvs, _, _, rfl, m1.trans n1, m2.trans n4, n5, hd3, Nat.le_succ_of_le m5, ?_⟩
            rw [take_snoc et]
            refine ⟨fun z hz => ?_, fun k2 v2 e2 => ?_⟩
            · rcases List.mem_append.mp hz with hz | hz
              · obtain ⟨k2, q1, q2⟩ := m6.to z hz
                exact ⟨k2, n1 _ _ q1, q2⟩
              · rw [List.mem_singleton.mp hz]
                exact ⟨kk, n2, hv⟩
            · obtain ⟨z, q1, q2, q3⟩ := m6.of k2 v2 e2
              exact ⟨z, q1, List.mem_append_left _ q2, n1 _ _ q3⟩
          · rw [decide_eq_false (fun z => et0 (tx_inj z))]
            refine iteT ?_
            refine ⟨_, rfl, _, rfl, d1, tx t0, rfl, (by rw [← hv]; exact DGet.k (k := Sum.inl (kk : Int)) hd3), ?_⟩
            refine ⟨_, rfl, by show 2 ≤ sizeLine; decide, fun p hp => ?_⟩
            have kp := Keep.new (L := []) (D := []) (o := .tup [tx t0, tx t]) hp
            exact k (.ref p) M2 _ (m1.trans n1) (.inl ⟨p, t0, t, kk, rfl, upd_same, List.mem_of_mem_take ht0, htm, et0, n1 _ _ hk0, n2⟩) ((m2.trans n4).trans kp.mono0) ((n5.keep0 kp).mono (by omega))
        · refine ⟨_, rfl, rfl, _, rfl, ?_⟩
          rw [decide_eq_true rfl]
          refine iteF ?_
          have kd : Keep [] [d1] H3 (upd H3 d1 (.dK (putK kvs (Sum.inl (kk : Int)) (tx t)))) := (Keep.refl H3).putD hd3 (by simp)
          refine ⟨M2, _, _, _, rfl, m1.trans n1, ?_, n5.keep kd (by simp [nd1.symm]), upd_same, Nat.le_trans (length_putK _ _ _) (Nat.succ_le_succ m5), ?_⟩
          · exact (m2.trans n4).put hd1
          · rw [take_snoc et]
            refine ⟨fun z hz => ?_, fun k2 v2 e2 => ?_⟩
            · rcases List.mem_append.mp hz with hz | hz
              · obtain ⟨k2, q1, q2⟩ := m6.to z hz
                refine ⟨k2, n1 _ _ q1, ?_⟩
                rw [valV_put, if_neg]
                · exact q2
                · intro e
                  rw [← e, q2] at hno
                  cases hno
              · rw [List.mem_singleton.mp hz]
                exact ⟨kk, n2, by rw [valV_put, if_pos rfl]⟩
            · rw [valV_put] at e2
              split at e2
              · rename_i ek
                have ek2 : k2 = kk := by
                  have := Sum.inl.inj ek
                  omega
                refine ⟨t, (Option.some.inj e2).symm, List.mem_append_right _ List.mem_cons_self, ?_⟩
                rw [ek2]
                exact n2
              · obtain ⟨z, q1, q2, q3⟩ := m6.of k2 v2 e2
                exact ⟨z, q1, List.mem_append_left _ q2, n1 _ _ q3⟩
    · rintro σ H1 ⟨M', kvs, o3, o4, rfl, m1, m2, m3, m4, m5, m6⟩
      have hlt : (ts.map tx).length = ts.length := List.length_map _
      rw [hlt, List.take_length] at m6
      rw [hlt] at m3
      refine k .non M' H1 m1 (.inr ⟨rfl, fun ⟨a, b, kk, ha, hb, ne, ea, eb⟩ => ne ?_⟩) m2 m3
      obtain ⟨k1, q1, q2⟩ := m6.to a ha
      obtain ⟨k2, r1, r2⟩ := m6.to b hb
      rw [ea] at q1
      rw [eb] at r1
      cases q1
      cases r1
      rw [q2] at r2
      exact tx_inj (Option.some.inj r2)
/-! ### is it one -/
theorem eqV_self (a : Tx) : eqV (tx a) (tx a) = true := by
  unfold eqV
  simp
theorem inV_tx {a : Tx} {ts : List Tx} (h : a ∈ ts) : inV (tx a) (ts.map tx) = true := by
  unfold inV
  exact List.any_eq_true.mpr ⟨tx a, List.mem_map.mpr ⟨a, h, rfl⟩, eqV_self a⟩
theorem flat_tx (ts : List Tx) : (ts.map tx).all flatV = true := List.all_eq_true.mpr fun v hv => by
  obtain ⟨a, _, rfl⟩ := List.mem_map.mp hv
  rfl
def spIsClash : Sp := fun vs H Q _ => ∃ (v : V) (l f dd : Addr) (ts : List Tx) (M : Known) (n : Nat), vs = [v, .ref l, .ref f] ∧ H l = some (.lst (ts.map tx)) ∧ (∀ z ∈ ts, z.length ≤ 5000) ∧ ClashAt H M ts v ∧ DigAt H f dd M n ∧ n + 2 < 10 ^ 6 ∧
  ∀ M' H', M.Le M' → Keep [] [dd] H H' → DigAt H' f dd M' (n + 2) → Q (.bl true) H'
theorem sc__law_is_clash : FnScope ["_law_pair", "_law_texts_here", "_law_seal"] ["_law_pair", "_law_texts_here", "_law_seal"] (defScope s__law_is_clash) := ⟨rfl, rfl, rfl, by decide +kernel, rfl, by decide +kernel, by decide +kernel⟩
theorem ok_is_clash (T : Fx w K mg base) : Ok PR w K mg base d__law_is_clash ["_law_pair", "_law_texts_here", "_law_seal"] 3 spIsClash := by
  refine Ok.mk (k := 2) (N := ["_law_pair", "_law_texts_here", "_law_seal"]) T.i__law_is_clash sc__law_is_clash (fun vs H Q E h => ?_) (fun _ _ _ _ _ _ us hl => match us, hl with | [_, _, _], _ => rfl) (fun cdv A outer s H vs Q E hr h => ?_)
  · obtain ⟨_, _, _, _, _, _, _, rfl, _⟩ := h
    rfl
  · obtain ⟨v, l, f, dd, ts, M, n, rfl, hl, h5, ⟨p, a, b, kk, rfl, hp, ha, hb, ne, ea, eb⟩, D, hn, k⟩ := h
    refine ⟨_, PSs.nox (pss_cons (ps_if (PW.pt (pw_or (pt_not (pt_val (pe_callB call_isi rfl T.f_isinstance B_isinstance (pa_cons (pv 0) (pa_cons (pe_bltn (v := .ty "tuple") rfl T.f_tuple B_tuple rfl) pa_nil))))) (pw_or (pt_cmpR op_ne (pe_callB call_len_seq rfl T.f_len B_len (pa_cons (pv 0) pa_nil)) pe_int (nomark _)) (pw_or (pt_cmpR op_notIn_seq (pe_ix ix_tup (pv 0) pe_int (fun _ _ => rfl)) (pv 1) rfl) (pw_or1 (pt_cmpR op_notIn_seq (pe_ix ix_tup (pv 0) pe_int (fun _ _ => rfl)) (pv 1) rfl))))))
      (pss_one (ps_ret pe_bl))
      pss_nil)
    (pss_one (ps_ret (L2.pe_and (pe_cmpR op_ne (pe_ix ix_tup (pv 0) pe_int (fun _ _ => rfl)) (pe_ix ix_tup (pv 0) pe_int (fun _ _ => rfl)) (nomark _)) (pe_one (pe_cmpR op_eq (SealR.pe_clo (k := 1) (i := 2) (hr.mono (by first | decide | omega)) rfl (by first | exact Or.inl rfl | exact Or.inr (Or.inl rfl) | exact Or.inr (Or.inr rfl)) (pa_cons (pe_ix ix_tup (pv 0) pe_int (fun _ _ => rfl)) pa_nil)) (SealR.pe_clo (k := 1) (i := 2) (hr.mono (by first | decide | omega)) rfl (by first | exact Or.inl rfl | exact Or.inr (Or.inl rfl) | exact Or.inr (Or.inr rfl)) (pa_cons (pe_ix ix_tup (pv 0) pe_int (fun _ _ => rfl)) pa_nil)) (nomark _))))))), ?_⟩
    refine ⟨_, rfl, _, _, _, _, _, rfl, .ty _, .base (.tup hp), kit_ty (r := true) (by decide +kernel), _, rfl, ?_⟩
    refine iteF ?_
    refine ⟨_, rfl, _, _, rfl, .inr (SqT.of hp), rfl, _, rfl, ?_⟩
    refine iteF ?_
    refine ⟨_, rfl, p, _, _, _, rfl, rfl, SqT.of hp, rfl, _, rfl, l, _, rfl, .inl (SqL.of hl), rfl, flat_tx ts, _, rfl, ?_⟩
    rw [inV_tx ha]
    refine iteF ?_
    refine ⟨_, rfl, p, _, _, _, rfl, rfl, SqT.of hp, rfl, _, rfl, l, _, rfl, .inl (SqL.of hl), rfl, flat_tx ts, _, rfl, ?_⟩
    rw [inV_tx hb]
    refine iteF ?_
    refine ⟨_, rfl, p, _, _, _, rfl, rfl, SqT.of hp, rfl, ?_⟩
    refine ⟨_, rfl, p, _, _, _, rfl, rfl, SqT.of hp, rfl, rfl, _, rfl, ?_⟩
    rw [dec_tx, decide_eq_false ne]
    refine iteT ?_
    obtain ⟨F, e, hF⟩ := D.lam
    refine ⟨f, F, e, rfl, hF, _, rfl, p, _, _, _, rfl, rfl, SqT.of hp, rfl, hF, ?_⟩
    refine dig_call T D (by omega) (Nat.le_trans (h5 a ha) (by decide)) fun k1 M1 H1 n1 n2 n3 n4 n5 => ?_
    have hF1 := LamO.keep n4 hF
    refine ⟨f, F, e, rfl, hF1, _, rfl, p, _, _, _, rfl, rfl, SqT.of (n4.tup hp), rfl, hF1, ?_⟩
    refine dig_call T n5 (by omega) (Nat.le_trans (h5 b hb) (by decide)) fun k2 M2 H2 q1 q2 q3 q4 q5 => ?_
    have e1 : k1 = kk := by
      have := n1 a kk ea
      rw [n2] at this
      exact Option.some.inj this
    have e2 : k2 = kk := by
      have := q1 b kk (n1 b kk eb)
      rw [q2] at this
      exact Option.some.inj this
    refine ⟨rfl, ?_⟩
    rw [e1, e2, decide_eq_true rfl]
    exact k M2 H2 (n1.trans q1) (n4.trans q4) q5
end
end Seal
/-! SealD16: ranges: which ways, how many. -/
namespace Seal
open PySem PySem.Spec PyProof.Rows L2 SX SealR LamX NdefX
theorem starts_S (a b : Tx) : Txt.startswith (S a) (S b) = b.isPrefixOf a := by
  have h1 : Txt.startswith (S a) (S b) = (decide (0 + (S b).length ≤ (S a).length) && PySem.Builtin.Str.subAt (S a) (S b) 0) := rfl
  rw [h1, PySem.StrLaws.subAt_eq, len_S, len_S, List.drop_zero, Nat.zero_add]
  cases e : b.isPrefixOf a with
  | true =>
    obtain ⟨z, rfl⟩ := List.isPrefixOf_iff_prefix.mp e
    have e1 : ((b ++ z).take b.length == b) = true := by rw [List.take_left]; exact beq_self_eq_true b
    rw [e1, decide_eq_true (by rw [List.length_append]; omega)]
    rfl
  | false =>
    have hn : ¬ b <+: a := fun z => by
      rw [List.isPrefixOf_iff_prefix.mpr z] at e
      cases e
    have e1 : (a.take b.length == b) = false := by
      cases q : (a.take b.length == b) with
      | false => rfl
      | true =>
        have q2 : a.take b.length = b := eq_of_beq q
        exact absurd (q2 ▸ List.take_prefix b.length a) hn
    rw [e1, Bool.and_false]
def hiNo (B : Bd) (way : Tx) : Bool := match B.hi with
  | none => false
  | some h => decide (h < way) || decide (h < B.lo)
def moV : Option Nat → V
  | none => .non
  | some m => .int (m : Int)
/-- the ends of a range as they are drawn -/
structure BdOk (B : Bd) : Prop where
  lo : IsKey B.lo
  hi : ∀ h, B.hi = some h → IsKey h
section
variable {w : World} {K : PySem.W.Frag} {mg : Str → Option Value} {base : Heap}
def spEnds : Sp := fun vs H Q _ => ∃ B : Bd, vs = [tx B.lo, txO B.hi] ∧ BdOk B ∧ ∀ H', Keep [] [] H H' → Q .non H'
theorem sc_need_ends : FnScope ["low", "high"] ["low", "high"] (defScope s_need_ends) := ⟨rfl, rfl, rfl, by decide +kernel, rfl, by decide +kernel, by decide +kernel⟩
theorem ok_ends (T : Fx w K mg base) : Ok PR w K mg base d_need_ends ["low", "high"] 3 spEnds := by
  obtain ⟨fd_need_key, F_need_key, b_need_key, k_need_key⟩ := ok_need_key T
  refine Ok.mk (k := 2) (N := ["low", "high"]) T.i_need_ends sc_need_ends (fun vs H Q E h => ?_) (fun _ _ _ _ _ _ us hl => match us, hl with | [_, _], _ => rfl) (fun cdv A outer s H vs Q E hr h => ?_)
  · obtain ⟨_, rfl, _⟩ := h
    rfl
  · obtain ⟨B, rfl, hB, k⟩ := h
    refine ⟨_, PSs.nox (pss_cons (ps_expr (pe_call F_need_key (hr.mono (by first | decide | omega)) rfl T.g_need_key k_need_key b_need_key .nil passL (pa_cons (pv 0) pa_nil)))
    (pss_one (ps_if (pt_cmpR op_notN (pv 1) pe_non (nomark _))
      (pss_one (ps_expr (pe_call F_need_key (hr.mono (by first | decide | omega)) rfl T.g_need_key k_need_key b_need_key .nil passL (pa_cons (pv 1) pa_nil))))
      pss_nil))), ?_⟩
    refine ⟨_, rfl, B.lo, rfl, hB.lo, fun H1 k1 => ⟨_, rfl, rfl, _, rfl, ?_⟩⟩
    rw [txO_dec]
    cases e : B.hi with
    | none => exact iteF (k H1 k1)
    | some h => exact iteT ⟨_, rfl, h, rfl, hB.hi h e, fun H2 k2 => k H2 (k1.trans k2)⟩
def spCould (f : Bd → Tx → Bool) : Sp := fun vs H Q _ => ∃ (B : Bd) (way : Tx), vs = [tx way, tx B.lo, txO B.hi] ∧ Q (.bl (f B way)) H
theorem sc_may_hold : FnScope ["way", "low", "high"] ["way", "low", "high"] (defScope s_may_hold) := ⟨rfl, rfl, rfl, by decide +kernel, rfl, by decide +kernel, by decide +kernel⟩
theorem gt_txt (a b : Tx) : decide ((S b).cps.toList < (S a).cps.toList) = decide (b < a) := rfl
theorem ok_may_hold (T : Fx w K mg base) : Ok PR w K mg base d_may_hold ["way", "low", "high"] 1 (spCould Bd.could) := by
  refine Ok.mk (k := 0) (N := ["way", "low", "high"]) T.i_may_hold sc_may_hold (fun vs H Q E h => ?_) (fun _ _ _ _ _ _ us hl => match us, hl with | [_, _, _], _ => rfl) (fun cdv A outer s H vs Q E hr h => ?_)
  · obtain ⟨_, _, rfl, _⟩ := h
    rfl
  · obtain ⟨B, way, rfl, k⟩ := h
    refine ⟨_, PSs.nox (C8.pss_cut (ps_if (PW.pt (pw_and (pt_cmpR op_notN (pv 2) pe_non (nomark _)) (pw_and1 (PW.pt (pw_or (pt_cmpR op_gt_str (pv 0) (pv 2) (nomark _)) (pw_or1 (pt_cmpR op_gt_str (pv 1) (pv 2) (nomark _))))))))
      (pss_one (ps_ret pe_bl))
      pss_nil)
    (pss_one (ps_ret (L2.pe_or (pe_cmpR op_ge_str (pv 0) (pv 1) (nomark _)) (pe_one (pe_m1 PySem.F.slot_str_startswith PySem.F.type_str_startswith mt_startswith (pv 1) (pv 0))))))), ?_⟩
    rw [Bd.could_eq] at k
    refine ⟨fun σ H' => σ = [some (tx way), some (tx B.lo), some (txO B.hi)] ∧ H' = H ∧ hiNo B way = false, ?_, ?_⟩
    · refine ⟨_, rfl, rfl, _, rfl, ?_⟩
      rw [txO_dec]
      cases e : B.hi with
      | none => exact iteF (iteF ⟨rfl, rfl, by unfold hiNo; rw [e]⟩)
      | some h =>
        rw [e] at k
        refine iteT ?_
        refine ⟨_, rfl, _, rfl, S way, S h, rfl, rfl, _, rfl, ?_⟩
        rw [gt_txt]
        by_cases h1 : h < way
        · rw [decide_eq_true h1]
          have k : Q (.bl (if (decide (h < way) || decide (h < B.lo)) = true then false else !decide (way < B.lo) || way.isPrefixOf B.lo)) H := k
          rw [decide_eq_true h1] at k
          exact k
        · rw [decide_eq_false h1]
          refine iteF ?_
          refine ⟨_, rfl, _, rfl, S B.lo, S h, rfl, rfl, _, rfl, ?_⟩
          rw [gt_txt]
          by_cases h2 : h < B.lo
          · rw [decide_eq_true h2]
            have k : Q (.bl (if (decide (h < way) || decide (h < B.lo)) = true then false else !decide (way < B.lo) || way.isPrefixOf B.lo)) H := k
            rw [decide_eq_true h2, Bool.or_true] at k
            exact k
          · rw [decide_eq_false h2]
            exact iteF ⟨rfl, rfl, by unfold hiNo; rw [e]; show (decide (h < way) || decide (h < B.lo)) = false; rw [decide_eq_false h1, decide_eq_false h2]; rfl⟩
    · rintro σ H1 ⟨rfl, rfl, hno⟩
      have k : Q (.bl (if hiNo B way = true then false else !decide (way < B.lo) || way.isPrefixOf B.lo)) H1 := k
      rw [hno] at k
      have k : Q (.bl (!decide (way < B.lo) || way.isPrefixOf B.lo)) H1 := k
      refine ⟨_, rfl, _, rfl, S way, S B.lo, rfl, rfl, _, rfl, ?_⟩
      rw [le_txt]
      by_cases h : way < B.lo
      · rw [decide_eq_true h] at k ⊢
        refine iteF ?_
        refine ⟨_, rfl, ⟨_, rfl⟩, _, rfl, S B.lo, S way, rfl, rfl, ?_⟩
        rw [starts_S]
        exact k
      · rw [decide_eq_false h] at k ⊢
        exact iteT k
theorem sc__law_could : FnScope ["_law_way", "_law_least", "_law_last", "_law_first"] ["_law_way", "_law_least", "_law_last"] (defScope s__law_could) := ⟨rfl, rfl, rfl, by decide +kernel, rfl, by decide +kernel, by decide +kernel⟩
theorem ok_could (T : Fx w K mg base) : Ok PR w K mg base d__law_could ["_law_way", "_law_least", "_law_last"] 1 (spCould Bd.could) := by
  refine Ok.mk (k := 0) (N := ["_law_way", "_law_least", "_law_last", "_law_first"]) T.i__law_could sc__law_could (fun vs H Q E h => ?_) (fun _ _ _ _ _ _ us hl => match us, hl with | [_, _, _], _ => rfl) (fun cdv A outer s H vs Q E hr h => ?_)
  · obtain ⟨_, _, rfl, _⟩ := h
    rfl
  · obtain ⟨B, way, rfl, k⟩ := h
    refine ⟨_, PSs.nox (pss_cons (ps_set (i := 3) sc__law_could.nd rfl (Or.inl rfl) (pe_ifExp (pt_val (pe_m1 PySem.F.slot_str_startswith PySem.F.type_str_startswith mt_startswith (pv 1) (pv 0))) (pv 1) (pv 0)))
    (pss_one (ps_ret (L2.pe_and (pe_cmpR op_ge_str (pv 3) (pv 1) (nomark _)) (pe_one (L2.pe_or (pe_cmpR op_isN (pv 2) pe_non (nomark _)) (pe_one (pe_cmpR op_le_str (pv 3) (pv 2) (nomark _))))))))), ?_⟩
    refine ⟨_, rfl, ⟨_, rfl⟩, _, rfl, S B.lo, S way, rfl, rfl, _, rfl, ?_⟩
    rw [starts_S]
    have rest : ∀ (fst : Tx) (b1 : Bool), B.first way = fst → Q (.bl (!decide (fst < B.lo) && (match B.hi with | none => true | some h => !decide (h < fst)))) H := fun fst b1 e => by
      unfold Bd.could at k
      rw [e] at k
      exact k
    cases e : way.isPrefixOf B.lo with
    | true =>
      have ef : B.first way = B.lo := by
        unfold Bd.first
        rw [e]
        rfl
      have k2 := rest B.lo true ef
      refine iteT ?_
      refine ⟨_, rfl, ?_⟩
      refine ⟨_, rfl, _, rfl, S B.lo, S B.lo, rfl, rfl, _, rfl, ?_⟩
      rw [le_txt]
      cases e2 : decide (B.lo < B.lo) with
      | true =>
        rw [e2] at k2
        exact iteF k2
      | false =>
        rw [e2] at k2
        refine iteT ?_
        refine ⟨_, rfl, rfl, _, rfl, ?_⟩
        rw [txO_dec]
        cases e3 : B.hi with
        | none =>
          rw [e3] at k2
          exact iteT k2
        | some h =>
          rw [e3] at k2
          exact iteF ⟨_, rfl, _, rfl, S B.lo, S h, rfl, rfl, k2⟩
    | false =>
      have ef : B.first way = way := by
        unfold Bd.first
        rw [e]
        rfl
      have k2 := rest way true ef
      refine iteF ?_
      refine ⟨_, rfl, ?_⟩
      refine ⟨_, rfl, _, rfl, S way, S B.lo, rfl, rfl, _, rfl, ?_⟩
      rw [le_txt]
      cases e2 : decide (way < B.lo) with
      | true =>
        rw [e2] at k2
        exact iteF k2
      | false =>
        rw [e2] at k2
        refine iteT ?_
        refine ⟨_, rfl, rfl, _, rfl, ?_⟩
        rw [txO_dec]
        cases e3 : B.hi with
        | none =>
          rw [e3] at k2
          exact iteT k2
        | some h =>
          rw [e3] at k2
          exact iteF ⟨_, rfl, _, rfl, S way, S h, rfl, rfl, k2⟩
end
end Seal
/-! SealD17: the walk for a range. -/
namespace Seal
open PySem PySem.Spec PyProof.Rows L2 SX SealR LamX NdefX
def fBet (B : Bd) (fl wd : Addr) : List (Str × V) := [("low", tx B.lo), ("high", txO B.hi), ("most", moV B.mo), ("found", .ref fl), ("ways", .ref wd)]
theorem put5 (B : Bd) (fl wd : Addr) : putF "ways" (.ref wd) (putF "found" (.ref fl) (putF "most" (moV B.mo) (putF "high" (txO B.hi) (putF "low" (tx B.lo) [])))) = fBet B fl wd := rfl
theorem fB_low {B : Bd} {fl wd : Addr} : (fBet B fl wd).lookup ("low" : Str) = some (tx B.lo) := rfl
theorem fB_high {B : Bd} {fl wd : Addr} : (fBet B fl wd).lookup ("high" : Str) = some (txO B.hi) := rfl
theorem fB_most {B : Bd} {fl wd : Addr} : (fBet B fl wd).lookup ("most" : Str) = some (moV B.mo) := rfl
theorem fB_found {B : Bd} {fl wd : Addr} : (fBet B fl wd).lookup ("found" : Str) = some (.ref fl) := rfl
theorem fB_ways {B : Bd} {fl wd : Addr} : (fBet B fl wd).lookup ("ways" : Str) = some (.ref wd) := rfl
theorem fB_full {B : Bd} {fl wd : Addr} : (fBet B fl wd).lookup ("is_full" : Str) = none := rfl
theorem fB_go {B : Bd} {fl wd : Addr} : (fBet B fl wd).lookup ("go_into" : Str) = none := rfl
/-- pairs of texts, as tuples -/
def PairL (H : Hp) : List (Tx × Tx) → List V → Prop
  | [], us => us = []
  | (a, b) :: r, us => ∃ p q, us = .ref p :: q ∧ H p = some (.tup [tx a, tx b]) ∧ PairL H r q
theorem pairL_keep {L D : List Addr} {H H' : Hp} (k : Keep L D H H') : ∀ {r us}, PairL H r us → PairL H' r us
  | [], _, h => h
  | (c, n) :: r, us, ⟨a, q, e, h1, h2⟩ => ⟨a, q, e, k.tup h1, pairL_keep k h2⟩
theorem pairL_app {H : Hp} : ∀ {r r' us us'}, PairL H r us → PairL H r' us' → PairL H (r ++ r') (us ++ us')
  | [], _, _, _, h, h' => by
    have h : _ = [] := h
    subst h
    exact h'
  | (c, n) :: r, _, _, _, ⟨a, q, e, h1, h2⟩, h' => by
    subst e
    exact ⟨a, _, rfl, h1, pairL_app h2 h'⟩
theorem pairL_len {H : Hp} : ∀ {r us}, PairL H r us → us.length = r.length
  | [], _, h => by
    have h : _ = [] := h
    subst h
    rfl
  | (c, n) :: r, _, ⟨a, q, e, h1, h2⟩ => by
    subst e
    exact congrArg Nat.succ (pairL_len h2)
section
variable {w : World} {K : PySem.W.Frag} {mg : Str → Option Value} {base : Heap}
/-! ### a walk made -/
def OkK (P : Program) (w : World) (K : PySem.W.Frag) (mg : Str → Option Value) (base : Heap) (d : He.DefD) (ps : List Str) (n : Nat) (ks : List Str) (gV : List V → List V → List V) (k : Nat) (sp : Sp) : Prop :=
  ∃ fd g, FnOk P w K mg base (L2.CX P w) k (He.fAd K d.at_) fd ps sp ∧ L2.KBn K fd ps n ks g gV ∧ PySem.W.keepIn K (.ref (He.fAd K d.at_)) = true
def spBetI (K : PySem.W.Frag) : Sp := fun vs H Q _ => ∃ (p dx : Addr) (B : Bd), vs = [.ref p, tx B.lo, txO B.hi, moV B.mo] ∧ H p = some (.ins (He.ga K "Between") dx []) ∧
  ∀ fl wd H', H fl = none → H wd = none → H' p = some (.ins (He.ga K "Between") dx (fBet B fl wd)) → H' fl = some (.lst []) → H' wd = some (.dK []) → KeepP p H H' → Q .non H'
theorem sc_Between_init : FnScope ["self", "low", "high", "most"] ["self", "low", "high", "most"] (defScope s_Between_init) := ⟨rfl, rfl, rfl, by decide +kernel, rfl, by decide +kernel, by decide +kernel⟩
theorem ok_BetI (T : Fx w K mg base) : OkK PR w K mg base d_Between_init ["self", "low", "high", "most"] 3 ["most"] (fun vs zs => vs ++ zs) 1 (spBetI K) := by
  obtain ⟨fd, F⟩ := T.i_Between_init
  obtain ⟨mv, KB⟩ := FunD.kbinds0 (ps := ["self", "low", "high", "most"]) F 3 ["most"] [] (fun us mv ws => us ++ ws) (by intro z; cases z) (fun q hq => by cases hq) (fun {vs mz zs us mv ws} r1 _ r3 => r1.append r3)
    fun D doc pm an cdv ct us mv ws h1 h2 h3 => match us, mv, ws, h1, h2, h3 with | [_, _, _], [], [_], _, _, _ => rfl
  refine ⟨fd, _, FunD.ok (N := ["self", "low", "high", "most"]) F sc_Between_init (fun vs H Q E h => ?_) (fun cdv A outer s H vs Q E hr h => ?_), KB, F.kp⟩
  · obtain ⟨_, _, _, rfl, _⟩ := h
    rfl
  · obtain ⟨p, dx, B, rfl, hp, k⟩ := h
    refine ⟨_, PSs.nox (pss_cons (ps_fld (pv 0) (pv 1) rfl)
    (pss_cons (ps_fld (pv 0) (pv 2) rfl)
    (pss_cons (ps_fld (pv 0) (pv 3) rfl)
    (pss_cons (ps_fld (pv 0) (pe_lst pa_nil) rfl)
    (pss_one (ps_fld (pv 0) pe_dnewK rfl)))))), ?_⟩
    refine ⟨_, rfl, _, rfl, p, _, dx, _, rfl, hp, T.c_Between, T.n_Between_low, (by show 0 < 1000; decide), ?_⟩
    refine ⟨_, rfl, _, rfl, p, _, dx, _, rfl, upd_same, T.c_Between, T.n_Between_high, (by show 1 < 1000; decide), ?_⟩
    refine ⟨_, rfl, _, rfl, p, _, dx, _, rfl, upd_same, T.c_Between, T.n_Between_most, (by show 2 < 1000; decide), ?_⟩
    rw [upd_upd, upd_upd]
    refine ⟨by show 0 ≤ sizeLine; decide, fun fl hfl => ?_⟩
    have n1 : p ≠ fl := ne_of_none upd_same hfl
    refine ⟨_, rfl, p, _, dx, _, rfl, (by rw [upd_ne n1, upd_same]), T.c_Between, T.n_Between_found, (by show 3 < 1000; decide), ?_⟩
    intro wd hwd
    have n2 : p ≠ wd := ne_of_none upd_same hwd
    have n3 : fl ≠ wd := ne_of_none (by rw [upd_ne n1.symm, upd_same]) hwd
    refine ⟨_, rfl, p, _, dx, _, rfl, (by rw [upd_ne n2, upd_same]), T.c_Between, T.n_Between_ways, (by show 4 < 1000; decide), ?_⟩
    rw [put5]
    have hfl0 : H fl = none := by
      rw [upd_ne n1.symm] at hfl
      exact hfl
    have hwd0 : H wd = none := by
      rw [upd_ne n2.symm, upd_ne n3.symm, upd_ne n2.symm] at hwd
      exact hwd
    refine k fl wd _ hfl0 hwd0 upd_same (by rw [upd_ne n1.symm, upd_ne n3, upd_ne n1.symm, upd_same]) (by rw [upd_ne n2.symm, upd_same]) ?_
    refine ⟨fun b e => ?_, fun b o e n => ?_⟩
    · by_cases h1 : b = p
      · rw [h1, upd_same] at e
        cases e
      rw [upd_ne h1] at e
      by_cases h2 : b = wd
      · rw [h2, upd_same] at e
        cases e
      rw [upd_ne h2, upd_ne h1] at e
      by_cases h3 : b = fl
      · rw [h3, upd_same] at e
        cases e
      rw [upd_ne h3, upd_ne h1] at e
      exact e
    · have h2 := ne_of_none e hwd0
      have h3 := ne_of_none e hfl0
      rw [upd_ne n, upd_ne h2, upd_ne n, upd_ne h3, upd_ne n]
      exact e
/-! ### is it full -/
def spFull (K : PySem.W.Frag) : Sp := fun vs H Q _ => ∃ (p dx fl wd : Addr) (B : Bd) (us : List V), vs = [.ref p] ∧ H p = some (.ins (He.ga K "Between") dx (fBet B fl wd)) ∧ H fl = some (.lst us) ∧ Q (.bl (B.full us.length)) H
theorem mo_dec (m : Option Nat) : decide (moV m = .non) = m.isNone := by
  cases m with
  | none => exact decide_eq_true rfl
  | some m => exact decide_eq_false fun z => nomatch z
theorem sc_Between_is_full : FnScope ["self"] ["self"] (defScope s_Between_is_full) := ⟨rfl, rfl, rfl, by decide +kernel, rfl, by decide +kernel, by decide +kernel⟩
theorem ok_full (T : Fx w K mg base) : Ok PR w K mg base d_Between_is_full ["self"] 1 (spFull K) := by
  refine Ok.mk (k := 0) (N := ["self"]) T.i_Between_is_full sc_Between_is_full (fun vs H Q E h => ?_) (fun _ _ _ _ _ _ us hl => match us, hl with | [_], _ => rfl) (fun cdv A outer s H vs Q E hr h => ?_)
  · obtain ⟨_, _, _, _, _, _, rfl, _⟩ := h
    rfl
  · obtain ⟨p, dx, fl, wd, B, us, rfl, hp, hl, k⟩ := h
    refine ⟨_, PSs.nox (pss_one (ps_ret (L2.pe_and (pe_cmpR op_notN (pe_fld (pv 0) rfl) pe_non (nomark _)) (pe_one (pe_cmpR op_ge (pe_callB call_len_seq rfl T.f_len B_len (pa_cons (pe_fld (pv 0) rfl) pa_nil)) (pe_fld (pv 0) rfl) (nomark _)))))), ?_⟩
    refine ⟨_, rfl, p, _, dx, _, _, rfl, hp, T.c_Between, T.n_Between_most, fB_most, rfl, _, rfl, ?_⟩
    rw [mo_dec]
    unfold Bd.full at k
    cases e : B.mo with
    | none =>
      rw [e] at k
      exact iteF k
    | some m =>
      rw [e] at k
      refine iteT ?_
      refine ⟨_, rfl, p, _, dx, _, _, rfl, hp, T.c_Between, T.n_Between_found, fB_found, fl, _, rfl, .inl (SqL.of hl), ?_⟩
      refine ⟨_, rfl, p, _, dx, _, _, rfl, hp, T.c_Between, T.n_Between_most, fB_most, ?_⟩
      rw [e]
      refine ⟨_, _, rfl, rfl, ?_⟩
      have e2 : decide ((m : Int) ≤ (us.length : Int)) = decide (m ≤ us.length) := decide_eq_decide.mpr (by omega)
      show Q (.bl (decide ((m : Int) ≤ (us.length : Int)))) H
      rw [e2]
      exact k
end
end Seal
/-! SealD18: go_into. -/
namespace Seal
open PySem PySem.Spec PyProof.Rows L2 SX SealR LamX NdefX
theorem size_node (s : Tx) (x : Option Tx) (ks : List (Nat × Tr)) : (Tr.node s x ks).size = 1 + sizes ks := by
  conv => lhs; unfold Tr.size
theorem here_len (B : Bd) (x : Option Tx) (k : Tx) : (B.here x k).length ≤ 1 := by
  unfold Bd.here
  cases x with
  | none => exact Nat.zero_le _
  | some l =>
    show (if B.has k = true then [(k, l)] else []).length ≤ 1
    split
    · exact Nat.le_refl _
    · exact Nat.zero_le _
theorem wk_len (B : Bd) : ∀ (t : Tr) (w : Tx) (f : List (Tx × Tx)), (t.wk B w f).2.length ≤ f.length + t.size := by
  refine Tr.ind (fun n w f => ?_) fun s x ks ih w f => ?_
  · unfold Tr.wk
    split
    · exact Nat.le_add_right _ _
    · exact Nat.le_add_right _ _
  · unfold Tr.wk
    split
    · exact Nat.le_add_right _ _
    · have go : ∀ (l : List (Nat × Tr)) (f : List (Tx × Tx)), (∀ q ∈ l, q ∈ ks) → (wks B l (w ++ s) f).2.length ≤ f.length + sizes l := by
        intro l
        induction l with
        | nil =>
          intro f _
          unfold wks
          exact Nat.le_add_right _ _
        | cons q l ihl =>
          obtain ⟨c, t⟩ := q
          intro f hl
          unfold wks sizes
          have h1 := ih (c, t) (hl _ List.mem_cons_self) (w ++ s ++ [c]) f
          have h1 : (t.wk B (w ++ s ++ [c]) f).2.length ≤ f.length + t.size := h1
          cases e : t.wk B (w ++ s ++ [c]) f with
          | mk a f' =>
            rw [e] at h1
            cases a with
            | some z =>
              show f'.length ≤ _
              have h1 : f'.length ≤ f.length + t.size := h1
              omega
            | none =>
              have h1 : f'.length ≤ f.length + t.size := h1
              have h2 := ihl f' fun q hq => hl q (List.mem_cons_of_mem _ hq)
              show (wks B l (w ++ s) f').2.length ≤ _
              omega
      have := go ks (f ++ B.here x (w ++ s)) fun _ h => h
      rw [List.length_append] at this
      have h2 := here_len B x (w ++ s)
      rw [size_node]
      omega
theorem wks_cons_none {B : Bd} {c : Nat} {t : Tr} {r : List (Nat × Tr)} {k : Tx} {f : List (Tx × Tx)} (h : (t.wk B (k ++ [c]) f).1 = none) : wks B ((c, t) :: r) k f = wks B r k (t.wk B (k ++ [c]) f).2 := by
  conv => lhs; unfold wks
  cases e : t.wk B (k ++ [c]) f with
  | mk a f' =>
    rw [e] at h
    have h : a = none := h
    subst h
    rfl
theorem wks_cons_some {B : Bd} {c : Nat} {t : Tr} {r : List (Nat × Tr)} {k z : Tx} {f : List (Tx × Tx)} (h : (t.wk B (k ++ [c]) f).1 = some z) : (wks B ((c, t) :: r) k f) = (some z, (t.wk B (k ++ [c]) f).2) := by
  conv => lhs; unfold wks
  cases e : t.wk B (k ++ [c]) f with
  | mk a f' =>
    rw [e] at h
    have h : a = some z := h
    subst h
    rfl
theorem wk_no {B : Bd} {t : Tr} {w : Tx} {f : List (Tx × Tx)} (h : (B.full f.length || !B.could w) = true) : t.wk B w f = (none, f) := by
  cases t with
  | stub n =>
    unfold Tr.wk
    rw [if_pos h]
  | node s x ks =>
    unfold Tr.wk
    rw [if_pos h]
theorem wk_stub {B : Bd} {n : Nat} {w : Tx} {f : List (Tx × Tx)} (h : (B.full f.length || !B.could w) = false) : (Tr.stub n).wk B w f = (some w, f) := by
  unfold Tr.wk
  rw [if_neg (by rw [h]; decide)]
theorem wk_node {B : Bd} {s : Tx} {x : Option Tx} {ks : List (Nat × Tr)} {w : Tx} {f : List (Tx × Tx)} (h : (B.full f.length || !B.could w) = false) : (Tr.node s x ks).wk B w f = wks B ks (w ++ s) (f ++ B.here x (w ++ s)) := by
  conv => lhs; unfold Tr.wk
  rw [if_neg (by rw [h]; decide)]
section
variable {w : World} {K : PySem.W.Frag} {mg : Str → Option Value} {base : Heap}
/-- behind an own error's making -/
theorem oex_keep {H : Hp} {a d C : Addr} {f : Str} {v : V} (ha : H a = none) (hd : H d = none) (hda : d ≠ a) {L D : List Addr} :
    Keep L D H (upd (del (upd (upd (upd H a (exo a C none)) d (exd d [(f, v)])) a (exo a C (some d))) a) d (.xd [(f, v)])) := by
  refine ⟨fun b e => ?_, fun b o e _ _ => ?_⟩
  · by_cases h1 : b = d
    · rw [h1, upd_same] at e
      cases e
    rw [upd_ne h1] at e
    by_cases h2 : b = a
    · rw [h2]
      exact ha
    rw [del_ne h2, upd_ne h2, upd_ne h1, upd_ne h2] at e
    exact e
  · have h1 := ne_of_none e hd
    have h2 := ne_of_none e ha
    rw [upd_ne h1, del_ne h2, upd_ne h2, upd_ne h1, upd_ne h2]
    exact e
def spGo (d : Nat) (K : PySem.W.Frag) : Sp := fun vs H Q E => ∃ (p dx fl wd : Addr) (B : Bd) (way : Tx) (v : V) (t : Tr) (f : List (Tx × Tx)) (us : List V) (W : List (Tx × Bool)), vs = [.ref p, tx way, v] ∧ H p = some (.ins (He.ga K "Between") dx (fBet B fl wd)) ∧
  H fl = some (.lst us) ∧ PairL H f us ∧ H wd = some (.dK (kvT V.bl W)) ∧ PartAt K H t v ∧ Fit d t ∧ way.length + 20 * d ≤ 1000 ∧ f.length + t.size ≤ 1000 ∧ W.length + t.size ≤ 1000 ∧
  (∀ us' W' H', (t.wk B way f).1 = none → H' fl = some (.lst us') → PairL H' (t.wk B way f).2 us' → H' wd = some (.dK (kvT V.bl W')) → W'.length ≤ W.length + t.size → Keep [fl] [wd] H H' → Q .non H') ∧
  (∀ wy d H', (t.wk B way f).1 = some wy → H d = none → H' d = some (.xd [("way", tx wy)]) → Keep [fl] [wd] H H' → E (.ref (He.ga K "Unseen")) (some d) H')
theorem sc_Between_go_into : FnScope ["self", "way", "tree", "key", "letter", "kid"] ["self", "way", "tree"] (defScope s_Between_go_into) := ⟨rfl, rfl, rfl, by decide +kernel, rfl, by decide +kernel, by decide +kernel⟩
theorem ok_go (T : Fx w K mg base) : ∀ d, Ok PR w K mg base d_Between_go_into ["self", "way", "tree"] (d + 3) (spGo d K)
  | 0 => by
    refine Ok.mk (k := 2) (N := ["self", "way", "tree", "key", "letter", "kid"]) T.i_Between_go_into sc_Between_go_into (fun vs H Q E h => ?_) (fun _ _ _ _ _ _ us hl => match us, hl with | [_, _, _], _ => rfl) (fun cdv A outer s H vs Q E hr h => ?_)
    · obtain ⟨_, _, _, _, _, _, _, _, _, _, _, rfl, _⟩ := h
      rfl
    · obtain ⟨_, _, _, _, _, _, _, _, _, _, _, _, _, _, _, _, _, f, _⟩ := h
      exact f.no.elim
  | d + 1 => by
    obtain ⟨fd1, F_Between_go_into, b_Between_go_into, k_Between_go_into⟩ := ok_go T d
    obtain ⟨fd2, F_Between_is_full, b_Between_is_full, k_Between_is_full⟩ := ok_full T
    obtain ⟨fd3, F_may_hold, b_may_hold, k_may_hold⟩ := ok_may_hold T
    obtain ⟨fd4, F_Unseen, b_Unseen, k_Unseen⟩ := ok_Unseen T
    refine Ok.mk (k := d + 3) (N := ["self", "way", "tree", "key", "letter", "kid"]) T.i_Between_go_into sc_Between_go_into (fun vs H Q E h => ?_) (fun _ _ _ _ _ _ us hl => match us, hl with | [_, _, _], _ => rfl) (fun cdv A outer s H vs Q E hr h => ?_)
    · obtain ⟨_, _, _, _, _, _, _, _, _, _, _, rfl, _⟩ := h
      rfl
    · obtain ⟨p, dx, fl, wd, B, way, v, t, f, us, W, rfl, hp, hl, hPL, hw, hP, fit, hway, hfl, hWl, kq, ke⟩ := h
      have hu := hu_of hr
      have hlen : us.length = f.length := pairL_len hPL
      refine ⟨_, (C8.pss_cut (ps_if (PW.pt (pw_or (pt_cmpR op_isN (pv 2) pe_non (nomark _)) (pw_or (pt_val (pe_meth0 (pv 0) T.c_Between T.m_Between_is_full F_Between_is_full (hr.mono (by first | decide | omega)) b_Between_is_full .nil passL)) (pw_or1 (pt_not (pt_val (pe_call F_may_hold (hr.mono (by first | decide | omega)) rfl T.g_may_hold k_may_hold b_may_hold .nil passL (pa_cons (pv 1) (pa_cons (pe_fld (pv 0) rfl) (pa_cons (pe_fld (pv 0) rfl) pa_nil))))))))))
      (pss_one ps_retN)
      pss_nil)
    (pss_cons (ps_if (pt_val (pe_callB call_isi rfl T.f_isinstance B_isinstance (pa_cons (pv 2) (pa_cons (C8.pe_gc (v := .ref (He.ga K "Stub")) rfl ⟨_, T.g_Stub, rfl⟩) pa_nil))))
      (pss_one (ps_raise rfl (takes_of rfl rfl rfl rfl) (pmk_oex (oexB_ok T.ex2.oU) (He.eqO_ok (ba2 T.ex2.iU).1) (of_decide_eq_true (ba2 (ba2 T.ex2.iU).2).1) F_Unseen (hr.mono (by first | decide | omega)) b_Unseen .nil passL rfl T.g_Unseen (pa_cons (pv 1) pa_nil))))
      pss_nil)
    (pss_cons (ps_dput hu (pe_fld (pv 0) rfl) (pv 1) pe_bl rfl)
    (pss_cons (ps_set (i := 3) sc_Between_go_into.nd rfl (Or.inl rfl) (pe_op op_add_str (pv 1) (pe_fld (pv 2) rfl)))
    (C8.pss_cut (ps_if (PW.pt (pw_and (pt_cmpR op_notN (pe_fld (pv 2) rfl) pe_non (nomark _)) (pw_and (pt_cmpR op_le_str (pe_fld (pv 0) rfl) (pv 3) (nomark _)) (pw_and1 (PW.pt (pw_or (pt_cmpR op_isN (pe_fld (pv 0) rfl) pe_non (nomark _)) (pw_or1 (pt_cmpR op_le_str (pv 3) (pe_fld (pv 0) rfl) (nomark _)))))))))
      (pss_one (ps_expr (pe_bm PySem.F.plainAttrs_list PySem.F.slot_list_append PySem.F.type_list_append mt_append (pe_fld (pv 0) rfl) (pa_cons (pe_tup (pa_cons (pv 3) (pa_cons (pe_fld (pv 2) rfl) pa_nil))) pa_nil))))
      pss_nil)
    (pss_one (ps_for (passes_of rfl) rfl (pi_tup (pe_fld (pv 2) rfl)) (pg_tup rfl (pgs_cons (pg_name (i := 4) sc_Between_go_into.nd rfl (Or.inl rfl)) (pgs_cons (pg_name (i := 5) sc_Between_go_into.nd rfl (Or.inl rfl)) pgs_nil)))
      (pss_one (ps_expr (pe_meth (pv 0) T.c_Between T.m_Between_go_into F_Between_go_into (hr.mono (by first | decide | omega)) b_Between_go_into .nil passX (pa_cons (pe_op op_add_str (pv 3) (pv 4)) (pa_cons (pv 5) pa_nil)))))))))))), ?_⟩
      have hvr : v ≠ .non := fun e => by
        subst e
        cases t with
        | stub m =>
          unfold PartAt at hP
          obtain ⟨_, _, e, _⟩ := hP
          cases e
        | node s x ks =>
          unfold PartAt at hP
          obtain ⟨_, _, _, _, e, _⟩ := hP
          cases e
      refine ⟨fun σ H' => σ = [some (.ref p), some (tx way), some v, none, none, none] ∧ H' = H ∧ (B.full f.length || !B.could way) = false, ?_, ?_⟩
      · refine ⟨_, rfl, rfl, _, rfl, ?_⟩
        rw [decide_eq_false hvr]
        refine iteF ?_
        refine ⟨_, rfl, p, dx, _, rfl, hp, fB_full, p, dx, fl, wd, B, us, rfl, hp, hl, _, rfl, ?_⟩
        rw [hlen]
        cases e1 : B.full f.length with
        | true =>
          have e : t.wk B way f = (none, f) := wk_no (by rw [e1]; rfl)
          exact kq us W H (by rw [e]) hl (by rw [e]; exact hPL) hw (Nat.le_add_right _ _) (Keep.refl H)
        | false =>
          refine iteF ?_
          refine ⟨_, rfl, _, rfl, p, _, dx, _, _, rfl, hp, T.c_Between, T.n_Between_low, fB_low, ?_⟩
          refine ⟨_, rfl, p, _, dx, _, _, rfl, hp, T.c_Between, T.n_Between_high, fB_high, B, way, rfl, _, rfl, ?_⟩
          cases e2 : B.could way with
          | false =>
            have e : t.wk B way f = (none, f) := wk_no (by rw [e2, Bool.not_false, Bool.or_true])
            exact kq us W H (by rw [e]) hl (by rw [e]; exact hPL) hw (Nat.le_add_right _ _) (Keep.refl H)
          | true => exact iteF ⟨rfl, rfl, rfl⟩
      · rintro σ H1 ⟨rfl, he, hgo⟩
        subst he
        cases t with
        | stub m =>
          have hP' := hP
          unfold PartAt at hP'
          obtain ⟨q, dq, rfl, hq⟩ := hP'
          refine ⟨_, rfl, _, _, _, _, true, rfl, .own _, T.tyS hq, T.ex2.kSS, _, rfl, ?_⟩
          refine iteT ?_
          refine ⟨_, rfl, by show 1 ≤ 1000; decide, fun a ha => ⟨a, tx way, rfl, upd_same, fun dd hdd hda => ⟨rfl, dd, _, upd_same, by rw [upd_ne hda, upd_same], ?_, ?_⟩⟩⟩
          · rw [upd_ne hda] at hdd
            exact hdd
          · rw [upd_ne hda] at hdd
            exact ke way dd _ (by rw [wk_stub hgo]) hdd upd_same (oex_keep ha hdd hda)
        | node st x ks =>
          have hP' := hP
          unfold PartAt at hP'
          obtain ⟨q, dq, b, vs', rfl, hq, hb, hL⟩ := hP'
          rw [wk_node hgo] at kq ke
          have hsz := size_node st x ks
          have hst := fit.stem.2
          refine ⟨_, rfl, _, _, _, _, false, rfl, .own _, T.tyN hq, T.ex2.kNS, _, rfl, ?_⟩
          refine iteF ?_
          -- ways
          have nwf : wd ≠ fl := ne_of hw hl (by intro z; cases z)
          refine ⟨_, rfl, p, _, dx, _, _, rfl, hp, T.c_Between, T.n_Between_ways, fB_ways, ?_⟩
          refine ⟨_, rfl, wd, _, rfl, DPut.k (k := Sum.inr (S way)) hw (by rw [kvT_len]; exact Nat.lt_of_le_of_lt (by omega : W.length ≤ 1000) (by decide)), ?_⟩
          have epW : putK (kvT V.bl W) (Sum.inr (S way)) (V.bl true) = kvT V.bl (putC W way true) := putK_kvT V.bl W way true
          rw [epW]
          have kw : Keep [fl] [wd] H1 (upd H1 wd (.dK (kvT V.bl (putC W way true)))) := (Keep.refl H1).putD hw (by simp)
          have hW2 := putC_len W way true
          generalize hH2 : upd H1 wd (.dK (kvT V.bl (putC W way true))) = H2 at kw
          have hw2 : H2 wd = some (.dK (kvT V.bl (putC W way true))) := by rw [← hH2, upd_same]
          have hl2 : H2 fl = some (.lst us) := by rw [← hH2, upd_ne nwf.symm]; exact hl
          have hq2 := kw.ins hq
          have hp2 := kw.ins hp
          have hPL2 := pairL_keep kw hPL
          refine ⟨_, rfl, _, rfl, q, _, dq, _, _, rfl, hq2, T.c_Node, T.n_Node_stem, fN_stem, S way, S st, rfl, rfl, toSz (by rw [len_S, len_S]; omega), ?_⟩
          rw [S_cat]
          refine ⟨fun σ H' => σ = [some (.ref p), some (tx way), some (.ref q), some (tx (way ++ st)), none, none] ∧ Keep [fl] [wd] H1 H' ∧ H' wd = some (.dK (kvT V.bl (putC W way true))) ∧ ∃ us2, H' fl = some (.lst us2) ∧ PairL H' (f ++ B.here x (way ++ st)) us2, ?_, ?_⟩
          · refine ⟨_, rfl, q, _, dq, _, _, rfl, hq2, T.c_Node, T.n_Node_value, fN_value, rfl, _, rfl, ?_⟩
            rw [txO_dec]
            have stay : B.here x (way ++ st) = [] → (([some (V.ref p), some (tx way), some (V.ref q), some (tx (way ++ st)), none, none] : L2.St) = [some (.ref p), some (tx way), some (.ref q), some (tx (way ++ st)), none, none] ∧ Keep [fl] [wd] H1 H2 ∧ H2 wd = some (.dK (kvT V.bl (putC W way true))) ∧ ∃ us2, H2 fl = some (.lst us2) ∧ PairL H2 (f ++ B.here x (way ++ st)) us2) := fun e => by
              rw [e, List.append_nil]
              exact ⟨rfl, kw, hw2, us, hl2, hPL2⟩
            cases x with
            | none => exact iteF (iteF (stay rfl))
            | some l =>
              refine iteT ?_
              refine ⟨_, rfl, p, _, dx, _, _, rfl, hp2, T.c_Between, T.n_Between_low, fB_low, _, rfl, S B.lo, S (way ++ st), rfl, rfl, _, rfl, ?_⟩
              rw [le_txt]
              have hasE : B.here (some l) (way ++ st) = if B.has (way ++ st) = true then [(way ++ st, l)] else [] := rfl
              by_cases h1 : way ++ st < B.lo
              · rw [decide_eq_true h1]
                refine iteF (iteF (stay ?_))
                rw [hasE, if_neg]
                unfold Bd.has
                rw [decide_eq_true h1]
                exact Bool.false_ne_true
              · rw [decide_eq_false h1]
                refine iteT ?_
                refine ⟨_, rfl, p, _, dx, _, _, rfl, hp2, T.c_Between, T.n_Between_high, fB_high, rfl, _, rfl, ?_⟩
                rw [txO_dec]
                cases eh : B.hi with
                | none =>
                  refine iteT (iteT ?_)
                  have hh : B.has (way ++ st) = true := by
                    unfold Bd.has
                    rw [decide_eq_false h1, eh]
                    rfl
                  refine ⟨_, rfl, p, _, dx, _, _, rfl, hp2, T.c_Between, T.n_Between_found, fB_found, .inl ⟨rfl, _, .inl (.inl hl2)⟩, _, rfl, _, rfl, q, _, dq, _, _, rfl, hq2, T.c_Node, T.n_Node_value, fN_value, (by show 2 ≤ sizeLine; decide), fun r hr2 => ?_⟩
                  have kr := Keep.new (L := [fl]) (D := [wd]) (o := .tup [tx (way ++ st), txO (some l)]) hr2
                  have kr0 := Keep.new (L := []) (D := []) (o := .tup [tx (way ++ st), txO (some l)]) hr2
                  have hl3 := kr0.lst hl2 (by simp)
                  have ka : Keep [fl] [wd] (upd H2 r (.tup [tx (way ++ st), txO (some l)])) (upd (upd H2 r (.tup [tx (way ++ st), txO (some l)])) fl (.lst (us ++ [.ref r]))) := (Keep.refl _).putL hl3 (by simp)
                  refine ⟨fl, us, .ref r, rfl, rfl, hl3, ?_, rfl, (kw.trans kr).trans ka, ?_, us ++ [.ref r], upd_same, ?_⟩
                  · rw [hlen]
                    exact Nat.lt_of_le_of_lt (by omega : f.length ≤ 1000) (by decide)
                  · rw [upd_ne nwf]
                    exact kr0.dic hw2 (by simp)
                  · rw [hasE, if_pos hh]
                    exact pairL_app (pairL_keep ka (pairL_keep kr hPL2)) ⟨r, [], rfl, ka.tup upd_same, rfl⟩
                | some h =>
                  refine iteF ?_
                  refine ⟨_, rfl, _, rfl, p, _, dx, _, _, rfl, hp2, T.c_Between, T.n_Between_high, fB_high, ?_⟩
                  rw [eh]
                  refine ⟨S (way ++ st), S h, rfl, rfl, _, rfl, ?_⟩
                  rw [le_txt]
                  by_cases h2 : h < way ++ st
                  · rw [decide_eq_true h2]
                    refine iteF (stay ?_)
                    rw [hasE, if_neg]
                    unfold Bd.has
                    rw [eh]
                    show ¬ (_ && !decide (h < way ++ st)) = true
                    rw [decide_eq_true h2]
                    simp
                  · rw [decide_eq_false h2]
                    refine iteT ?_
                    have hh : B.has (way ++ st) = true := by
                      unfold Bd.has
                      rw [decide_eq_false h1, eh]
                      show (_ && !decide (h < way ++ st)) = true
                      rw [decide_eq_false h2]
                      rfl
                    refine ⟨_, rfl, p, _, dx, _, _, rfl, hp2, T.c_Between, T.n_Between_found, fB_found, .inl ⟨rfl, _, .inl (.inl hl2)⟩, _, rfl, _, rfl, q, _, dq, _, _, rfl, hq2, T.c_Node, T.n_Node_value, fN_value, (by show 2 ≤ sizeLine; decide), fun r hr2 => ?_⟩
                    have kr := Keep.new (L := [fl]) (D := [wd]) (o := .tup [tx (way ++ st), txO (some l)]) hr2
                    have kr0 := Keep.new (L := []) (D := []) (o := .tup [tx (way ++ st), txO (some l)]) hr2
                    have hl3 := kr0.lst hl2 (by simp)
                    have ka : Keep [fl] [wd] (upd H2 r (.tup [tx (way ++ st), txO (some l)])) (upd (upd H2 r (.tup [tx (way ++ st), txO (some l)])) fl (.lst (us ++ [.ref r]))) := (Keep.refl _).putL hl3 (by simp)
                    refine ⟨fl, us, .ref r, rfl, rfl, hl3, ?_, rfl, (kw.trans kr).trans ka, ?_, us ++ [.ref r], upd_same, ?_⟩
                    · rw [hlen]
                      exact Nat.lt_of_le_of_lt (by omega : f.length ≤ 1000) (by decide)
                    · rw [upd_ne nwf]
                      exact kr0.dic hw2 (by simp)
                    · rw [hasE, if_pos hh]
                      exact pairL_app (pairL_keep ka (pairL_keep kr hPL2)) ⟨r, [], rfl, ka.tup upd_same, rfl⟩
          · rintro σ H3 ⟨rfl, k3, hw3, us2, hl3, hPL3⟩
            have hq1 : H1 q = some (.ins (He.ga K "Node") dq (fNode st x b)) := hq
            have wl : (f ++ B.here x (way ++ st)).length ≤ f.length + 1 := by
              rw [List.length_append]
              exact Nat.add_le_add_left (here_len B x _) _
            refine ⟨_, rfl, q, _, dq, _, _, rfl, k3.ins hq, T.c_Node, T.n_Node_kids, fN_kids, b, rfl, ⟨_, SqT.of (k3.tup hb)⟩, ?_⟩
            refine for_it (walk_tup (xs := vs')) (fun i σ H' => ∃ o4 o5 fi us3 Wi, σ = [some (.ref p), some (tx way), some (.ref q), some (tx (way ++ st)), o4, o5] ∧ Keep [fl] [wd] H1 H' ∧ H' fl = some (.lst us3) ∧ PairL H' fi us3 ∧ H' wd = some (.dK (kvT V.bl Wi)) ∧
                Wi.length ≤ W.length + 1 + sizes (ks.take i) ∧ fi.length ≤ f.length + 1 + sizes (ks.take i) ∧ wks B ks (way ++ st) (f ++ B.here x (way ++ st)) = wks B (ks.drop i) (way ++ st) fi)
              ⟨none, none, _, us2, _, rfl, k3, hl3, hPL3, hw3, by rw [List.take_zero]; unfold sizes; omega, by rw [List.take_zero]; unfold sizes; omega, by rw [List.drop_zero]⟩ (fun i σ H' _ h => ?_) ?_ ?_
            · obtain ⟨_, _, _, _, _, _, m1, _⟩ := h
              exact m1.sqt (SqT.of hb)
            · rintro i y σ H4 H5 hi ⟨o4, o5, fi, us3, Wi, rfl, m1, m2, m3, m4, m5, m6, m7⟩ ⟨rfl, hy⟩
              obtain ⟨c, t, r, u, ek, rfl, hr2, ht⟩ := partL_get hL hy
              have fk := (fit.kid (List.mem_of_getElem? ek)).2
              have e5 : sizes (ks.take (i + 1)) ≤ sizes ks := by
                have q := sizes_app (ks.take (i + 1)) (ks.drop (i + 1))
                rw [List.take_append_drop] at q
                omega
              have e6 : sizes (ks.take (i + 1)) = sizes (ks.take i) + t.size := by rw [take_snoc ek, sizes_snoc]
              have ed : ks.drop i = (c, t) :: ks.drop (i + 1) := by
                obtain ⟨h1, h2⟩ := List.getElem?_eq_some_iff.mp ek
                rw [List.drop_eq_getElem_cons h1, h2]
              rw [ed] at m7
              refine ⟨r, _, rfl, SqT.of (m1.tup hr2), rfl, _, _, rfl, _, _, rfl, rfl, ?_⟩
              refine ⟨_, rfl, p, dx, _, rfl, m1.ins hp, fB_go, _, rfl, _, rfl, S (way ++ st), S [c], rfl, rfl, toSz (by rw [len_S, len_S, List.length_append, List.length_singleton]; omega), _, rfl, ?_⟩
              rw [S_cat]
              have hkl : (way ++ st ++ [c]).length + 20 * d ≤ 1000 := by
                rw [List.length_append, List.length_append, List.length_singleton]
                omega
              refine ⟨p, dx, fl, wd, B, way ++ st ++ [c], u, t, fi, us3, Wi, rfl, m1.ins hp, m2, m3, m4, part_keep m1 t u ht, fk, hkl, by omega, by omega, fun us4 W4 H6 n1 n2 n3 n4 n5 n6 => ?_, fun wy de H6 n1 n2 n3 n4 => ?_⟩
              · refine ⟨_, _, _, us4, W4, rfl, m1.trans n6, n2, n3, n4, by omega, ?_, ?_⟩
                · have := wk_len B t (way ++ st ++ [c]) fi
                  omega
                · rw [m7, wks_cons_none n1]
              · rw [wks_cons_some n1] at m7
                exact ke wy de H6 (by rw [m7]) (m1.dom _ n2) n3 (m1.trans n4)
            · rintro σ H4 ⟨o4, o5, fi, us3, Wi, rfl, m1, m2, m3, m4, m5, m6, m7⟩
              have hlv := partL_len hL
              rw [hlv, List.take_of_length_le (Nat.le_refl _)] at m5 m6
              rw [hlv, List.drop_of_length_le (Nat.le_refl _)] at m7
              have m7 : wks B ks (way ++ st) (f ++ B.here x (way ++ st)) = (none, fi) := m7.trans (by unfold wks; rfl)
              refine kq us3 Wi H4 ?_ m2 ?_ m4 (by omega) m1
              · exact congrArg Prod.fst m7
              · have e := congrArg Prod.snd m7
                rw [show (wks B ks (way ++ st) (f ++ B.here x (way ++ st))).2 = fi from e]
                exact m3
end
end Seal
/-! SealD19: ranges told, under a root. -/
namespace Seal
open PySem PySem.Spec PyProof.Rows L2 SX SealR LamX NdefX
section
variable {w : World} {K : PySem.W.Frag} {mg : Str → Option Value} {base : Heap}
def spRange (K : PySem.W.Frag) : Sp := fun vs H Q E => ∃ (v : V) (t : Tr) (B : Bd), vs = [v, tx B.lo, txO B.hi, moV B.mo] ∧ PartAt K H t v ∧ Fit 12 t ∧ BdOk B ∧
  (∀ l us H', (t.wk B [] []).1 = none → H l = none → H' l = some (.lst us) → PairL H' (t.wk B [] []).2 us → Keep [] [] H H' → Q (.ref l) H') ∧
  (∀ wy d H', (t.wk B [] []).1 = some wy → H d = none → H' d = some (.xd [("way", tx wy)]) → Keep [] [] H H' → E (.ref (He.ga K "Unseen")) (some d) H')
theorem sc_range_of : FnScope ["tree", "low", "high", "most", "walk"] ["tree", "low", "high", "most"] (defScope s_range_of) := ⟨rfl, rfl, rfl, by decide +kernel, rfl, by decide +kernel, by decide +kernel⟩
theorem ok_range (T : Fx w K mg base) : OkK PR w K mg base d_range_of ["tree", "low", "high", "most"] 1 ["low", "high", "most"] (fun vs zs => vs ++ zs) 18 (spRange K) := by
  obtain ⟨fd1, F_need_ends, b_need_ends, k_need_ends⟩ := ok_ends T
  obtain ⟨fd2, g2, F_Between, b_Between, k_Between⟩ := ok_BetI T
  obtain ⟨fd3, F_Between_go_into, b_Between_go_into, k_Between_go_into⟩ := ok_go T 12
  obtain ⟨fd, F⟩ := T.i_range_of
  obtain ⟨mv, KB⟩ := FunD.kbinds0 (ps := ["tree", "low", "high", "most"]) F 1 ["low", "high", "most"] [] (fun us mv ws => us ++ ws) (by intro z; cases z) (fun q hq => by cases hq) (fun {vs mz zs us mv ws} r1 _ r3 => r1.append r3)
    fun D doc pm an cdv ct us mv ws h1 h2 h3 => match us, mv, ws, h1, h2, h3 with | [_], [], [_, _, _], _, _, _ => rfl
  refine ⟨fd, _, FunD.ok (k := 17) (N := ["tree", "low", "high", "most", "walk"]) F sc_range_of (fun vs H Q E h => ?_) (fun cdv A outer s H vs Q E hr h => ?_), KB, F.kp⟩
  · obtain ⟨_, _, _, rfl, _⟩ := h
    rfl
  · obtain ⟨v, t, B, rfl, hP, fit, hB, kq, ke⟩ := h
    refine ⟨_, (pss_cons (ps_expr (pe_call F_need_ends (hr.mono (by first | decide | omega)) rfl T.g_need_ends k_need_ends b_need_ends .nil passL (pa_cons (pv 1) (pa_cons (pv 2) pa_nil))))
    (pss_cons (ps_set (i := 4) sc_range_of.nd rfl (Or.inl rfl) (pe_makeN T.k_Between F_Between (hr.mono (by first | decide | omega)) rfl T.g_Between b_Between passL (pa_cons (pv 1) (pa_cons (pv 2) pa_nil)) (pk_cons (pv 3) pk_nil)))
    (pss_cons (ps_expr (pe_meth (pv 4) T.c_Between T.m_Between_go_into F_Between_go_into (hr.mono (by first | decide | omega)) b_Between_go_into .nil passX (pa_cons (C8.pe_gc rfl T.v_FIRST) (pa_cons (pv 0) pa_nil))))
    (pss_one (ps_ret (pe_fld (pv 4) rfl)))))), ?_⟩
    refine ⟨_, rfl, _, rfl, B, rfl, hB, fun H1 k1 => ?_⟩
    refine ⟨_, rfl, _, rfl, _, rfl, rfl, rfl, fun x dx hx hdx ne => ?_⟩
    refine ⟨x, dx, B, rfl, upd_same, fun fl wd H2 hfl hwd h1 h2 h3 kp => ⟨rfl, ?_⟩⟩
    have k01 : Keep [] [] H1 (upd (upd H1 dx (.own x)) x (.ins (He.ga K "Between") dx [])) := (Keep.new hdx).put hx
    have k02 : Keep [] [] H1 H2 := kp.keep k01 hx
    have k2 := k1.trans k02
    have hfl0 : H fl = none := k1.dom _ (k01.dom _ hfl)
    have hwd0 : H wd = none := k1.dom _ (k01.dom _ hwd)
    have hs := fit.size
    refine ⟨_, rfl, x, dx, _, rfl, h1, fB_go, _, rfl, ?_⟩
    refine ⟨x, dx, fl, wd, B, [], v, t, [], [], [], ?_, h1, h2, rfl, h3, part_keep k2 _ _ hP, fit, (by decide), (by show 0 + t.size ≤ 1000; omega), (by show 0 + t.size ≤ 1000; omega), fun us' W' H3 n1 n2 n3 n4 n5 n6 => ?_, fun wy d H3 n1 n2 n3 n4 => ?_⟩
    · rfl
    · refine ⟨_, rfl, x, _, dx, _, _, rfl, n6.ins h1, T.c_Between, T.n_Between_found, fB_found, ?_⟩
      exact kq fl us' H3 n1 hfl0 n2 n3 (k2.cut n6 (fun z hz => by rw [List.mem_singleton.mp hz]; exact .inr hfl0) fun z hz => by rw [List.mem_singleton.mp hz]; exact .inr hwd0)
    · exact ke wy d H3 n1 (k2.dom _ n2) n3 (k2.cut n4 (fun z hz => by rw [List.mem_singleton.mp hz]; exact .inr hfl0) fun z hz => by rw [List.mem_singleton.mp hz]; exact .inr hwd0)
/-! ### under a root -/
def spTree (K : PySem.W.Frag) : Sp := fun vs H Q _ => ∃ (v : V) (t : Tr), vs = [v] ∧ PartAt K H t v ∧ Q (.bl true) H
def spNeedTree (K : PySem.W.Frag) : Sp := fun vs H Q _ => ∃ (v : V) (t : Tr), vs = [v] ∧ PartAt K H t v ∧ Q .non H
theorem part_ref {K : PySem.W.Frag} {H : Hp} {t : Tr} {v : V} (h : PartAt K H t v) : v ≠ .non := fun e => by
  subst e
  cases t with
  | stub m =>
    unfold PartAt at h
    obtain ⟨_, _, e, _⟩ := h
    cases e
  | node s x ks =>
    unfold PartAt at h
    obtain ⟨_, _, _, _, e, _⟩ := h
    cases e
theorem sc_is_tree : FnScope ["thing"] ["thing"] (defScope s_is_tree) := ⟨rfl, rfl, rfl, by decide +kernel, rfl, by decide +kernel, by decide +kernel⟩
theorem ok_is_tree (T : Fx w K mg base) : Ok PR w K mg base d_is_tree ["thing"] 1 (spTree K) := by
  refine Ok.mk (N := ["thing"]) T.i_is_tree sc_is_tree (fun vs H Q E h => ?_) (fun _ _ _ _ _ _ us hl => match us, hl with | [_], _ => rfl) (fun cdv A outer s H vs Q E hr h => ?_)
  · obtain ⟨_, _, rfl, _⟩ := h
    rfl
  · obtain ⟨v, t, rfl, hP, k⟩ := h
    refine ⟨_, PSs.nox (pss_one (ps_ret (L2.pe_or (pe_cmpR op_isN (pv 0) pe_non (nomark _)) (pe_one (pe_callB call_isi rfl T.f_isinstance B_isinstance (pa_cons (pv 0) (pa_cons (C8.pe_gc (v := .ref (He.ga K "Part")) rfl ⟨_, T.g_Part, rfl⟩) pa_nil))))))), ?_⟩
    refine ⟨_, rfl, rfl, _, rfl, ?_⟩
    rw [decide_eq_false (part_ref hP)]
    refine iteF ?_
    cases t with
    | stub m =>
      have hP' := hP
      unfold PartAt at hP'
      obtain ⟨q, dq, rfl, hq⟩ := hP'
      exact ⟨_, rfl, _, _, _, _, true, rfl, .own _, T.tyS hq, T.ex2.kSP, k⟩
    | node s x ks =>
      have hP' := hP
      unfold PartAt at hP'
      obtain ⟨q, dq, b, vs', rfl, hq, _⟩ := hP'
      exact ⟨_, rfl, _, _, _, _, true, rfl, .own _, T.tyN hq, T.ex2.kNP, k⟩
theorem sc_need_tree : FnScope ["thing"] ["thing"] (defScope s_need_tree) := ⟨rfl, rfl, rfl, by decide +kernel, rfl, by decide +kernel, by decide +kernel⟩
theorem ok_need_tree (T : Fx w K mg base) : Ok PR w K mg base d_need_tree ["thing"] 2 (spNeedTree K) := by
  obtain ⟨fd1, F_is_tree, b_is_tree, k_is_tree⟩ := ok_is_tree T
  refine Ok.mk (k := 1) (N := ["thing"]) T.i_need_tree sc_need_tree (fun vs H Q E h => ?_) (fun _ _ _ _ _ _ us hl => match us, hl with | [_], _ => rfl) (fun cdv A outer s H vs Q E hr h => ?_)
  · obtain ⟨_, _, rfl, _⟩ := h
    rfl
  · obtain ⟨v, t, rfl, hP, k⟩ := h
    refine ⟨_, (pss_one (ps_if (pt_not (pt_val (pe_call F_is_tree (hr.mono (by first | decide | omega)) rfl T.g_is_tree k_is_tree b_is_tree .nil passL (pa_cons (pv 0) pa_nil))))
      (pss_one (ps_raise rfl (takes_of rfl rfl rfl rfl) (pmk_own PySem.F.excBase_ValueError T.x_BadNode.1 T.g_BadNode T.x_BadNode.2.1 (raises_own T.x_BadNode.2.2.1 T.x_BadNode.2.2.2) rfl)))
      pss_nil)), ?_⟩
    exact ⟨_, rfl, v, t, rfl, hP, _, rfl, iteF k⟩
def spNeedRoot (K : PySem.W.Frag) : Sp := fun vs H Q E => ∃ (v : V) (t : Tr) (f dd : Addr) (M : Known) (n r : Nat), vs = [.int (r : Int), v, .ref f] ∧ PartAt K H t v ∧ Fit 12 t ∧ DigAt H f dd M n ∧ n + t.size < 10 ^ 6 ∧
  (∀ M' H', M.Le M' → t.num M' = some r → Keep [] [dd] H H' → DigAt H' f dd M' (n + t.size) → Q .non H') ∧
  (∀ k M' d H', M.Le M' → t.num M' = some k → k ≠ r → k < 10 ^ 40 → Keep [] [dd] H H' → DigAt H' f dd M' (n + t.size) → H' d = some (.xd [("number", .int (k : Int))]) → E (.ref (He.ga K "NoRoot")) (some d) H')
theorem sc_need_root : FnScope ["root", "tree", "digest", "number"] ["root", "tree", "digest"] (defScope s_need_root) := ⟨rfl, rfl, rfl, by decide +kernel, rfl, by decide +kernel, by decide +kernel⟩
theorem ok_need_root (T : Fx w K mg base) : Ok PR w K mg base d_need_root ["root", "tree", "digest"] 28 (spNeedRoot K) := by
  obtain ⟨fd1, F_need_tree, b_need_tree, k_need_tree⟩ := ok_need_tree T
  obtain ⟨fd2, F_number_of, b_number_of, k_number_of⟩ := ok_numP T 12
  obtain ⟨fd4, F_NoRoot, b_NoRoot, k_NoRoot⟩ := ok_NoRoot T
  refine Ok.mk (k := 27) (N := ["root", "tree", "digest", "number"]) T.i_need_root sc_need_root (fun vs H Q E h => ?_) (fun _ _ _ _ _ _ us hl => match us, hl with | [_, _, _], _ => rfl) (fun cdv A outer s H vs Q E hr h => ?_)
  · obtain ⟨_, _, _, _, _, _, _, rfl, _⟩ := h
    rfl
  · obtain ⟨v, t, f, dd, M, n, r, rfl, hP, fit, D, hn, kq, ke⟩ := h
    refine ⟨_, (pss_cons (ps_expr (pe_call F_need_tree (hr.mono (by first | decide | omega)) rfl T.g_need_tree k_need_tree b_need_tree .nil passL (pa_cons (pv 1) pa_nil)))
    (pss_cons (ps_set (i := 3) sc_need_root.nd rfl (Or.inl rfl) (pe_call F_number_of (hr.mono (by first | decide | omega)) rfl T.g_number_of k_number_of b_number_of .nil passL (pa_cons (pv 1) (pa_cons (pv 2) pa_nil))))
    (pss_one (ps_if (pt_cmpR op_ne (pv 3) (pv 0) (nomark _))
      (pss_one (ps_raise rfl (takes_of rfl rfl rfl rfl) (pmk_oex (oexB_ok T.ex2.oR) (He.eqO_ok (ba2 T.ex2.iR).1) (of_decide_eq_true (ba2 (ba2 T.ex2.iR).2).1) F_NoRoot (hr.mono (by first | decide | omega)) b_NoRoot .nil passL rfl T.g_NoRoot (pa_cons (pv 3) pa_nil))))
      pss_nil)))), ?_⟩
    refine ⟨_, rfl, v, t, rfl, hP, ?_⟩
    refine ⟨_, rfl, _, rfl, v, t, f, dd, M, n, rfl, hP, fit, D, hn, fun k M' H1 m1 m2 m3 m4 m5 => ?_⟩
    refine ⟨_, rfl, _, rfl, rfl, _, rfl, ?_⟩
    by_cases e : k = r
    · subst e
      rw [decide_eq_true rfl]
      exact iteF (kq M' H1 m1 m2 m4 m5)
    · rw [decide_eq_false (fun z => e (by have := V.int.inj z; omega))]
      refine iteT ?_
      refine ⟨_, rfl, by show 1 ≤ 1000; decide, fun a ha => ⟨a, _, rfl, upd_same, fun d hdd hda => ⟨rfl, d, _, upd_same, by rw [upd_ne hda, upd_same], ?_, ?_⟩⟩⟩
      · rw [upd_ne hda] at hdd
        exact hdd
      · rw [upd_ne hda] at hdd
        have kk := oex_keep (C := He.ga K "NoRoot") (f := "number") (v := .int (k : Int)) (L := []) (D := []) ha hdd hda
        exact ke k M' d _ m1 m2 e m3 (m4.trans kk.mono0) (m5.keep0 kk) upd_same
def spTold (K : PySem.W.Frag) : Sp := fun vs H Q E => ∃ (v : V) (t : Tr) (f dd : Addr) (M : Known) (n r : Nat) (B : Bd), vs = [.int (r : Int), v, .ref f, tx B.lo, txO B.hi, moV B.mo] ∧ PartAt K H t v ∧ Fit 12 t ∧ DigAt H f dd M n ∧ n + t.size < 10 ^ 6 ∧ BdOk B ∧
  (∀ l us M' H', M.Le M' → t.num M' = some r → (t.wk B [] []).1 = none → H l = none → H' l = some (.lst us) → PairL H' (t.wk B [] []).2 us → Keep [] [dd] H H' → DigAt H' f dd M' (n + t.size) → Q (.ref l) H') ∧
  (∀ wy d M' H', M.Le M' → t.num M' = some r → (t.wk B [] []).1 = some wy → H' d = some (.xd [("way", tx wy)]) → Keep [] [dd] H H' → DigAt H' f dd M' (n + t.size) → E (.ref (He.ga K "Unseen")) (some d) H') ∧
  (∀ k M' d H', M.Le M' → t.num M' = some k → k ≠ r → k < 10 ^ 40 → Keep [] [dd] H H' → DigAt H' f dd M' (n + t.size) → H' d = some (.xd [("number", .int (k : Int))]) → E (.ref (He.ga K "NoRoot")) (some d) H')
def rot3 {α : Type} : List α → List α
  | [a, b, c] => [c, a, b]
  | l => l
theorem rot3_vals : ∀ {zs : List V} {ws : List Value}, Vals zs ws → Vals (rot3 zs) (rot3 ws)
  | _, _, .nil => .nil
  | _, _, .cons h .nil => .cons h .nil
  | _, _, .cons h (.cons h2 .nil) => .cons h (.cons h2 .nil)
  | _, _, .cons h (.cons h2 (.cons h3 .nil)) => .cons h3 (.cons h (.cons h2 .nil))
  | _, _, .cons h (.cons h2 (.cons h3 (.cons h4 r))) => .cons h (.cons h2 (.cons h3 (.cons h4 r)))
theorem sc_range_told : FnScope ["root", "part", "digest", "low", "high", "most"] ["root", "part", "digest", "low", "high", "most"] (defScope s_range_told) := ⟨rfl, rfl, rfl, by decide +kernel, rfl, by decide +kernel, by decide +kernel⟩
theorem ok_told_range (T : Fx w K mg base) : OkK PR w K mg base d_range_told ["root", "part", "digest", "low", "high", "most"] 3 ["high", "most", "low"] (fun vs zs => vs ++ rot3 zs) 30 (spTold K) := by
  obtain ⟨fd1, F_need_ends, b_need_ends, k_need_ends⟩ := ok_ends T
  obtain ⟨fd2, F_need_root, b_need_root, k_need_root⟩ := ok_need_root T
  obtain ⟨fd3, g3, F_range_of, b_range_of, k_range_of⟩ := ok_range T
  obtain ⟨fd, F⟩ := T.i_range_told
  obtain ⟨mv, KB⟩ := FunD.kbinds0 (ps := ["root", "part", "digest", "low", "high", "most"]) F 3 ["high", "most", "low"] [] (fun us mv ws => us ++ rot3 ws) (by intro z; cases z) (fun q hq => by cases hq) (fun {vs mz zs us mv ws} r1 _ r3 => r1.append (rot3_vals r3))
    fun D doc pm an cdv ct us mv ws h1 h2 h3 => match us, mv, ws, h1, h2, h3 with | [_, _, _], [], [_, _, _], _, _, _ => rfl
  refine ⟨fd, _, FunD.ok (k := 29) (N := ["root", "part", "digest", "low", "high", "most"]) F sc_range_told (fun vs H Q E h => ?_) (fun cdv A outer s H vs Q E hr h => ?_), KB, F.kp⟩
  · obtain ⟨_, _, _, _, _, _, _, _, rfl, _⟩ := h
    rfl
  · obtain ⟨v, t, f, dd, M, n, r, B, rfl, hP, fit, D, hn, hB, kq, ku, kn⟩ := h
    refine ⟨_, (pss_cons (ps_expr (pe_call F_need_ends (hr.mono (by first | decide | omega)) rfl T.g_need_ends k_need_ends b_need_ends .nil passL (pa_cons (pv 3) (pa_cons (pv 4) pa_nil))))
    (pss_cons (ps_expr (pe_call F_need_root (hr.mono (by first | decide | omega)) rfl T.g_need_root k_need_root b_need_root .nil passX (pa_cons (pv 0) (pa_cons (pv 1) (pa_cons (pv 2) pa_nil)))))
    (pss_one (ps_ret (pe_callN F_range_of (hr.mono (by first | decide | omega)) rfl T.g_range_of k_range_of b_range_of passX (pa_cons (pv 1) pa_nil) (pk_cons (pv 3) (pk_cons (pv 4) (pk_cons (pv 5) pk_nil)))))))), ?_⟩
    refine ⟨_, rfl, _, rfl, B, rfl, hB, fun H1 k1 => ?_⟩
    refine ⟨_, rfl, _, rfl, _, rfl, v, t, f, dd, M, n, r, rfl, part_keep k1 _ _ hP, fit, D.keep0 k1, hn, fun M' H2 m1 m2 m3 m4 => ?_, fun k M' d H2 m1 m2 m3 m4 m5 m6 m7 => kn k M' d H2 m1 m2 m3 m4 (k1.mono0.trans m5) m6 m7⟩
    have k2 : Keep [] [dd] H H2 := k1.mono0.trans m3
    refine ⟨_, rfl, _, rfl, _, rfl, _, rfl, rfl, rfl, ?_⟩
    refine ⟨v, t, B, rfl, part_keep k2 _ _ hP, fit, hB, fun l us H3 n1 n2 n3 n4 n5 => ?_, fun wy d H3 n1 n2 n3 n4 => ?_⟩
    · exact kq l us M' H3 m1 m2 n1 (k2.dom _ n2) n3 n4 (k2.trans n5.mono0) (m4.keep0 n5)
    · exact ku wy d M' H3 m1 m2 n1 n3 (k2.trans n4.mono0) (m4.keep0 n4)
end
end Seal
/-! SealD20: the way that lacks. -/
namespace Seal
open PySem PySem.Spec PyProof.Rows L2 SX SealR LamX NdefX
section
variable {w : World} {K : PySem.W.Frag} {mg : Str → Option Value} {base : Heap}
theorem tells_ref {H : Hp} {t : Tr} {v : V} (h : Tells H t v) : v ≠ .non := fun e => by
  subst e
  cases t with
  | stub m =>
    unfold Tells at h
    obtain ⟨_, e, _⟩ := h
    cases e
  | node s x ks =>
    unfold Tells at h
    obtain ⟨_, _, _, e, _⟩ := h
    cases e
/-- a range as the law has it -/
def BdAt (H : Hp) (a : Addr) (B : Bd) : Prop := H a = some (.tup [tx B.lo, txO B.hi, moV B.mo])
def spLack (d : Nat) : Sp := fun vs H Q _ => ∃ (v : V) (t : Tr) (way : Tx) (b fl : Addr) (B : Bd) (f : List (Tx × Tx)) (us : List V), vs = [v, tx way, .ref b, .ref fl] ∧ Tells H t v ∧ Fit d t ∧ BdAt H b B ∧
  H fl = some (.lst us) ∧ PairL H f us ∧ way.length + 20 * d ≤ 1000 ∧ f.length + t.size ≤ 1000 ∧
  (∀ us' H', H' fl = some (.lst us') → PairL H' (t.wk B way f).2 us' → Keep [fl] [] H H' → Q (txO (t.wk B way f).1) H')
theorem sc__law_lack : FnScope ["_law_told_here", "_law_way", "_law_bounds_here", "_law_found", "_law_key_here", "_law_least", "_law_last", "_law_many", "_law_letter", "_law_kid", "_law_lack_here"] ["_law_told_here", "_law_way", "_law_bounds_here", "_law_found"] (defScope s__law_lack) := ⟨rfl, rfl, rfl, by decide +kernel, rfl, by decide +kernel, by decide +kernel⟩
theorem ok_lack (T : Fx w K mg base) : ∀ d, Ok PR w K mg base d__law_lack ["_law_told_here", "_law_way", "_law_bounds_here", "_law_found"] (d + 2) (spLack d)
  | 0 => by
    refine Ok.mk (k := 1) (N := ["_law_told_here", "_law_way", "_law_bounds_here", "_law_found", "_law_key_here", "_law_least", "_law_last", "_law_many", "_law_letter", "_law_kid", "_law_lack_here"]) T.i__law_lack sc__law_lack (fun vs H Q E h => ?_) (fun _ _ _ _ _ _ us hl => match us, hl with | [_, _, _, _], _ => rfl) (fun cdv A outer s H vs Q E hr h => ?_)
    · obtain ⟨_, _, _, _, _, _, _, _, rfl, _⟩ := h
      rfl
    · obtain ⟨_, _, _, _, _, _, _, _, _, _, f, _⟩ := h
      exact f.no.elim
  | d + 1 => by
    obtain ⟨fd1, F__law_lack, b__law_lack, k__law_lack⟩ := ok_lack T d
    obtain ⟨fd2, F__law_could, b__law_could, k__law_could⟩ := ok_could T
    refine Ok.mk (k := d + 2) (N := ["_law_told_here", "_law_way", "_law_bounds_here", "_law_found", "_law_key_here", "_law_least", "_law_last", "_law_many", "_law_letter", "_law_kid", "_law_lack_here"]) T.i__law_lack sc__law_lack (fun vs H Q E h => ?_) (fun _ _ _ _ _ _ us hl => match us, hl with | [_, _, _, _], _ => rfl) (fun cdv A outer s H vs Q E hr h => ?_)
    · obtain ⟨_, _, _, _, _, _, _, _, rfl, _⟩ := h
      rfl
    · obtain ⟨v, t, way, b, fl, B, f, us, rfl, ht, fit, hb, hl, hPL, hway, hfl, k⟩ := h
      have hu := hu_of hr
      have hlen : us.length = f.length := pairL_len hPL
      refine ⟨_, PSs.nox (pss_cons (ps_asg (pv 2) (pg_tup rfl (pgs_cons (pg_name (i := 5) sc__law_lack.nd rfl (Or.inl rfl)) (pgs_cons (pg_name (i := 6) sc__law_lack.nd rfl (Or.inl rfl)) (pgs_cons (pg_name (i := 7) sc__law_lack.nd rfl (Or.inl rfl)) pgs_nil)))))
    (C8.pss_cut (ps_if (PW.pt (pw_or (pt_cmpR op_isN (pv 0) pe_non (nomark _)) (pw_or (PW.pt (pw_and (pt_cmpR op_notN (pv 7) pe_non (nomark _)) (pw_and1 (pt_cmpR op_ge (pe_callB call_len_seq rfl T.f_len B_len (pa_cons (pv 3) pa_nil)) (pv 7) (nomark _))))) (pw_or1 (pt_not (pt_val (pe_call F__law_could (hr.mono (by first | decide | omega)) rfl T.g__law_could k__law_could b__law_could .nil passL (pa_cons (pv 1) (pa_cons (pv 5) (pa_cons (pv 6) pa_nil))))))))))
      (pss_one (ps_ret pe_non))
      pss_nil)
    (pss_cons (ps_if (pt_cmpR op_eq (pe_ix ix_tup (pv 0) pe_int (fun _ _ => rfl)) pe_str (nomark _))
      (pss_one (ps_ret (pv 1)))
      pss_nil)
    (pss_cons (ps_set (i := 4) sc__law_lack.nd rfl (Or.inl rfl) (pe_op op_add_str (pv 1) (pe_ix ix_tup (pv 0) pe_int (fun _ _ => rfl))))
    (C8.pss_cut (ps_if (PW.pt (pw_and (pt_cmpR op_notN (pe_ix ix_tup (pv 0) pe_int (fun _ _ => rfl)) pe_non (nomark _)) (pw_and (pt_cmpR op_le_str (pv 5) (pv 4) (nomark _)) (pw_and1 (PW.pt (pw_or (pt_cmpR op_isN (pv 6) pe_non (nomark _)) (pw_or1 (pt_cmpR op_le_str (pv 4) (pv 6) (nomark _)))))))))
      (pss_one (ps_expr (pe_bm PySem.F.plainAttrs_list PySem.F.slot_list_append PySem.F.type_list_append mt_append (pv 3) (pa_cons (pe_tup (pa_cons (pv 4) (pa_cons (pe_ix ix_tup (pv 0) pe_int (fun _ _ => rfl)) pa_nil))) pa_nil))))
      pss_nil)
    (pss_cons (ps_for PassesOwn.never rfl (pi_tup (pe_ix ix_tup (pv 0) pe_int (fun _ _ => rfl))) (pg_tup rfl (pgs_cons (pg_name (i := 8) sc__law_lack.nd rfl (Or.inl rfl)) (pgs_cons (pg_name (i := 9) sc__law_lack.nd rfl (Or.inl rfl)) pgs_nil)))
      (pss_cons (ps_set (i := 10) sc__law_lack.nd rfl (Or.inl rfl) (pe_call F__law_lack (hr.mono (by first | decide | omega)) rfl T.g__law_lack k__law_lack b__law_lack .nil passL (pa_cons (pv 9) (pa_cons (pe_op op_add_str (pv 4) (pv 8)) (pa_cons (pv 2) (pa_cons (pv 3) pa_nil))))))
      (pss_one (ps_if (pt_cmpR op_notN (pv 10) pe_non (nomark _))
        (pss_one (ps_ret (pv 10)))
        pss_nil))))
    (pss_one (ps_ret pe_non)))))))), ?_⟩
      refine ⟨_, rfl, b, _, rfl, SqT.of hb, rfl, _, _, rfl, _, _, rfl, _, _, rfl, rfl, ?_⟩
      refine ⟨fun σ H' => σ = [some v, some (tx way), some (.ref b), some (.ref fl), none, some (tx B.lo), some (txO B.hi), some (moV B.mo), none, none, none] ∧ H' = H ∧ (B.full f.length || !B.could way) = false, ?_, ?_⟩
      · refine ⟨_, rfl, rfl, _, rfl, ?_⟩
        rw [decide_eq_false (tells_ref ht)]
        refine iteF ?_
        refine ⟨_, rfl, rfl, _, rfl, ?_⟩
        rw [mo_dec]
        have stop : (B.full f.length || !B.could way) = true → Q .non H := fun z => by
          have e : t.wk B way f = (none, f) := wk_no z
          have k := k us H hl (by rw [e]; exact hPL) (Keep.refl H)
          rw [e] at k
          exact k
        cases em : B.mo with
        | none =>
          have e1 : B.full f.length = false := by unfold Bd.full; rw [em]
          refine iteF (iteF ?_)
          refine ⟨_, rfl, _, rfl, _, rfl, B, way, rfl, _, rfl, ?_⟩
          cases e2 : B.could way with
          | false => exact stop (by rw [e2, Bool.not_false, Bool.or_true])
          | true => exact iteF ⟨rfl, rfl, by rw [e1]; rfl⟩
        | some m =>
          have e1 : B.full f.length = decide (m ≤ f.length) := by unfold Bd.full; rw [em]
          refine iteT ?_
          refine ⟨_, rfl, fl, _, rfl, .inl (SqL.of hl), _, rfl, _, _, rfl, rfl, _, rfl, ?_⟩
          have e3 : decide ((m : Int) ≤ (us.length : Int)) = decide (m ≤ f.length) := decide_eq_decide.mpr (by omega)
          by_cases hm : m ≤ f.length
          · rw [decide_eq_true (by omega)]
            exact iteT (stop (by rw [e1, decide_eq_true hm]; rfl))
          · rw [decide_eq_false (by omega)]
            refine iteF ?_
            refine ⟨_, rfl, _, rfl, _, rfl, B, way, rfl, _, rfl, ?_⟩
            cases e2 : B.could way with
            | false => exact stop (by rw [e2, Bool.not_false, Bool.or_true])
            | true => exact iteF ⟨rfl, rfl, by rw [e1, decide_eq_false hm]; rfl⟩
      · rintro σ H1 ⟨rfl, he, hgo⟩
        subst he
        cases t with
        | stub m =>
          have ht' := ht
          unfold Tells at ht'
          obtain ⟨a, rfl, ha⟩ := ht'
          refine ⟨_, rfl, a, _, _, _, rfl, rfl, SqT.of ha, rfl, rfl, _, rfl, ?_⟩
          refine iteT ?_
          have k := k us H1 hl (by rw [wk_stub hgo]; exact hPL) (Keep.refl H1)
          rw [wk_stub hgo] at k
          exact ⟨_, rfl, k⟩
        | node st x ks =>
          have ht' := ht
          unfold Tells at ht'
          obtain ⟨a, c, vs', rfl, ha, hc, hL⟩ := ht'
          rw [wk_node hgo] at k
          have hsz := size_node st x ks
          have hst := fit.stem.2
          refine ⟨_, rfl, a, _, _, _, rfl, rfl, SqT.of ha, rfl, rfl, _, rfl, ?_⟩
          refine iteF ?_
          refine ⟨_, rfl, _, rfl, a, _, _, _, rfl, rfl, SqT.of ha, rfl, S way, S st, rfl, rfl, toSz (by rw [len_S, len_S]; omega), ?_⟩
          rw [S_cat]
          refine ⟨fun σ H' => σ = [some (.ref a), some (tx way), some (.ref b), some (.ref fl), some (tx (way ++ st)), some (tx B.lo), some (txO B.hi), some (moV B.mo), none, none, none] ∧ Keep [fl] [] H1 H' ∧ ∃ us2, H' fl = some (.lst us2) ∧ PairL H' (f ++ B.here x (way ++ st)) us2, ?_, ?_⟩
          · refine ⟨_, rfl, a, _, _, _, rfl, rfl, SqT.of ha, rfl, rfl, _, rfl, ?_⟩
            rw [txO_dec]
            have stay : B.here x (way ++ st) = [] → (([some (V.ref a), some (tx way), some (V.ref b), some (V.ref fl), some (tx (way ++ st)), some (tx B.lo), some (txO B.hi), some (moV B.mo), none, none, none] : L2.St) = [some (.ref a), some (tx way), some (.ref b), some (.ref fl), some (tx (way ++ st)), some (tx B.lo), some (txO B.hi), some (moV B.mo), none, none, none] ∧ Keep [fl] [] H1 H1 ∧ ∃ us2, H1 fl = some (.lst us2) ∧ PairL H1 (f ++ B.here x (way ++ st)) us2) := fun e => by
              rw [e, List.append_nil]
              exact ⟨rfl, Keep.refl H1, us, hl, hPL⟩
            cases x with
            | none => exact iteF (iteF (stay rfl))
            | some l =>
              refine iteT ?_
              refine ⟨_, rfl, _, rfl, S B.lo, S (way ++ st), rfl, rfl, _, rfl, ?_⟩
              rw [le_txt]
              have hasE : B.here (some l) (way ++ st) = if B.has (way ++ st) = true then [(way ++ st, l)] else [] := rfl
              by_cases h1 : way ++ st < B.lo
              · rw [decide_eq_true h1]
                refine iteF (iteF (stay ?_))
                rw [hasE, if_neg]
                unfold Bd.has
                rw [decide_eq_true h1]
                exact Bool.false_ne_true
              · rw [decide_eq_false h1]
                refine iteT ?_
                refine ⟨_, rfl, rfl, _, rfl, ?_⟩
                rw [txO_dec]
                cases eh : B.hi with
                | none =>
                  refine iteT (iteT ?_)
                  have hh : B.has (way ++ st) = true := by
                    unfold Bd.has
                    rw [decide_eq_false h1, eh]
                    rfl
                  refine ⟨_, rfl, .inl ⟨rfl, _, .inl (.inl hl)⟩, _, rfl, _, rfl, a, _, _, _, rfl, rfl, SqT.of ha, rfl, (by show 2 ≤ sizeLine; decide), fun r hr2 => ?_⟩
                  have kr := Keep.new (L := [fl]) (D := []) (o := .tup [tx (way ++ st), txO (some l)]) hr2
                  have kr0 := Keep.new (L := []) (D := []) (o := .tup [tx (way ++ st), txO (some l)]) hr2
                  have hl3 := kr0.lst hl (by simp)
                  have ka : Keep [fl] [] (upd H1 r (.tup [tx (way ++ st), txO (some l)])) (upd (upd H1 r (.tup [tx (way ++ st), txO (some l)])) fl (.lst (us ++ [.ref r]))) := (Keep.refl _).putL hl3 (by simp)
                  refine ⟨fl, us, .ref r, rfl, rfl, hl3, ?_, rfl, kr.trans ka, us ++ [.ref r], upd_same, ?_⟩
                  · rw [hlen]
                    exact Nat.lt_of_le_of_lt (by omega : f.length ≤ 1000) (by decide)
                  · rw [hasE, if_pos hh]
                    exact pairL_app (pairL_keep ka (pairL_keep kr hPL)) ⟨r, [], rfl, ka.tup upd_same, rfl⟩
                | some h =>
                  refine iteF ?_
                  refine ⟨_, rfl, _, rfl, S (way ++ st), S h, rfl, rfl, _, rfl, ?_⟩
                  rw [le_txt]
                  by_cases h2 : h < way ++ st
                  · rw [decide_eq_true h2]
                    have stay2 := stay
                    rw [eh] at stay2
                    refine iteF (stay2 ?_)
                    rw [hasE, if_neg]
                    unfold Bd.has
                    rw [eh]
                    show ¬ (_ && !decide (h < way ++ st)) = true
                    rw [decide_eq_true h2]
                    simp
                  · rw [decide_eq_false h2]
                    refine iteT ?_
                    have hh : B.has (way ++ st) = true := by
                      unfold Bd.has
                      rw [decide_eq_false h1, eh]
                      show (_ && !decide (h < way ++ st)) = true
                      rw [decide_eq_false h2]
                      rfl
                    refine ⟨_, rfl, .inl ⟨rfl, _, .inl (.inl hl)⟩, _, rfl, _, rfl, a, _, _, _, rfl, rfl, SqT.of ha, rfl, (by show 2 ≤ sizeLine; decide), fun r hr2 => ?_⟩
                    have kr := Keep.new (L := [fl]) (D := []) (o := .tup [tx (way ++ st), txO (some l)]) hr2
                    have kr0 := Keep.new (L := []) (D := []) (o := .tup [tx (way ++ st), txO (some l)]) hr2
                    have hl3 := kr0.lst hl (by simp)
                    have ka : Keep [fl] [] (upd H1 r (.tup [tx (way ++ st), txO (some l)])) (upd (upd H1 r (.tup [tx (way ++ st), txO (some l)])) fl (.lst (us ++ [.ref r]))) := (Keep.refl _).putL hl3 (by simp)
                    refine ⟨fl, us, .ref r, rfl, rfl, hl3, ?_, rfl, kr.trans ka, us ++ [.ref r], upd_same, ?_⟩
                    · rw [hlen]
                      exact Nat.lt_of_le_of_lt (by omega : f.length ≤ 1000) (by decide)
                    · rw [hasE, if_pos hh]
                      exact pairL_app (pairL_keep ka (pairL_keep kr hPL)) ⟨r, [], rfl, ka.tup upd_same, rfl⟩
          · rintro σ H3 ⟨rfl, k3, us2, hl3, hPL3⟩
            have wl : (f ++ B.here x (way ++ st)).length ≤ f.length + 1 := by
              rw [List.length_append]
              exact Nat.add_le_add_left (here_len B x _) _
            refine ⟨_, rfl, a, _, _, _, rfl, rfl, SqT.of (k3.tup ha), rfl, c, rfl, ⟨_, SqT.of (k3.tup hc)⟩, ?_⟩
            refine for_it (walk_tup (xs := vs')) (fun i σ H' => ∃ o8 o9 o10 fi us3, σ = [some (.ref a), some (tx way), some (.ref b), some (.ref fl), some (tx (way ++ st)), some (tx B.lo), some (txO B.hi), some (moV B.mo), o8, o9, o10] ∧ Keep [fl] [] H1 H' ∧ H' fl = some (.lst us3) ∧ PairL H' fi us3 ∧
                fi.length ≤ f.length + 1 + sizes (ks.take i) ∧ wks B ks (way ++ st) (f ++ B.here x (way ++ st)) = wks B (ks.drop i) (way ++ st) fi)
              ⟨none, none, none, _, us2, rfl, k3, hl3, hPL3, by rw [List.take_zero]; unfold sizes; omega, by rw [List.drop_zero]⟩ (fun i σ H' _ h => ?_) ?_ ?_
            · obtain ⟨_, _, _, _, _, _, m1, _⟩ := h
              exact m1.sqt (SqT.of hc)
            · rintro i y σ H4 H5 hi ⟨o8, o9, o10, fi, us3, rfl, m1, m2, m3, m6, m7⟩ ⟨rfl, hy⟩
              obtain ⟨cc, t, r, u, ek, rfl, hr2, htt⟩ := tellsL_get hL hy
              have fk := (fit.kid (List.mem_of_getElem? ek)).2
              have e5 : sizes (ks.take (i + 1)) ≤ sizes ks := by
                have q := sizes_app (ks.take (i + 1)) (ks.drop (i + 1))
                rw [List.take_append_drop] at q
                omega
              have e6 : sizes (ks.take (i + 1)) = sizes (ks.take i) + t.size := by rw [take_snoc ek, sizes_snoc]
              have ed : ks.drop i = (cc, t) :: ks.drop (i + 1) := by
                obtain ⟨h1, h2⟩ := List.getElem?_eq_some_iff.mp ek
                rw [List.drop_eq_getElem_cons h1, h2]
              rw [ed] at m7
              refine ⟨r, _, rfl, SqT.of (m1.tup hr2), rfl, _, _, rfl, _, _, rfl, rfl, ?_⟩
              refine ⟨_, rfl, _, rfl, _, rfl, S (way ++ st), S [cc], rfl, rfl, toSz (by rw [len_S, len_S, List.length_append, List.length_singleton]; omega), _, rfl, _, rfl, ?_⟩
              rw [S_cat]
              have hkl : (way ++ st ++ [cc]).length + 20 * d ≤ 1000 := by
                rw [List.length_append, List.length_append, List.length_singleton]
                omega
              refine ⟨u, t, way ++ st ++ [cc], b, fl, B, fi, us3, rfl, tells_keep m1 t u htt, fk, m1.tup hb, m2, m3, hkl, by omega, fun us4 H6 n2 n3 n6 => ?_⟩
              refine ⟨_, rfl, rfl, _, rfl, ?_⟩
              rw [txO_dec]
              have hwl := wk_len B t (way ++ st ++ [cc]) fi
              cases en : (t.wk B (way ++ st ++ [cc]) fi).1 with
              | none =>
                refine iteF ⟨_, _, _, _, us4, rfl, m1.trans n6, n2, n3, by omega, ?_⟩
                rw [m7, wks_cons_none en]
              | some wy =>
                refine iteT ⟨_, rfl, ?_⟩
                rw [wks_cons_some en] at m7
                have k := k us4 H6 n2 (by rw [m7]; exact n3) (m1.trans n6)
                rw [m7] at k
                exact k
            · rintro σ H4 ⟨o8, o9, o10, fi, us3, rfl, m1, m2, m3, m6, m7⟩
              have hlv := tellsL_len hL
              rw [hlv, List.drop_of_length_le (Nat.le_refl _)] at m7
              have m7 : wks B ks (way ++ st) (f ++ B.here x (way ++ st)) = (none, fi) := m7.trans (by unfold wks; rfl)
              have k := k us3 H4 m2 (by rw [m7]; exact m3) m1
              rw [m7] at k
              exact k
end
end Seal
/-! SealD21: bounds drawn, and a content's rows. -/
namespace Seal
open PySem PySem.Spec PyProof.Rows L2 SX SealR LamX NdefX
/-! ### a content sorted -/
/-- a content's pairs, rising -/
structure SortC (C l : List (Tx × Tx)) : Prop where
  perm : l.Perm C
  up : l.Pairwise fun a b => a.1 < b.1
theorem SortC.uniq {C l l' : List (Tx × Tx)} (h : SortC C l) (h' : SortC C l') : l = l' :=
  List.Perm.eq_of_pairwise (le := fun a b => a.1 < b.1) (fun a b _ _ h1 h2 => absurd (List.lt_trans h1 h2) (List.lt_irrefl _)) h.up h'.up (h.perm.trans h'.perm.symm)
theorem rises_S : ∀ {zs : List Tx}, sortedS (zs.map S) = true → zs.Pairwise fun a b => ¬ b < a
  | [], _ => List.Pairwise.nil
  | [a], _ => List.pairwise_singleton _ _
  | a :: b :: r, h => by
    have h : (!ltCps b a && sortedS ((b :: r).map S)) = true := h
    rw [ltCps_eq] at h
    obtain ⟨h1, h2⟩ := Bool.and_eq_true_iff.mp h
    have h1 : ¬ b < a := by simpa using h1
    have ih := rises_S h2
    refine List.Pairwise.cons (fun z hz => ?_) ih
    rcases List.mem_cons.mp hz with e | hz
    · rw [e]
      exact h1
    · exact not_lt_trans h1 (List.rel_of_pairwise_cons ih hz)
theorem perm_S {ys : List Str} {l : List Tx} (h : ys.Perm (l.map S)) : ∃ zs : List Tx, ys = zs.map S ∧ zs.Perm l := by
  refine ⟨ys.map fun y => y.cps.toList, ?_, ?_⟩
  · rw [List.map_map]
    have e : ys.map (S ∘ fun y : Str => y.cps.toList) = ys.map id := List.map_congr_left fun y _ => S_tl y
    rw [e, List.map_id]
  · have h2 := h.map fun y : Str => y.cps.toList
    rw [List.map_map] at h2
    have e : l.map ((fun y : Str => y.cps.toList) ∘ S) = l.map id := List.map_congr_left fun y _ => rfl
    rw [e, List.map_id] at h2
    exact h2
def getC (C : List (Tx × Tx)) (k : Tx) : Tx := (lookC C k).getD []
theorem sortC_of {C : List (Tx × Tx)} (nd : (C.map (·.1)).Nodup) {zs : List Tx} (hp : zs.Perm (C.map (·.1))) (hs : zs.Pairwise fun a b => ¬ b < a) : SortC C (zs.map fun k => (k, getC C k)) := by
  have e1 : (C.map (·.1)).map (fun k => (k, getC C k)) = C := by
    rw [List.map_map]
    conv => rhs; rw [← List.map_id C]
    refine List.map_congr_left fun p hp => ?_
    show (p.1, getC C p.1) = p
    unfold getC
    rw [lookC_mem (v := p.2) nd hp]
    rfl
  refine ⟨?_, ?_⟩
  · have h2 := hp.map fun k => (k, getC C k)
    rw [e1] at h2
    exact h2
  · rw [List.pairwise_map]
    have hn : zs.Nodup := hp.symm.nodup nd
    refine (hs.and hn).imp fun {a b} h => ?_
    show a < b
    apply Classical.byContradiction
    intro z
    exact h.2 (tri z h.1)
section
variable {w : World} {K : PySem.W.Frag} {mg : Str → Option Value} {base : Heap}
/-! ### a bound -/
def spBound : Sp := fun vs H Q _ => ∃ (st ce nr d : Addr) (cs : List Nat) (C : List (Tx × Tx)), vs = [.ref st, .ref nr, .ref d] ∧ StateAt H st ce ∧ NearAt H nr cs ∧ ContAt H d C ∧ C.length ≤ 46 ∧
  ∀ l H', IsKey l → Keep [st, ce] [] H H' → StateAt H' st ce → Q (tx l) H'
theorem freshS {H : Hp} {st ce D : Addr} (S0 : StateAt H st ce) (hD : H D = none) : D ∉ [st, ce] := fun hm => by
  obtain ⟨xs, e1⟩ := S0.some1
  obtain ⟨ys, e2⟩ := S0.some2
  rcases List.mem_cons.mp hm with e | hm
  · rw [e, e1] at hD
    cases hD
  · rw [List.mem_singleton.mp hm, e2] at hD
    cases hD
theorem sc__law_bound : FnScope ["_law_state", "_law_near", "_law_content_here", "_law_way", "_law_key_here"] ["_law_state", "_law_near", "_law_content_here"] (defScope s__law_bound) := ⟨rfl, rfl, rfl, by decide +kernel, rfl, by decide +kernel, by decide +kernel⟩
theorem ok_bound (T : Fx w K mg base) : Ok PR w K mg base d__law_bound ["_law_state", "_law_near", "_law_content_here"] 3 spBound := by
  obtain ⟨fd__law_draw, F__law_draw, b__law_draw, k__law_draw⟩ := ok_draw T
  obtain ⟨fd__law_key, F__law_key, b__law_key, k__law_key⟩ := ok_key T
  refine Ok.mk (k := 2) (N := ["_law_state", "_law_near", "_law_content_here", "_law_way", "_law_key_here"]) T.i__law_bound sc__law_bound (fun vs H Q E h => ?_) (fun _ _ _ _ _ _ us hl => match us, hl with | [_, _, _], _ => rfl) (fun cdv A outer s H vs Q E hr h => ?_)
  · obtain ⟨_, _, _, _, _, _, rfl, _⟩ := h
    rfl
  · obtain ⟨st, ce, nr, d, cs, C, rfl, S0, N0, hC, hCl, k⟩ := h
    have hu := hu_of hr
    have nn := N0.ne S0
    refine ⟨_, PSs.nox (pss_cons (ps_set (i := 3) sc__law_bound.nd rfl (Or.inl rfl) (pe_call F__law_draw (hr.mono (by first | decide | omega)) rfl T.g__law_draw k__law_draw b__law_draw .nil passL (pa_cons (pv 0) (pa_cons pe_int pa_nil))))
    (C8.pss_cut (ps_if (PW.pt (pw_or (pt_cmpR (SealR.op_eqNo hr.units0) (pv 2) pe_dnewK (nomark _)) (pw_or1 (pt_cmpR op_eq (pv 3) pe_int (nomark _)))))
      (pss_one (ps_ret (pe_call F__law_key (hr.mono (by first | decide | omega)) rfl T.g__law_key k__law_key b__law_key .nil passL (pa_cons (pv 0) (pa_cons (pv 1) pa_nil)))))
      pss_nil)
    (pss_cons (ps_set (i := 4) sc__law_bound.nd rfl (Or.inl rfl) (pe_ix ix_list (pe_callB (call_sortedD rfl) rfl T.f_sorted B_sorted (pa_cons (pv 2) pa_nil)) (pe_call F__law_draw (hr.mono (by first | decide | omega)) rfl T.g__law_draw k__law_draw b__law_draw .nil passL (pa_cons (pv 0) (pa_cons (pe_callB call_lenD rfl T.f_len B_len (pa_cons (pv 2) pa_nil)) pa_nil))) (fun _ _ => rfl)))
    (pss_cons (ps_if (pt_cmpR op_eq (pv 3) pe_int (nomark _))
      (pss_one (ps_ret (pv 4)))
      pss_nil)
    (pss_cons (ps_if (pt_cmpR op_eq (pv 3) pe_int (nomark _))
      (pss_one (ps_ret (pe_slice sl_str (pv 4) po_none (po_some (pe_call F__law_draw (hr.mono (by first | decide | omega)) rfl T.g__law_draw k__law_draw b__law_draw .nil passL (pa_cons (pv 0) (pa_cons (pe_op op_add (pe_callB call_len_str rfl T.f_len B_len (pa_cons (pv 4) pa_nil)) pe_int) pa_nil)))))))
      pss_nil)
    (pss_one (ps_ret (pe_slice sl_str (pe_op op_add_str (pv 4) (pe_call F__law_key (hr.mono (by first | decide | omega)) rfl T.g__law_key k__law_key b__law_key .nil passL (pa_cons (pv 0) (pa_cons (pv 1) pa_nil)))) po_none (po_some pe_int))))))))), ?_⟩
    refine ⟨_, rfl, st, ce, 4, rfl, S0, by decide, by decide, fun wy H1 hwy k1 S1 => ?_⟩
    have C1 := hC.keep k1 (by simp)
    have N1 := N0.keep k1 nn
    refine ⟨fun σ H' => σ = [some (.ref st), some (.ref nr), some (.ref d), some (.int (wy : Int)), none] ∧ Keep [] [] H1 H' ∧ C ≠ [], ?_, ?_⟩
    · refine ⟨_, rfl, fun q hq => ⟨d, q, kvT tx C, rfl, rfl, (Keep.new (L := []) (D := []) (o := .dK []) hq).dic C1.at_ (by simp), upd_same, _, rfl, ?_⟩⟩
      have kq : Keep [] [] H1 (upd H1 q (.dK [])) := Keep.new hq
      have early : ∀ H2, Keep [] [] H1 H2 → ∃ v, ([some (V.ref st), some (V.ref nr), some (V.ref d), some (V.int (wy : Int)), none] : L2.St)[0]? = some (some v) ∧ ∃ v2, ([some (V.ref st), some (V.ref nr), some (V.ref d), some (V.int (wy : Int)), none] : L2.St)[1]? = some (some v2) ∧ spKey [v, v2] H2 Q E := fun H2 k2 =>
        ⟨_, rfl, _, rfl, st, ce, nr, cs, rfl, S1.keep0 k2, N1.keep k2 (by simp), fun l H3 hl k3 S3 => k l H3 hl ((k1.trans (k2.mono0 (L := [st, ce]) (D := []))).trans k3) S3⟩
      cases C with
      | nil => exact iteT (early _ kq)
      | cons p r =>
        refine iteF ?_
        refine ⟨_, rfl, rfl, _, rfl, ?_⟩
        refine ite2 (fun _ => early _ kq) (fun _ => ⟨rfl, kq, by intro z; cases z⟩)
    · rintro σ H2 ⟨rfl, k2, hne⟩
      have C2 := C1.keep k2 (by simp)
      have S2 := S1.keep0 k2
      have N2 := N1.keep k2 (by simp)
      have k02 := k1.trans (k2.mono0 (L := [st, ce]) (D := []))
      refine ⟨_, rfl, d, kvT tx C, C.map (fun p => S p.1), rfl, .inl C2.at_, kvT_keys tx C, (by rw [List.length_map]; omega), fun ys sp hys hso hsp => ?_⟩
      have ks : Keep [] [] H2 (upd H2 sp (.lst (ys.map V.str))) := Keep.new hsp
      have hm : (C.map fun p => S p.1) = (C.map (·.1)).map S := by rw [List.map_map]; rfl
      rw [hm] at hys
      obtain ⟨zs, rfl, hzs⟩ := perm_S hys
      have hzl : zs.length = C.length := by rw [hzs.length_eq, List.length_map]
      have nsp := freshS S2 hsp
      have hpos : 0 < C.length := List.length_pos_iff.mpr hne
      refine ⟨_, rfl, _, rfl, d, _, rfl, ks.dic C2.at_ (by simp), st, ce, C.length, (by rw [kvT_len]; rfl), S2.keep0 ks, hpos, Nat.lt_of_le_of_lt hCl (by decide), fun i H3 hi k3 S3 => ?_⟩
      have hil : i < zs.length := by omega
      have hzk : IsKey zs[i] := by
        have : zs[i] ∈ C.map (·.1) := hzs.subset (List.getElem_mem hil)
        obtain ⟨p, hp, e⟩ := List.mem_map.mp this
        rw [← e]
        exact (hC.key p hp).1
      have hget : ((zs.map S).map V.str)[i]? = some (tx zs[i]) := by
        rw [List.getElem?_map, List.getElem?_map, List.getElem?_eq_getElem hil]
        rfl
      refine ⟨sp, _, _, _, rfl, rfl, SqL.of (k3.lst upd_same nsp), atI_nat hget, ?_⟩
      have k03 := (k02.trans (ks.mono0 (L := [st, ce]) (D := []))).trans k3
      have N3 := (N2.keep ks (by simp)).keep k3 nn
      refine ⟨_, rfl, rfl, _, rfl, ?_⟩
      refine ite2 (fun _ => ⟨_, rfl, k _ H3 hzk k03 S3⟩) (fun _ => ?_)
      refine ⟨_, rfl, rfl, _, rfl, ?_⟩
      refine ite2 (fun _ => ?_) (fun _ => ?_)
      · refine ⟨_, rfl, _, rfl, _, rfl, _, rfl, toSzS (Nat.le_trans hzk.1 (by decide)), _, _, rfl, rfl, st, ce, zs[i].length + 1, (by rw [len_S]; rfl), S3, Nat.succ_pos _, Nat.lt_of_le_of_lt (Nat.succ_le_succ hzk.1) (by decide), fun y H4 hy k4 S4 => ?_⟩
        refine ⟨(y : Int), rfl, S zs[i], rfl, toSzS (Nat.le_trans hzk.1 (by decide)), ?_⟩
        rw [slice_to2]
        exact k _ H4 ⟨by rw [List.length_take]; exact Nat.le_trans (Nat.min_le_right _ _) hzk.1, fun z hz => hzk.2 z (List.mem_of_mem_take hz)⟩ (k03.trans k4) S4
      · refine ⟨_, rfl, _, rfl, _, rfl, st, ce, nr, cs, rfl, S3, N3, fun l H4 hl k4 S4 => ?_⟩
        refine ⟨S zs[i], S l, rfl, rfl, toSz (by rw [len_S, len_S]; exact Nat.le_trans (Nat.add_le_add hzk.1 hl.1) (by decide)), 8, rfl, _, rfl, (by rw [S_cat]; exact toSzS (by rw [List.length_append]; exact Nat.le_trans (Nat.add_le_add hzk.1 hl.1) (by decide))), ?_⟩
        have e8 : cutS (S zs[i] ++ S l) none (some 8) = S ((zs[i] ++ l).take 8) := by
          rw [S_cat]
          exact slice_to2 _ 8
        rw [e8]
        exact k _ H4 ⟨by rw [List.length_take]; omega, fun z hz => (hzk.2.app hl.2) z (List.mem_of_mem_take hz)⟩ (k03.trans k4) S4
end
end Seal
/-! SealD22: bounds, rows. -/
namespace Seal
open PySem PySem.Spec PyProof.Rows L2 SX SealR LamX NdefX
theorem cutV_to (xs : List V) (m : Nat) : cutV xs none (some (m : Int)) = xs.take m := by
  unfold cutV
  rw [HT.sIx_none, HT.sIx_nat, List.drop_zero, Nat.sub_zero]
  rcases Nat.le_total m xs.length with h | h
  · rw [Nat.min_eq_left h]
  · rw [Nat.min_eq_right h, List.take_of_length_le (Nat.le_refl _), List.take_of_length_le h]
theorem cutV_from (xs : List V) (m : Nat) : cutV xs (some (m : Int)) none = xs.drop m := by
  unfold cutV
  rw [HT.sIx_none, HT.sIx_nat]
  rcases Nat.le_total m xs.length with h | h
  · rw [Nat.min_eq_left h]
    exact List.take_of_length_le (by rw [List.length_drop]; exact Nat.le_refl _)
  · rw [Nat.min_eq_right h, List.drop_of_length_le h, List.drop_of_length_le (Nat.le_refl _)]
    simp
theorem pairL_take {H : Hp} : ∀ {r us} (m : Nat), PairL H r us → PairL H (r.take m) (us.take m)
  | [], _, m, h => by
    have h : _ = [] := h
    subst h
    simp [PairL]
  | (c, n) :: r, _, 0, _ => rfl
  | (c, n) :: r, _, m + 1, ⟨a, q, e, h1, h2⟩ => by
    subst e
    exact ⟨a, _, rfl, h1, pairL_take m h2⟩
section
variable {w : World} {K : PySem.W.Frag} {mg : Str → Option Value} {base : Heap}
def spBounds : Sp := fun vs H Q _ => ∃ (st ce nr d : Addr) (cs : List Nat) (C : List (Tx × Tx)), vs = [.ref st, .ref nr, .ref d] ∧ StateAt H st ce ∧ NearAt H nr cs ∧ ContAt H d C ∧ C.length ≤ 46 ∧
  ∀ b B H', BdAt H' b B → BdOk B → (∀ m, B.mo = some m → m ≤ 60) → Keep [st, ce] [] H H' → StateAt H' st ce → Q (.ref b) H'
theorem sc__law_bounds : FnScope ["_law_state", "_law_near", "_law_content_here", "_law_least", "_law_last", "_law_many"] ["_law_state", "_law_near", "_law_content_here"] (defScope s__law_bounds) := ⟨rfl, rfl, rfl, by decide +kernel, rfl, by decide +kernel, by decide +kernel⟩
theorem ok_bounds (T : Fx w K mg base) : Ok PR w K mg base d__law_bounds ["_law_state", "_law_near", "_law_content_here"] 4 spBounds := by
  obtain ⟨fd__law_draw, F__law_draw, b__law_draw, k__law_draw⟩ := ok_draw T
  obtain ⟨fd__law_bound, F__law_bound, b__law_bound, k__law_bound⟩ := ok_bound T
  refine Ok.mk (k := 3) (N := ["_law_state", "_law_near", "_law_content_here", "_law_least", "_law_last", "_law_many"]) T.i__law_bounds sc__law_bounds (fun vs H Q E h => ?_) (fun _ _ _ _ _ _ us hl => match us, hl with | [_, _, _], _ => rfl) (fun cdv A outer s H vs Q E hr h => ?_)
  · obtain ⟨_, _, _, _, _, _, rfl, _⟩ := h
    rfl
  · obtain ⟨st, ce, nr, d, cs, C, rfl, S0, N0, hC, hCl, k⟩ := h
    have nn := N0.ne S0
    refine ⟨_, PSs.nox (C8.pss_cut (ps_set (i := 3) sc__law_bounds.nd rfl (Or.inl rfl) (pe_ifExp (pt_cmpR op_eq (pe_call F__law_draw (hr.mono (by first | decide | omega)) rfl T.g__law_draw k__law_draw b__law_draw .nil passL (pa_cons (pv 0) (pa_cons pe_int pa_nil))) pe_int (nomark _)) pe_str (pe_call F__law_bound (hr.mono (by first | decide | omega)) rfl T.g__law_bound k__law_bound b__law_bound .nil passL (pa_cons (pv 0) (pa_cons (pv 1) (pa_cons (pv 2) pa_nil))))))
    (C8.pss_cut (ps_set (i := 4) sc__law_bounds.nd rfl (Or.inl rfl) (pe_ifExp (pt_cmpR op_eq (pe_call F__law_draw (hr.mono (by first | decide | omega)) rfl T.g__law_draw k__law_draw b__law_draw .nil passL (pa_cons (pv 0) (pa_cons pe_int pa_nil))) pe_int (nomark _)) pe_non (pe_call F__law_bound (hr.mono (by first | decide | omega)) rfl T.g__law_bound k__law_bound b__law_bound .nil passL (pa_cons (pv 0) (pa_cons (pv 1) (pa_cons (pv 2) pa_nil))))))
    (pss_cons (ps_set (i := 5) sc__law_bounds.nd rfl (Or.inl rfl) (pe_ix ix_list (pe_lst (pa_cons pe_non (pa_cons pe_non (pa_cons pe_int (pa_cons pe_int (pa_cons pe_int (pa_cons pe_int (pa_cons (pe_call F__law_draw (hr.mono (by first | decide | omega)) rfl T.g__law_draw k__law_draw b__law_draw .nil passL (pa_cons (pv 0) (pa_cons pe_int pa_nil))) (pa_cons pe_int pa_nil))))))))) (pe_call F__law_draw (hr.mono (by first | decide | omega)) rfl T.g__law_draw k__law_draw b__law_draw .nil passL (pa_cons (pv 0) (pa_cons pe_int pa_nil))) (fun _ _ => rfl)))
    (pss_one (ps_ret (pe_tup (pa_cons (pv 3) (pa_cons (pv 4) (pa_cons (pv 5) pa_nil))))))))), ?_⟩
    refine ⟨fun σ H' => ∃ lo, σ = [some (.ref st), some (.ref nr), some (.ref d), some (tx lo), none, none] ∧ IsKey lo ∧ Keep [st, ce] [] H H' ∧ StateAt H' st ce, ?_, ?_⟩
    · refine ⟨_, rfl, st, ce, 3, rfl, S0, by decide, by decide, fun j H1 hj k1 S1 => ⟨rfl, _, rfl, ?_⟩⟩
      refine ite2 (fun _ => ?_) (fun _ => ?_)
      · refine ⟨[], ?_, isKey_nil, k1, S1⟩
        show [some (V.ref st), some (V.ref nr), some (V.ref d), some (V.str ("" : Str)), none, none] = _
        rw [L_nil]
      · refine ⟨_, rfl, _, rfl, _, rfl, st, ce, nr, d, cs, C, rfl, S1, N0.keep k1 nn, hC.keep k1 (by simp), hCl, fun l H2 hl k2 S2 => ?_⟩
        exact ⟨l, rfl, hl, k1.trans k2, S2⟩
    · rintro σ H1 ⟨lo, rfl, hlo, k1, S1⟩
      have N1 := N0.keep k1 nn
      have C1 := hC.keep k1 (by simp)
      refine ⟨fun σ H' => ∃ hi, σ = [some (.ref st), some (.ref nr), some (.ref d), some (tx lo), some (txO hi), none] ∧ (∀ h, hi = some h → IsKey h) ∧ Keep [st, ce] [] H H' ∧ StateAt H' st ce, ?_, ?_⟩
      · refine ⟨_, rfl, st, ce, 3, rfl, S1, by decide, by decide, fun j H2 hj k2 S2 => ⟨rfl, _, rfl, ?_⟩⟩
        refine ite2 (fun _ => ?_) (fun _ => ?_)
        · exact ⟨none, rfl, (fun h e => nomatch e), k1.trans k2, S2⟩
        · refine ⟨_, rfl, _, rfl, _, rfl, st, ce, nr, d, cs, C, rfl, S2, N1.keep k2 nn, C1.keep k2 (by simp), hCl, fun l H3 hl k3 S3 => ?_⟩
          exact ⟨some l, rfl, (fun h e => by cases e; exact hl), (k1.trans k2).trans k3, S3⟩
      · rintro σ H2 ⟨hi, rfl, hhi, k2, S2⟩
        refine ⟨_, rfl, st, ce, 21, rfl, S2, by decide, by decide, fun j H3 hj k3 S3 => ?_⟩
        refine ⟨by show 8 ≤ sizeLine; decide, fun p hp => ?_⟩
        have kp : Keep [] [] H3 (upd H3 p (.lst [.non, .non, .int 0, .int 1, .int 2, .int 3, .int (j : Int), .int 60])) := Keep.new hp
        have npS := freshS S3 hp
        refine ⟨_, rfl, st, ce, 8, rfl, S3.keep0 kp, by decide, by decide, fun i H4 hi9 k4 S4 => ?_⟩
        have hm : ∃ mo : Option Nat, ([V.non, .non, .int 0, .int 1, .int 2, .int 3, .int (j : Int), .int 60] : List V)[i]? = some (moV mo) ∧ ∀ m, mo = some m → m ≤ 60 := by
          have hi8 : i = 0 ∨ i = 1 ∨ i = 2 ∨ i = 3 ∨ i = 4 ∨ i = 5 ∨ i = 6 ∨ i = 7 := by omega
          rcases hi8 with rfl | rfl | rfl | rfl | rfl | rfl | rfl | rfl
          · exact ⟨none, rfl, fun m e => nomatch e⟩
          · exact ⟨none, rfl, fun m e => nomatch e⟩
          · exact ⟨some 0, rfl, fun m e => by cases e; decide⟩
          · exact ⟨some 1, rfl, fun m e => by cases e; decide⟩
          · exact ⟨some 2, rfl, fun m e => by cases e; decide⟩
          · exact ⟨some 3, rfl, fun m e => by cases e; decide⟩
          · exact ⟨some j, rfl, fun m e => by cases e; omega⟩
          · exact ⟨some 60, rfl, fun m e => by cases e; decide⟩
        obtain ⟨mo, em, hm⟩ := hm
        refine ⟨p, _, _, _, rfl, rfl, SqL.of (k4.lst upd_same npS), atI_nat em, ?_⟩
        refine ⟨_, rfl, _, rfl, _, rfl, by show 3 ≤ sizeLine; decide, fun b hb => ?_⟩
        have kb := Keep.new (L := []) (D := []) (o := .tup [tx lo, txO hi, moV mo]) hb
        exact k b ⟨lo, hi, mo⟩ _ upd_same ⟨hlo, hhi⟩ hm ((((k2.trans k3).trans kp.mono0).trans k4).trans kb.mono0) (S4.keep0 kb)
/-! ### rows -/
def spRows : Sp := fun vs H Q _ => ∃ (d : Addr) (B : Bd) (C : List (Tx × Tx)), vs = [.ref d, tx B.lo, txO B.hi, moV B.mo] ∧ ContAt H d C ∧ C.length ≤ 46 ∧
  ∀ l us srt H', SortC C srt → H' l = some (.lst us) → PairL H' (B.rows srt) us → H l = none → Keep [] [] H H' → Q (.ref l) H'
theorem sc__law_rows : FnScope ["_law_content_here", "_law_least", "_law_last", "_law_many", "_law_rows_here", "_law_key_here"] ["_law_content_here", "_law_least", "_law_last", "_law_many"] (defScope s__law_rows) := ⟨rfl, rfl, rfl, by decide +kernel, rfl, by decide +kernel, by decide +kernel⟩
theorem ok_rows (T : Fx w K mg base) : Ok PR w K mg base d__law_rows ["_law_content_here", "_law_least", "_law_last", "_law_many"] 2 spRows := by
  refine Ok.mk (k := 1) (N := ["_law_content_here", "_law_least", "_law_last", "_law_many", "_law_rows_here", "_law_key_here"]) T.i__law_rows sc__law_rows (fun vs H Q E h => ?_) (fun _ _ _ _ _ _ us hl => match us, hl with | [_, _, _, _], _ => rfl) (fun cdv A outer s H vs Q E hr h => ?_)
  · obtain ⟨_, _, _, rfl, _⟩ := h
    rfl
  · obtain ⟨d, B, C, rfl, hC, hCl, k⟩ := h
    have hu := hu_of hr
    refine ⟨_, PSs.nox (pss_cons (ps_setLc (i := 4) (own := [("_law_key_here", 5)]) (g := gName 5) rfl sc__law_rows.nd rfl rfl (sw_true rfl rfl rfl (by decide +kernel)) (pi_list (pe_callB (call_sortedD rfl) rfl T.f_sorted B_sorted (pa_cons (pv 0) pa_nil))) (blkOk_by (N := ["_law_content_here", "_law_least", "_law_last", "_law_many", "_law_rows_here", "_law_key_here"]) (sc := defScope s__law_rows) (own := [("_law_key_here", 5)]) (by decide +kernel)) (fun _ _ _ _ _ => (pg_name (i := 5) sc__law_rows.nd rfl (Or.inl rfl))) (fun _ _ _ _ _ => pts_one (PW.pt (pw_and (pt_cmpR op_le_str (pv 1) (pv 5) (nomark _)) (pw_and1 (PW.pt (pw_or (pt_cmpR op_isN (pv 2) pe_non (nomark _)) (pw_or1 (pt_cmpR op_le_str (pv 5) (pv 2) (nomark _))))))))) (fun _ _ _ _ _ => (pe_tup (pa_cons (pv 5) (pa_cons (pe_dget hu (pv 0) (pv 5) (fun _ _ => rfl)) pa_nil)))))
    (pss_one (ps_ret (pe_ifExp (pt_cmpR op_isN (pv 3) pe_non (nomark _)) (pv 4) (pe_slice sl_list (pv 4) po_none (po_some (pv 3))))))), ?_⟩
    refine ⟨_, rfl, d, kvT tx C, C.map (fun p => S p.1), rfl, .inl hC.at_, kvT_keys tx C, (by rw [List.length_map]; omega), fun ys sp hys hso hsp => ?_⟩
    have ks : Keep [] [] H (upd H sp (.lst (ys.map V.str))) := Keep.new hsp
    have hm : (C.map fun p => S p.1) = (C.map (·.1)).map S := by rw [List.map_map]; rfl
    rw [hm] at hys
    obtain ⟨zs, rfl, hzs⟩ := perm_S hys
    have hzl : zs.length = C.length := by rw [hzs.length_eq, List.length_map]
    have srt := sortC_of hC.nd hzs (rises_S hso)
    refine ⟨sp, rfl, ⟨_, SqL.of upd_same⟩, fun D hD => ?_⟩
    have hlen : ((zs.map S).map V.str).length = zs.length := by rw [List.length_map, List.length_map]
    refine lc_it (walk_list (xs := (zs.map S).map V.str)) (fun i H' => Keep [] [] (upd H sp (.lst ((zs.map S).map V.str))) H' ∧ ∃ us, H' D = some (.lst us) ∧ PairL H' (((zs.map fun k => (k, getC C k)).take i).filter fun p => B.has p.1) us)
      ⟨Keep.new hD, [], upd_same, by rw [List.take_zero]; rfl⟩ (fun i H' _ h => SqL.of (h.1.lst upd_same (by simp))) ?_ ?_
    · rintro i y H1 H2 hi ⟨k1, us, hl, hP⟩ ⟨rfl, hy⟩
      rw [hlen] at hi
      rw [List.getElem?_map, List.getElem?_map, List.getElem?_eq_getElem hi] at hy
      cases hy
      have hC1 := (hC.keep ks (by simp)).keep k1 (by simp)
      have hzm : zs[i] ∈ C.map (·.1) := hzs.subset (List.getElem_mem hi)
      have hlook : lookC C zs[i] = some (getC C zs[i]) := by
        obtain ⟨p, hp, e⟩ := List.mem_map.mp hzm
        unfold getC
        rw [← e, lookC_mem (v := p.2) hC.nd hp]
        rfl
      have hget : (zs.map fun k => (k, getC C k))[i]? = some (zs[i], getC C zs[i]) := by rw [List.getElem?_map, List.getElem?_eq_getElem hi]; rfl
      have hul : us.length ≤ 46 := by
        have := pairL_len hP
        have h1 := List.length_filter_le (fun p : Tx × Tx => B.has p.1) ((zs.map fun k => (k, getC C k)).take i)
        rw [List.length_take, List.length_map] at h1
        omega
      have no : B.has zs[i] = false → Keep [] [] (upd H sp (.lst ((zs.map S).map V.str))) H2 ∧ ∃ us, H2 D = some (.lst us) ∧ PairL H2 (((zs.map fun k => (k, getC C k)).take (i + 1)).filter fun p => B.has p.1) us := fun e => by
        refine ⟨k1, us, hl, ?_⟩
        rw [take_snoc hget, List.filter_append, List.filter_cons_of_neg (by show ¬ B.has zs[i] = true; rw [e]; exact Bool.false_ne_true), List.filter_nil, List.append_nil]
        exact hP
      refine ⟨rfl, ?_⟩
      refine ⟨_, rfl, _, rfl, S B.lo, S zs[i], rfl, rfl, _, rfl, ?_⟩
      rw [le_txt]
      by_cases h1 : zs[i] < B.lo
      · rw [decide_eq_true h1]
        refine iteF (iteF (no ?_))
        unfold Bd.has
        rw [decide_eq_true h1]
        rfl
      · rw [decide_eq_false h1]
        refine iteT ?_
        refine ⟨_, rfl, rfl, _, rfl, ?_⟩
        rw [txO_dec]
        cases eh : B.hi with
        | none =>
          refine iteT (iteT ?_)
          have hh : B.has zs[i] = true := by
            unfold Bd.has
            rw [decide_eq_false h1, eh]
            rfl
          refine ⟨_, rfl, _, rfl, _, rfl, d, tx (getC C zs[i]), rfl, ?_, (by show 2 ≤ sizeLine; decide), fun r hr2 => ?_⟩
          · have g := DGet.k (k := Sum.inr (S zs[i])) hC1.at_
            rw [valV_kvT, hlook] at g
            exact g
          · have kr0 := Keep.new (L := []) (D := []) (o := .tup [tx zs[i], tx (getC C zs[i])]) hr2
            have hl3 := kr0.lst hl (by simp)
            refine ⟨us, hl3, Nat.lt_of_le_of_lt hul (by decide), (k1.trans kr0).put hD, us ++ [.ref r], upd_same, ?_⟩
            have ka : Keep [D] [] (upd H2 r (.tup [tx zs[i], tx (getC C zs[i])])) (upd (upd H2 r (.tup [tx zs[i], tx (getC C zs[i])])) D (.lst (us ++ [.ref r]))) := (Keep.refl _).putL hl3 (by simp)
            rw [take_snoc hget, List.filter_append, List.filter_cons_of_pos (by exact hh), List.filter_nil]
            exact pairL_app (pairL_keep (kr0.mono0.trans ka) hP) ⟨r, [], rfl, ka.tup upd_same, rfl⟩
        | some h =>
          refine iteF ?_
          refine ⟨_, rfl, _, rfl, S zs[i], S h, rfl, rfl, _, rfl, ?_⟩
          rw [le_txt]
          by_cases h2 : h < zs[i]
          · rw [decide_eq_true h2]
            refine iteF (no ?_)
            unfold Bd.has
            rw [eh]
            show (_ && !decide (h < zs[i])) = false
            rw [decide_eq_true h2]
            simp
          · rw [decide_eq_false h2]
            refine iteT ?_
            have hh : B.has zs[i] = true := by
              unfold Bd.has
              rw [decide_eq_false h1, eh]
              show (_ && !decide (h < zs[i])) = true
              rw [decide_eq_false h2]
              rfl
            refine ⟨_, rfl, _, rfl, _, rfl, d, tx (getC C zs[i]), rfl, ?_, (by show 2 ≤ sizeLine; decide), fun r hr2 => ?_⟩
            · have g := DGet.k (k := Sum.inr (S zs[i])) hC1.at_
              rw [valV_kvT, hlook] at g
              exact g
            · have kr0 := Keep.new (L := []) (D := []) (o := .tup [tx zs[i], tx (getC C zs[i])]) hr2
              have hl3 := kr0.lst hl (by simp)
              refine ⟨us, hl3, Nat.lt_of_le_of_lt hul (by decide), (k1.trans kr0).put hD, us ++ [.ref r], upd_same, ?_⟩
              have ka : Keep [D] [] (upd H2 r (.tup [tx zs[i], tx (getC C zs[i])])) (upd (upd H2 r (.tup [tx zs[i], tx (getC C zs[i])])) D (.lst (us ++ [.ref r]))) := (Keep.refl _).putL hl3 (by simp)
              rw [take_snoc hget, List.filter_append, List.filter_cons_of_pos (by exact hh), List.filter_nil]
              exact pairL_app (pairL_keep (kr0.mono0.trans ka) hP) ⟨r, [], rfl, ka.tup upd_same, rfl⟩
    · rintro H1 ⟨k1, us, hl, hP⟩
      have hz : (zs.map fun k => (k, getC C k)).take ((zs.map S).map V.str).length = zs.map fun k => (k, getC C k) := List.take_of_length_le (by rw [hlen, List.length_map]; exact Nat.le_refl _)
      rw [hz] at hP
      have k01 := ks.trans k1
      refine ⟨_, rfl, rfl, _, rfl, ?_⟩
      rw [mo_dec]
      cases em : B.mo with
      | none =>
        refine iteT ⟨_, rfl, k D us _ H1 srt hl ?_ (ks.dom _ hD) k01⟩
        unfold Bd.rows Bd.cut
        rw [em]
        exact hP
      | some m =>
        refine iteF ⟨_, rfl, _, rfl, (m : Int), rfl, D, _, rfl, SqL.of hl, fun q hq => ?_⟩
        have kq : Keep [] [] H1 (upd H1 q (.lst (cutV us none (some (m : Int))))) := Keep.new hq
        refine k q _ _ _ srt upd_same ?_ (k01.dom _ hq) (k01.trans kq)
        rw [cutV_to]
        unfold Bd.rows Bd.cut
        rw [em]
        rw [cutV_to] at kq
        exact pairL_take m (pairL_keep kq hP)
end
end Seal
/-! SealD23: which nodes are seen; parts made. -/
namespace Seal
open PySem PySem.Spec PyProof.Rows L2 SX SealR LamX NdefX
section
variable {w : World} {K : PySem.W.Frag} {mg : Str → Option Value} {base : Heap}
def spWays (d : Nat) : Sp := fun vs H Q _ => ∃ (st ce wd : Addr) (v : V) (o : Option Tr) (way : Tx) (W : List (Tx × Bool)), vs = [.ref st, v, tx way, .ref wd] ∧ StateAt H st ce ∧ TellsO H o v ∧ (∀ t, o = some t → Fit d t ∧ t.Whole) ∧ (o = none → 1 ≤ d) ∧ way.length + 20 * d ≤ 1000 ∧
  H wd = some (.dK (kvT V.bl W)) ∧ W.length + sizeO o ≤ 1000 ∧
  ∀ W' H', H' wd = some (.dK (kvT V.bl W')) → W'.length ≤ W.length + sizeO o → Keep [st, ce] [wd] H H' → StateAt H' st ce → Q .non H'
theorem sc__law_ways : FnScope ["_law_state", "_law_told_here", "_law_way", "_law_ways_here", "_law_letter", "_law_kid"] ["_law_state", "_law_told_here", "_law_way", "_law_ways_here"] (defScope s__law_ways) := ⟨rfl, rfl, rfl, by decide +kernel, rfl, by decide +kernel, by decide +kernel⟩
theorem ok_ways (T : Fx w K mg base) : ∀ d, Ok PR w K mg base d__law_ways ["_law_state", "_law_told_here", "_law_way", "_law_ways_here"] (d + 2) (spWays d)
  | 0 => by
    refine Ok.mk (k := 1) (N := ["_law_state", "_law_told_here", "_law_way", "_law_ways_here", "_law_letter", "_law_kid"]) T.i__law_ways sc__law_ways (fun vs H Q E h => ?_) (fun _ _ _ _ _ _ us hl => match us, hl with | [_, _, _, _], _ => rfl) (fun cdv A outer s H vs Q E hr h => ?_)
    · obtain ⟨_, _, _, _, _, _, _, rfl, _⟩ := h
      rfl
    · obtain ⟨_, _, _, _, o, _, _, _, _, _, f, h1, _⟩ := h
      cases o with
      | none => exact absurd (h1 rfl) (by decide)
      | some t => exact (f t rfl).1.no.elim
  | d + 1 => by
    obtain ⟨fd1, F__law_ways, b__law_ways, k__law_ways⟩ := ok_ways T d
    obtain ⟨fd2, F__law_draw, b__law_draw, k__law_draw⟩ := ok_draw T
    refine Ok.mk (k := d + 2) (N := ["_law_state", "_law_told_here", "_law_way", "_law_ways_here", "_law_letter", "_law_kid"]) T.i__law_ways sc__law_ways (fun vs H Q E h => ?_) (fun _ _ _ _ _ _ us hl => match us, hl with | [_, _, _, _], _ => rfl) (fun cdv A outer s H vs Q E hr h => ?_)
    · obtain ⟨_, _, _, _, _, _, _, rfl, _⟩ := h
      rfl
    · obtain ⟨st, ce, wd, v, o, way, W, rfl, S0, ht, hfit, _, hway, hw, hWl, k⟩ := h
      have hu := hu_of hr
      refine ⟨_, PSs.nox (pss_one (ps_if (PW.pt (pw_and (pt_cmpR op_notN (pv 1) pe_non (nomark _)) (pw_and1 (pt_cmpR op_gt (pe_call F__law_draw (hr.mono (by first | decide | omega)) rfl T.g__law_draw k__law_draw b__law_draw .nil passL (pa_cons (pv 0) (pa_cons pe_int pa_nil))) pe_int (nomark _)))))
      (pss_cons (ps_dput hu (pv 3) (pv 2) pe_bl rfl)
      (pss_one (ps_for PassesOwn.never rfl (pi_tup (pe_ix ix_tup (pv 1) pe_int (fun _ _ => rfl))) (pg_tup rfl (pgs_cons (pg_name (i := 4) sc__law_ways.nd rfl (Or.inl rfl)) (pgs_cons (pg_name (i := 5) sc__law_ways.nd rfl (Or.inl rfl)) pgs_nil)))
        (pss_one (ps_expr (pe_call F__law_ways (hr.mono (by first | decide | omega)) rfl T.g__law_ways k__law_ways b__law_ways .nil passL (pa_cons (pv 0) (pa_cons (pv 5) (pa_cons (pe_op op_add_str (pe_op op_add_str (pv 2) (pe_ix ix_tup (pv 1) pe_int (fun _ _ => rfl))) (pv 4)) (pa_cons (pv 3) pa_nil))))))))))
      pss_nil)), ?_⟩
      cases o with
      | none =>
        have ht : v = .non := ht
        subst ht
        exact ⟨_, rfl, rfl, _, rfl, iteF (iteF (k W H hw (Nat.le_add_right _ _) (Keep.refl H) S0))⟩
      | some t =>
        obtain ⟨fit, whole⟩ := hfit t rfl
        have ht : Tells H t v := ht
        refine ⟨_, rfl, rfl, _, rfl, ?_⟩
        rw [decide_eq_false (tells_ref ht)]
        refine iteT ?_
        refine ⟨_, rfl, st, ce, 5, rfl, S0, by decide, by decide, fun j H1 hj k1 S1 => ⟨_, _, rfl, rfl, _, rfl, ?_⟩⟩
        have hw1 : H1 wd = some (.dK (kvT V.bl W)) := k1.dic hw (by simp)
        have k1' : Keep [st, ce] [wd] H H1 := k1.mono (fun _ h => h) fun _ h => by cases h
        refine ite2 (fun _ => ?_) (fun _ => k W H1 hw1 (Nat.le_add_right _ _) k1' S1)
        cases t with
        | stub m => exact absurd whole (by unfold Tr.Whole; exact fun z => z)
        | node sm x ks =>
          have ht' := tells_keep k1 _ _ ht
          unfold Tells at ht'
          obtain ⟨a, c, vs', rfl, ha, hc, hL⟩ := ht'
          have hsz := size_node sm x ks
          have hsO : sizeO (some (Tr.node sm x ks)) = (Tr.node sm x ks).size := rfl
          have hst := fit.stem.2
          refine ⟨_, rfl, _, rfl, wd, _, rfl, DPut.k (k := Sum.inr (S way)) hw1 (by rw [kvT_len]; exact Nat.lt_of_le_of_lt (by omega : W.length ≤ 1000) (by decide)), ?_⟩
          have epW : putK (kvT V.bl W) (Sum.inr (S way)) (V.bl true) = kvT V.bl (putC W way true) := putK_kvT V.bl W way true
          rw [epW]
          have kw0 : Keep [] [wd] H1 (upd H1 wd (.dK (kvT V.bl (putC W way true)))) := (Keep.refl H1).putD hw1 (by simp)
          have kw : Keep [st, ce] [wd] H1 (upd H1 wd (.dK (kvT V.bl (putC W way true)))) := (Keep.refl H1).putD hw1 (by simp)
          have hW2 := putC_len W way true
          generalize hH2 : upd H1 wd (.dK (kvT V.bl (putC W way true))) = H2 at kw kw0
          have hw2 : H2 wd = some (.dK (kvT V.bl (putC W way true))) := by rw [← hH2, upd_same]
          refine ⟨_, rfl, a, _, _, _, rfl, rfl, SqT.of (kw.tup ha), rfl, c, rfl, ⟨_, SqT.of (kw.tup hc)⟩, ?_⟩
          refine for_it (walk_tup (xs := vs')) (fun i σ H' => ∃ o8 o9 Wi, σ = [some (.ref st), some (.ref a), some (tx way), some (.ref wd), o8, o9] ∧ Keep [st, ce] [wd] H2 H' ∧ StateAt H' st ce ∧ H' wd = some (.dK (kvT V.bl Wi)) ∧ Wi.length ≤ W.length + 1 + sizes (ks.take i))
            ⟨none, none, _, rfl, Keep.refl H2, S1.keep0 kw0, hw2, by rw [List.take_zero]; unfold sizes; omega⟩ (fun i σ H' _ h => ?_) ?_ ?_
          · obtain ⟨_, _, _, _, m1, _⟩ := h
            exact m1.sqt (SqT.of (kw.tup hc))
          · rintro i y σ H4 H5 hi ⟨o8, o9, Wi, rfl, m1, m2, m4, m5⟩ ⟨rfl, hy⟩
            obtain ⟨cc, t, r, u, ek, rfl, hr2, htt⟩ := tellsL_get hL hy
            have fk := (fit.kid (List.mem_of_getElem? ek)).2
            have wk := wholes_mem (by unfold Tr.Whole at whole; exact whole) _ (List.mem_of_getElem? ek)
            have e5 : sizes (ks.take (i + 1)) ≤ sizes ks := by
              have q := sizes_app (ks.take (i + 1)) (ks.drop (i + 1))
              rw [List.take_append_drop] at q
              omega
            have e6 : sizes (ks.take (i + 1)) = sizes (ks.take i) + t.size := by rw [take_snoc ek, sizes_snoc]
            refine ⟨r, _, rfl, SqT.of (m1.tup (kw.tup hr2)), rfl, _, _, rfl, _, _, rfl, rfl, ?_⟩
            refine ⟨_, rfl, _, rfl, _, rfl, _, rfl, a, _, _, _, rfl, rfl, SqT.of (m1.tup (kw.tup ha)), rfl, S way, S sm, rfl, rfl, toSz (by rw [len_S, len_S]; omega), ?_⟩
            rw [S_cat]
            refine ⟨_, rfl, S (way ++ sm), S [cc], rfl, rfl, toSz (by rw [len_S, len_S, List.length_append, List.length_singleton]; omega), ?_⟩
            rw [S_cat]
            have hkl : (way ++ sm ++ [cc]).length + 20 * d ≤ 1000 := by
              rw [List.length_append, List.length_append, List.length_singleton]
              omega
            have hso : sizeO (some t) = t.size := rfl
            refine ⟨_, rfl, st, ce, wd, u, some t, way ++ sm ++ [cc], Wi, rfl, m2, (show Tells H5 t u from tells_keep m1 t u (tells_keep kw t u htt)), (fun t2 e => by cases e; exact ⟨fk, wk⟩), (fun e => nomatch e), hkl, m4, by omega, fun W4 H6 n1 n2 n3 n4 => ?_⟩
            exact ⟨_, _, W4, rfl, m1.trans n3, n4, n1, by omega⟩
          · rintro σ H4 ⟨o8, o9, Wi, rfl, m1, m2, m4, m5⟩
            have hlv := tellsL_len hL
            rw [hlv, List.take_of_length_le (Nat.le_refl _)] at m5
            exact k Wi H4 m4 (by omega) ((k1'.trans kw).trans m1) m2
/-! ### the part of what is told -/
def spPart (K : PySem.W.Frag) : Sp := fun vs H Q _ => ∃ (v : V) (o : Option Tr), vs = [v] ∧ TellsO H o v ∧ (∀ t, o = some t → Fit 12 t ∧ t.good = true) ∧ ∀ u H', Keep [] [] H H' → PartO K H' o u → Q u H'
theorem sc__law_part : FnScope ["_law_told_here"] ["_law_told_here"] (defScope s__law_part) := ⟨rfl, rfl, rfl, by decide +kernel, rfl, by decide +kernel, by decide +kernel⟩
theorem ok_law_part (T : Fx w K mg base) : Ok PR w K mg base d__law_part ["_law_told_here"] 43 (spPart K) := by
  obtain ⟨fd1, F_part_of, b_part_of, k_part_of⟩ := ok_part_of T 12
  refine Ok.mk (k := 42) (N := ["_law_told_here"]) T.i__law_part sc__law_part (fun vs H Q E h => ?_) (fun _ _ _ _ _ _ us hl => match us, hl with | [_], _ => rfl) (fun cdv A outer s H vs Q E hr h => ?_)
  · obtain ⟨_, _, rfl, _⟩ := h
    rfl
  · obtain ⟨v, o, rfl, ht, hfit, k⟩ := h
    refine ⟨_, (pss_one (ps_ret (pe_ifExp (pt_cmpR op_isN (pv 0) pe_non (nomark _)) pe_non (pe_call F_part_of (hr.mono (by first | decide | omega)) rfl T.g_part_of k_part_of b_part_of .nil passX (pa_cons (pv 0) pa_nil))))), ?_⟩
    cases o with
    | none =>
      have ht : v = .non := ht
      subst ht
      exact ⟨_, rfl, rfl, _, rfl, iteT (k .non H (Keep.refl H) rfl)⟩
    | some t =>
      obtain ⟨fit, good⟩ := hfit t rfl
      have ht : Tells H t v := ht
      refine ⟨_, rfl, rfl, _, rfl, ?_⟩
      rw [decide_eq_false (tells_ref ht)]
      refine iteF ?_
      exact ⟨_, rfl, v, t, rfl, ht, fit, fun u H' k1 k2 => k u H' k1 k2, fun e => by rw [good] at e; cases e⟩
end
end Seal
/-! SealD24: a part made or refused; a range asked. -/
namespace Seal
open PySem PySem.Spec PyProof.Rows L2 SX SealR LamX NdefX
section
variable {X : Cx} {k n : Nat} {f : Addr} {fd : FuncData} {ps ks : List Str} {sp : Sp} {E : L2.St → XK} {x : Str} {p pos : Pos} {e : Expr} {es : List Expr} {kws : List Keyword} {t tk : TA} {g : List Value → List Value → List Value} {gV : List V → List V → List V}
/-- a call with keywords in a try's body: what it raises goes to the clauses, which see the slots -/
theorem pe_callSN (F : FnOk X.prog X.w X.K X.mg X.base (L2.CX X.prog X.w) k f fd ps sp) (hr : Room k X.A) (hg : Gl X x) (hm : X.mg x = some (.ref f)) (hk : PySem.W.keepIn X.K (.ref f) = true) (hb : L2.KBn X.K fd ps n ks g gV) (hx : ∀ σ, PassesAt (L2.CX X.prog X.w) X σ (E σ))
    (ha : PA X (e :: es) t) (hkw : PK X kws tk) (hall : (backToKw pos (keywordEach kws X.env)).all (·.1.isSome) = true := by rfl) (hks : (backToKw pos (keywordEach kws X.env)).filterMap (·.1) = ks := by rfl)
    (hdb : (x == ("__debug__" : Str)) = false := by decide) (he : starEach (e :: es) X.env = (false, eval e X.env) :: starEach es X.env := by rfl)
    (hpl : ((backTo pos (starEach (e :: es) X.env)).any (·.1) || (backToKw pos (keywordEach kws X.env)).any (·.1.isNone)) = false := by rfl) :
    PE X (.Call (.Name x p) (e :: es) kws pos) (fun σ H Q => t σ H fun vs H1 => tk σ H1 fun zs H2 => vs.length = n ∧ zs.length = ks.length ∧ sp (gV vs zs) H2 Q (E σ)) := by
  refine ⟨fun pins s σ H Q I h => wpAny_Call_Name_kw (ld_glob I hg hm ?_ hdb)⟩
  refine PySem.W.callWith_KW (h₀ := X.base) I.ok.mod.kin hk hall (thn (ha.run pos pins s σ H _ I h) fun us s1 ⟨vs, H1, I1, r, q⟩ => thn (hkw.run pos pins s1 σ H1 _ I1 q) fun ws s2 ⟨zs, H2, I2, rz, l1, l2, q2⟩ => ⟨I2.kIn, ?_⟩) hpl he
  rw [hks]
  refine wpAny_call (codeAny_mono (F.run X.A X.stack s2 H2 ⟨us, ks.zip ws⟩ (g us ws) (gV vs zs) Q (E σ) hr I2.env0 (hb.to s2 us ws I2.kIn (r.length.symm.trans l1) (rz.length.symm.trans l2)) (hb.rel r rz) q2) fun w s' hq => ?_)
  cases w with
  | error e => exact hx σ pins H2 s2 e s' I2 hq
  | ok fl =>
    cases fl with
    | ret u => exact I2.after hq
    | _ => exact False.elim hq
end
section
variable {w : World} {K : PySem.W.Frag} {mg : Str → Option Value} {base : Heap}
def spMade (K : PySem.W.Frag) : Sp := fun vs H Q _ => ∃ (v : V) (t : Tr), vs = [v] ∧ Tells H t v ∧ Fit 12 t ∧ (∀ u H', Keep [] [] H H' → PartAt K H' t u → Q u H') ∧ (t.good = false → ∀ H', Keep [] [] H H' → Q .non H')
theorem sc__law_made : FnScope ["_law_told_here", "_law_found"] ["_law_told_here"] (defScope s__law_made) := ⟨rfl, rfl, rfl, by decide +kernel, rfl, by decide +kernel, by decide +kernel⟩
theorem ok_made (T : Fx w K mg base) : Ok PR w K mg base d__law_made ["_law_told_here"] 43 (spMade K) := by
  obtain ⟨fd1, F_part_of, b_part_of, k_part_of⟩ := ok_part_of T 12
  refine Ok.mk (k := 42) (N := ["_law_told_here", "_law_found"]) T.i__law_made sc__law_made (fun vs H Q E h => ?_) (fun _ _ _ _ _ _ us hl => match us, hl with | [_], _ => rfl) (fun cdv A outer s H vs Q E hr h => ?_)
  · obtain ⟨_, _, rfl, _⟩ := h
    rfl
  · obtain ⟨v, t, rfl, ht, fit, kq, ke⟩ := h
    refine ⟨_, PSs.nox (pss_cons (ps_set (i := 1) sc__law_made.nd rfl (Or.inl rfl) pe_non)
    (pss_cons (ps_try_only rfl rfl ⟨rfl, by decide, .inl T.g_BadNode⟩ L2.takes0 (fun W pn xe tk _ => pss_one (ps_set (i := 1) sc__law_made.nd rfl (Or.inl rfl) (pe_callS F_part_of (hr.mono (by first | decide | omega)) rfl T.g_part_of k_part_of b_part_of (fun σ => passAt tk σ) (pa_cons (pv 0) pa_nil)))) (fun a oe cls d pn _ _ => pss_one (ps_set (i := 1) sc__law_made.nd rfl (Or.inl rfl) pe_non)))
    (pss_one (ps_ret (pv 1))))), ?_⟩
    refine ⟨_, rfl, v, t, rfl, ht, fit, fun u H' k1 k2 => ⟨_, rfl, kq u H' k1 k2⟩, fun hg H' k1 => ⟨true, T.e_BadNode_BadNode, fun _ a ha => ⟨_, rfl, ke hg H' k1⟩, fun z => nomatch z⟩⟩
/-! ### asked -/
def AskRes (H : Hp) (t : Tr) (B : Bd) (M : Known) (r : Nat) (v : V) : Prop := ∃ p k, v = .ref p ∧ t.num M = some k ∧ k < 10 ^ 40 ∧ ((k ≠ r ∧ H p = some (.tup [.str "root", .int (k : Int)])) ∨ (k = r ∧ ((∃ wy, (t.wk B [] []).1 = some wy ∧ H p = some (.tup [.str "unseen", tx wy])) ∨
  ((t.wk B [] []).1 = none ∧ ∃ l us, H p = some (.tup [.str "told", .ref l]) ∧ H l = some (.lst us) ∧ PairL H (t.wk B [] []).2 us))))
def spAsked (K : PySem.W.Frag) : Sp := fun vs H Q _ => ∃ (v : V) (t : Tr) (f dd b : Addr) (M : Known) (n r : Nat) (B : Bd), vs = [.int (r : Int), v, .ref f, .ref b] ∧ PartAt K H t v ∧ Fit 12 t ∧ DigAt H f dd M n ∧ n + t.size < 10 ^ 6 ∧ BdAt H b B ∧ BdOk B ∧ r < 10 ^ 40 ∧
  ∀ u M' H', M.Le M' → AskRes H' t B M' r u → Keep [] [dd] H H' → DigAt H' f dd M' (n + t.size) → Q u H'
theorem sc__law_asked : FnScope ["_law_root", "_law_part_here", "_law_seal", "_law_bounds_here", "_law_found", "e"] ["_law_root", "_law_part_here", "_law_seal", "_law_bounds_here"] (defScope s__law_asked) := ⟨rfl, rfl, rfl, by decide +kernel, rfl, by decide +kernel, by decide +kernel⟩
theorem ok_asked (T : Fx w K mg base) : Ok PR w K mg base d__law_asked ["_law_root", "_law_part_here", "_law_seal", "_law_bounds_here"] 31 (spAsked K) := by
  obtain ⟨fd1, g1, F1, b1, k1⟩ := ok_told_range T
  refine Ok.mk (k := 30) (N := ["_law_root", "_law_part_here", "_law_seal", "_law_bounds_here", "_law_found", "e"]) T.i__law_asked sc__law_asked (fun vs H Q E h => ?_) (fun _ _ _ _ _ _ us hl => match us, hl with | [_, _, _, _], _ => rfl) (fun cdv A outer s H vs Q E hr h => ?_)
  · obtain ⟨_, _, _, _, _, _, _, _, _, rfl, _⟩ := h
    rfl
  · obtain ⟨v, t, f, dd, b, M, n, r, B, rfl, hP, fit, D, hn, hb, hB, hr40, k⟩ := h
    have fR := ba2 (ba2 (ba2 T.ex2.iR).2).2
    have fU := ba2 (ba2 (ba2 T.ex2.iU).2).2
    refine ⟨_, PSs.nox (pss_cons (ps_set (i := 4) sc__law_asked.nd rfl (Or.inl rfl) (pe_tup (pa_cons pe_str (pa_cons pe_non pa_nil))))
    (pss_cons (SealR.ps_try_all (i := 5) rfl rfl sc__law_asked.nd rfl rfl L2.takes0 (fun W pn xe tk _ => pss_one (ps_set (i := 4) sc__law_asked.nd rfl (Or.inl rfl) (pe_tup (pa_cons pe_str (pa_cons (pe_callSN F1 (hr.mono (by first | decide | omega)) rfl T.g_range_told k1 b1 (fun σ => passAt tk σ) (pa_cons (pv 0) (pa_cons (pv 1) (pa_cons (pv 2) pa_nil))) (pk_cons (pe_ix (r := rIxT K) ix_tup (pv 3) pe_int (fun _ _ => rfl)) (pk_cons (pe_ix (r := rIxT K) ix_tup (pv 3) pe_int (fun _ _ => rfl)) (pk_cons (pe_ix (r := rIxT K) ix_tup (pv 3) pe_int (fun _ _ => rfl)) pk_nil)))) pa_nil))))) (.cons (q := (.ref (He.ga K "NoRoot"), fun a cls d => _)) ⟨rfl, by decide, .inl T.g_NoRoot⟩ (fun a oe cls d pn hz hf => pss_one (ps_set (i := 4) sc__law_asked.nd rfl (Or.inl rfl) (pe_tup (pa_cons pe_str (pa_cons (pe_xf (xfB_ok fR.2) (He.eqO_ok fR.1) hz hf (pv 5)) pa_nil))))) (.cons (q := (.ref (He.ga K "Unseen"), fun a cls d => _)) ⟨rfl, by decide, .inl T.g_Unseen⟩ (fun a oe cls d pn hz hf => pss_one (ps_set (i := 4) sc__law_asked.nd rfl (Or.inl rfl) (pe_tup (pa_cons pe_str (pa_cons (pe_xf (xfB_ok fU.2) (He.eqO_ok fU.1) hz hf (pv 5)) pa_nil))))) .nil)))
    (pss_one (ps_ret (pv 4))))), ?_⟩
    refine ⟨by show 2 ≤ sizeLine; decide, fun p0 hp0 => ?_⟩
    have k0 := Keep.new (L := []) (D := []) (o := .tup [.str "none", .non]) hp0
    have hb0 := k0.tup hb
    generalize hH0 : upd H p0 (.tup [.str "none", .non]) = H0 at k0 hb0
    refine ⟨_, rfl, _, rfl, _, rfl, _, rfl, b, _, _, _, rfl, rfl, SqT.of hb0, rfl, _, rfl, b, _, _, _, rfl, rfl, SqT.of hb0, rfl, _, rfl, b, _, _, _, rfl, rfl, SqT.of hb0, rfl, rfl, rfl, ?_⟩
    refine ⟨v, t, f, dd, M, n, r, B, rfl, part_keep k0 _ _ hP, fit, D.keep0 k0, hn, hB, fun l us M' H1 m1 m2 m3 m4 m5 m6 m7 m8 => ?_, fun wy d M' H1 m1 m2 m3 m4 m5 m6 => ?_, fun kk M' d H1 m1 m2 m3 m4 m5 m6 m7 => ?_⟩
    · refine ⟨by show 2 ≤ sizeLine; decide, fun p hp => ⟨_, rfl, ?_⟩⟩
      have kp := Keep.new (L := []) (D := []) (o := .tup [.str "told", .ref l]) hp
      exact k _ M' _ m1 ⟨p, r, rfl, m2, hr40, .inr ⟨rfl, .inr ⟨m3, l, us, upd_same, kp.lst m5 (by simp), pairL_keep kp m6⟩⟩⟩ ((k0.mono0.trans m7).trans kp.mono0) (m8.keep0 kp)
    · refine ⟨false, T.e_Unseen_NoRoot, fun z => (nomatch z), fun _ => ⟨true, T.e_Unseen_Unseen, fun _ a ha => ?_, fun z => nomatch z⟩⟩
      refine ⟨_, rfl, rfl, rfl, d, _, _, rfl, m4, rfl, by show 2 ≤ sizeLine; decide, fun p hp => ⟨_, rfl, ?_⟩⟩
      have kp := Keep.new (L := []) (D := []) (o := .tup [.str "unseen", tx wy]) hp
      exact k _ M' _ m1 ⟨p, r, rfl, m2, hr40, .inr ⟨rfl, .inl ⟨wy, m3, upd_same⟩⟩⟩ ((k0.mono0.trans m5).trans kp.mono0) (m6.keep0 kp)
    · refine ⟨true, T.e_NoRoot_NoRoot, fun _ a ha => ?_, fun z => nomatch z⟩
      refine ⟨_, rfl, rfl, rfl, d, _, _, rfl, m7, rfl, by show 2 ≤ sizeLine; decide, fun p hp => ⟨_, rfl, ?_⟩⟩
      have kp := Keep.new (L := []) (D := []) (o := .tup [.str "root", .int (kk : Int)]) hp
      exact k _ M' _ m1 ⟨p, kk, rfl, m2, m4, .inl ⟨m3, upd_same⟩⟩ ((k0.mono0.trans m5).trans kp.mono0) (m6.keep0 kp)
end
end Seal
/-! SealD25: tuples in parts; what is told as data; a tree that fits. -/
namespace Seal
open PySem PySem.Spec PyProof.Rows L2 SX SealR LamX NdefX
section
variable {K : PySem.W.Frag} {H : Hp}
theorem tupTo {a : Addr} {xs : List V} (ha : H a = some (.tup xs)) (m : Nat) {Q : VK} (q : ∀ b H', Keep [] [] H H' → H' b = some (.tup (xs.take m)) → Q (.ref b) H') : rSlA K (.ref a) none (some (m : Int)) H Q := by
  refine ⟨a, xs, rfl, SqT.of ha, fun e => q a H (Keep.refl H) ?_, fun _ p hp => q p _ (Keep.new hp) (by rw [upd_same, cutV_to])⟩
  have e2 := e.2
  rw [HT.sIx_nat] at e2
  rw [List.take_of_length_le (by omega)]
  exact ha
theorem tupFrom {a : Addr} {xs : List V} (ha : H a = some (.tup xs)) (m : Nat) {Q : VK} (q : ∀ b H', Keep [] [] H H' → H' b = some (.tup (xs.drop m)) → Q (.ref b) H') : rSlA K (.ref a) (some (m : Int)) none H Q := by
  refine ⟨a, xs, rfl, SqT.of ha, fun e => q a H (Keep.refl H) ?_, fun _ p hp => q p _ (Keep.new hp) (by rw [upd_same, cutV_from])⟩
  have e1 := e.1
  rw [HT.sIx_nat] at e1
  by_cases h : m = 0
  · rw [h, List.drop_zero]
    exact ha
  · have hx : xs.length = 0 := by omega
    have hx : xs = [] := List.length_eq_zero_iff.mp hx
    subst hx
    rw [List.drop_nil]
    exact ha
theorem tupFromN {a : Addr} {xs : List V} {σ : L2.St} (ha : H a = some (.tup xs)) (m : Nat) {Q : VK} (q : ∀ b H', Keep [] [] H H' → H' b = some (.tup (xs.drop m)) → Q (.ref b) H') : tNoPart σ H fun u H3 => rSlA K (.ref a) (some (m : Int)) u H3 Q := tupFrom ha m q
theorem tupCat {a b : Addr} {xs ys : List V} (ha : H a = some (.tup xs)) (hb : H b = some (.tup ys)) (hl : xs.length + ys.length ≤ 1000) {Q : VK} (q : ∀ c H', Keep [] [] H H' → H' c = some (.tup (xs ++ ys)) → Q (.ref c) H') : rCatA K (.ref a) (.ref b) H Q := by
  refine ⟨a, b, xs, ys, rfl, rfl, SqT.of ha, SqT.of hb, toSz (by omega), fun e => q b H (Keep.refl H) ?_, fun _ e => q a H (Keep.refl H) ?_, fun _ _ p hp => q p _ (Keep.new hp) upd_same⟩
  · subst e
    exact hb
  · subst e
    rw [List.append_nil]
    exact ha
/-! ### as data -/
def datO : Option Tx → PyData
  | none => .none
  | some l => .str (S l)
mutual
def datT : Tr → PyData
  | .stub n => .tuple [.str "stub", .int (n : Int)]
  | .node s x ks => .tuple [.str "node", .str (S s), datO x, .tuple (datL ks)]
def datL : List (Nat × Tr) → List PyData
  | [] => []
  | (c, t) :: r => .tuple [.str (S [c]), datT t] :: datL r
end
theorem dp_txO (x : Option Tx) : Dp K H (txO x) (datO x) := by
  cases x with
  | none => exact .non
  | some l => exact .str _
theorem tells_dp : ∀ (t : Tr) (v : V), Tells H t v → Dp K H v (datT t) := by
  refine Tr.ind (fun n v h => ?_) fun s x ks ih v h => ?_
  · unfold Tells at h
    obtain ⟨a, rfl, h⟩ := h
    unfold datT
    exact .tup (SqT.of h) (.cons (.str _) (.cons (.int _) .nil))
  · unfold Tells at h
    obtain ⟨a, b, vs, rfl, h1, h2, h3⟩ := h
    unfold datT
    refine .tup (SqT.of h1) (.cons (.str _) (.cons (.str _) (.cons (dp_txO x) (.cons (.tup (SqT.of h2) ?_) .nil))))
    clear h2
    induction ks generalizing vs with
    | nil =>
      unfold TellsL at h3
      subst h3
      unfold datL
      exact .nil
    | cons p ks ihk =>
      obtain ⟨c, t⟩ := p
      unfold TellsL at h3
      obtain ⟨a', u, r, e1, e2, e3, e4⟩ := h3
      subst e1
      unfold datL
      exact .cons (.tup (SqT.of e2) (.cons (.str _) (.cons (ih (c, t) List.mem_cons_self u e3) .nil))) (ihk (fun q hq => ih q (List.mem_cons_of_mem _ hq)) r e4)
theorem tellsL_dp : ∀ (ks : List (Nat × Tr)) (vs : List V), TellsL H ks vs → DpAll K H vs (datL ks)
  | [], vs, h => by
    unfold TellsL at h
    subst h
    unfold datL
    exact .nil
  | (c, t) :: ks, vs, h => by
    unfold TellsL at h
    obtain ⟨a', u, r, e1, e2, e3, e4⟩ := h
    subst e1
    unfold datL
    exact .cons (.tup (SqT.of e2) (.cons (.str _) (.cons (tells_dp t u e3) .nil))) (tellsL_dp ks r e4)
theorem strOk_S {l : Tx} (h : ∀ c ∈ l, c < 0x110000) : PyData.canLay0 (.str (S l)) = true := by
  show (S l).cps.all (fun c => decide (c < 0x110000)) = true
  rw [Array.all_eq_true']
  intro c hc
  have hc : c ∈ l := by simpa using hc
  exact decide_eq_true (h c hc)
theorem Lows.small {l : Tx} (h : Lows l) : ∀ c ∈ l, c < 0x110000 := fun c hc => by
  have := (h c hc).2
  omega
theorem Signs.small {l : Tx} (h : Signs l) : ∀ c ∈ l, c < 0x110000 := fun c hc => by
  have := (h c hc).2
  omega
theorem datO_ok {x : Option Tx} (h : ∀ l, x = some l → Signs l) : PyData.canLay0 (datO x) = true ∧ PyData.depth (datO x) = 0 := by
  cases x with
  | none => exact ⟨rfl, rfl⟩
  | some l => exact ⟨strOk_S (h l rfl).small, rfl⟩
theorem lay_tup4 {a b c d : PyData} (ha : PyData.canLay0 a = true) (hb : PyData.canLay0 b = true) (hc : PyData.canLay0 c = true) (hd : PyData.canLay0 d = true) : PyData.canLay0 (.tuple [a, b, c, d]) = true := by
  show (PyData.canLay0 a && (PyData.canLay0 b && (PyData.canLay0 c && (PyData.canLay0 d && true)))) = true
  rw [ha, hb, hc, hd]
  rfl
theorem lay_tup2 {a b : PyData} (ha : PyData.canLay0 a = true) (hb : PyData.canLay0 b = true) : PyData.canLay0 (.tuple [a, b]) = true := by
  show (PyData.canLay0 a && (PyData.canLay0 b && true)) = true
  rw [ha, hb]
  rfl
theorem datL_ok {d : Nat} : ∀ ks : List (Nat × Tr), (∀ p ∈ ks, (97 ≤ p.1 ∧ p.1 ≤ 122) ∧ PyData.canLay0 (datT p.2) = true ∧ PyData.depth (datT p.2) ≤ d) → PyData.canLayAll0 (datL ks) = true ∧ PyData.depthAll (datL ks) ≤ d + 1
  | [], _ => by
    unfold datL
    exact ⟨rfl, Nat.zero_le _⟩
  | (c, t) :: ks, h => by
    obtain ⟨hc, h1, h2⟩ := h _ List.mem_cons_self
    obtain ⟨i1, i2⟩ := datL_ok ks fun p hp => h p (List.mem_cons_of_mem _ hp)
    unfold datL
    refine ⟨?_, ?_⟩
    · show (PyData.canLay0 (.tuple [.str (S [c]), datT t]) && PyData.canLayAll0 (datL ks)) = true
      rw [lay_tup2 (strOk_S fun z hz => by rw [List.mem_singleton.mp hz]; have := hc.2; show c < _; omega) h1, i1]
      rfl
    · show max (max 0 (max (PyData.depth (datT t)) 0) + 1) (PyData.depthAll (datL ks)) ≤ d + 1
      have h2 : PyData.depth (datT t) ≤ d := h2
      omega
theorem dat_ok : ∀ (t : Tr) (d : Nat), Fit d t → PyData.canLay0 (datT t) = true ∧ PyData.depth (datT t) ≤ 3 * d := by
  refine Tr.ind (fun n d f => ?_) fun s x ks ih d f => ?_
  · have hd := f.depth
    unfold Tr.depth at hd
    unfold datT
    refine ⟨lay_tup2 (by decide +kernel) rfl, ?_⟩
    show max 0 (max 0 0) + 1 ≤ 3 * d
    omega
  · cases d with
    | zero => exact f.no.elim
    | succ d =>
      obtain ⟨i1, i2⟩ := datL_ok (d := 3 * d) ks fun p hp => ⟨(f.kid hp).1, ih p hp d (f.kid hp).2⟩
      obtain ⟨o1, o2⟩ := datO_ok fun l e => f.sgn e
      unfold datT
      refine ⟨lay_tup4 (by decide +kernel) (strOk_S f.stem.1.small) o1 i1, ?_⟩
      show max 0 (max 0 (max (PyData.depth (datO x)) (max (PyData.depthAll (datL ks) + 1) 0))) + 1 ≤ 3 * (d + 1)
      rw [o2]
      omega
/-- the rows of a node, as data -/
theorem rows_dp {d : Nat} {s : Tx} {x : Option Tx} {ks : List (Nat × Tr)} (f : Fit d (.node s x ks)) (hd : d ≤ 12) {b : Addr} {vs : List V} (hb : H b = some (.tup vs)) (hL : TellsL H ks vs) :
    Dp K H (.ref b) (.tuple (datL ks)) ∧ SeqAt.shaped (.tuple (datL ks)) = true ∧ PyData.eqv (.tuple (datL ks)) (.tuple []) = ks.isEmpty := by
  cases d with
  | zero => exact f.no.elim
  | succ d =>
    obtain ⟨i1, i2⟩ := datL_ok (d := 3 * d) ks fun p hp => ⟨(f.kid hp).1, dat_ok p.2 d (f.kid hp).2⟩
    refine ⟨.tup (SqT.of hb) (tellsL_dp ks vs hL), ?_, ?_⟩
    · refine Bool.and_eq_true_iff.mpr ⟨i1, decide_eq_true ?_⟩
      show PyData.depthAll (datL ks) + 1 ≤ 64
      omega
    · cases ks with
      | nil =>
        unfold datL
        rfl
      | cons p r =>
        obtain ⟨c, t⟩ := p
        unfold datL
        rfl
end
/-! ### a node that fits -/
theorem depths_le {d : Nat} : ∀ l : List (Nat × Tr), (∀ p ∈ l, p.2.depth ≤ d) → depths l ≤ d
  | [], _ => by unfold depths; exact Nat.zero_le _
  | (c, t) :: l, h => by
    unfold depths
    exact Nat.max_le.mpr ⟨h _ List.mem_cons_self, depths_le l fun p hp => h p (List.mem_cons_of_mem _ hp)⟩
theorem fit_node {d : Nat} {s : Tx} {x : Option Tx} {ks : List (Nat × Tr)} (hs : Lows s ∧ s.length ≤ 9) (hx : ∀ l, x = some l → l.length ≤ 41 ∧ Signs l) (hk : ∀ p ∈ ks, (97 ≤ p.1 ∧ p.1 ≤ 122) ∧ Fit d p.2) (hz : 1 + sizes ks ≤ 100) : Fit (d + 1) (.node s x ks) := by
  refine ⟨?_, by rw [size_node]; exact hz, ?_⟩
  · unfold Tr.All
    exact ⟨hs, hx, alls_of fun p hp => ⟨(hk p hp).1, (hk p hp).2.all⟩⟩
  · have e : (Tr.node s x ks).depth = 1 + depths ks := by
      conv => lhs; unfold Tr.depth
    have := depths_le ks fun p hp => (hk p hp).2.depth
    omega
theorem fit_stub {d n : Nat} (h : n < 10 ^ 40) : Fit (d + 1) (.stub n) := by
  refine ⟨?_, ?_, ?_⟩
  · unfold Tr.All
    exact h
  · unfold Tr.size
    decide
  · unfold Tr.depth
    omega
theorem tellsL_nil {H : Hp} : TellsL H [] [] := by
  unfold TellsL
  rfl
end Seal
/-! SealD26: one part otherwise. -/
namespace Seal
open PySem PySem.Spec PyProof.Rows L2 SX SealR LamX NdefX
theorem L_0 : ("0" : Str) = S [48] := by decide +kernel
theorem L_e : ("e" : Str) = S [101] := by decide +kernel
theorem split_at {α : Type} {l : List α} {i : Nat} {a : α} (h : l[i]? = some a) : l = l.take i ++ a :: l.drop (i + 1) := by
  obtain ⟨h1, h2⟩ := List.getElem?_eq_some_iff.mp h
  rw [← h2, ← List.drop_eq_getElem_cons h1, List.take_append_drop]
theorem sizes_cons (p : Nat × Tr) (l : List (Nat × Tr)) : sizes (p :: l) = p.2.size + sizes l := by
  obtain ⟨c, t⟩ := p
  conv => lhs; unfold sizes
theorem Lows.drop1 {l : Tx} (h : Lows l) (n : Nat) : Lows (l.drop n) := fun c hc => h c (List.mem_of_mem_drop hc)
theorem Signs.zero {l : Tx} (h : Signs l) : Signs (l ++ [48]) := h.app fun c hc => by
  rw [List.mem_singleton.mp hc]
  decide
section
variable {w : World} {K : PySem.W.Frag} {mg : Str → Option Value} {base : Heap}
def spChanged (d : Nat) : Sp := fun vs H Q _ => ∃ (st ce nr : Addr) (cs : List Nat) (v : V) (t : Tr), vs = [.ref st, v, .ref nr] ∧ StateAt H st ce ∧ NearAt H nr cs ∧ Tells H t v ∧ Neat d t ∧
  ∀ u t' H', Tells H' t' u → Fit d t' → t'.size ≤ t.size → Keep [st, ce] [] H H' → StateAt H' st ce → Q u H'
theorem sc__law_changed : FnScope ["_law_state", "_law_told_here", "_law_near", "_law_way", "_law_number_here", "_law_at", "_law_pair", "_law_stem", "_law_value_here", "_law_rows_here"] ["_law_state", "_law_told_here", "_law_near"] (defScope s__law_changed) := ⟨rfl, rfl, rfl, by decide +kernel, rfl, by decide +kernel, by decide +kernel⟩
theorem ok_changed (T : Fx w K mg base) (d : Nat) (hd12 : d ≤ 12) : Ok PR w K mg base d__law_changed ["_law_state", "_law_told_here", "_law_near"] 3 (spChanged d) := by
  obtain ⟨fd__law_draw, F__law_draw, b__law_draw, k__law_draw⟩ := ok_draw T
  obtain ⟨fd__law_key, F__law_key, b__law_key, k__law_key⟩ := ok_key T
  obtain ⟨fd__law_value, F__law_value, b__law_value, k__law_value⟩ := ok_value T
  refine Ok.mk (k := 2) (N := ["_law_state", "_law_told_here", "_law_near", "_law_way", "_law_number_here", "_law_at", "_law_pair", "_law_stem", "_law_value_here", "_law_rows_here"]) T.i__law_changed sc__law_changed (fun vs H Q E h => ?_) (fun _ _ _ _ _ _ us hl => match us, hl with | [_, _, _], _ => rfl) (fun cdv A outer s H vs Q E hr h => ?_)
  · obtain ⟨_, _, _, _, _, _, rfl, _⟩ := h
    rfl
  · obtain ⟨st, ce, nr, cs, v, t, rfl, S0, N0, ht, neat, k⟩ := h
    have nn := N0.ne S0
    have fit := neat.fit
    cases d with
    | zero => exact fit.no.elim
    | succ d =>
    have finN : ∀ (s2 : Tx) (x2 : Option Tx) (ks2 : List (Nat × Tr)) (b2 : Addr) (us2 : List V) (H2 : Hp), H2 b2 = some (.tup us2) → TellsL H2 ks2 us2 → Fit (d + 1) (.node s2 x2 ks2) → (Tr.node s2 x2 ks2).size ≤ t.size → Keep [st, ce] [] H H2 → StateAt H2 st ce →
        ∀ p, H2 p = none → Q (.ref p) (upd H2 p (.tup [.str "node", tx s2, txO x2, .ref b2])) := fun s2 x2 ks2 b2 us2 H2 e1 e2 e3 e4 e5 e6 p hp => by
      have kp := Keep.new (L := []) (D := []) (o := .tup [.str "node", tx s2, txO x2, .ref b2]) hp
      refine k _ (.node s2 x2 ks2) _ ?_ e3 e4 (e5.trans kp.mono0) (e6.keep0 kp)
      unfold Tells
      exact ⟨p, b2, us2, rfl, upd_same, kp.tup e1, tellsL_keep kp e2⟩
    have finS : ∀ (z : Nat) (H2 : Hp), z < 10 ^ 40 → Keep [st, ce] [] H H2 → StateAt H2 st ce → ∀ p, H2 p = none → Q (.ref p) (upd H2 p (.tup [.str "stub", .int (z : Int)])) := fun z H2 e3 e5 e6 p hp => by
      have kp := Keep.new (L := []) (D := []) (o := .tup [.str "stub", .int (z : Int)]) hp
      refine k _ (.stub z) _ ?_ (fit_stub e3) ?_ (e5.trans kp.mono0) (e6.keep0 kp)
      · unfold Tells
        exact ⟨p, rfl, upd_same⟩
      · have e : (Tr.stub z).size = 1 := by
          unfold Tr.size
          rfl
        rw [e]
        exact size_pos t
    refine ⟨_, PSs.nox (pss_cons (ps_set (i := 3) sc__law_changed.nd rfl (Or.inl rfl) (pe_call F__law_draw (hr.mono (by first | decide | omega)) rfl T.g__law_draw k__law_draw b__law_draw .nil passL (pa_cons (pv 0) (pa_cons pe_int pa_nil))))
    (C8.pss_cut (ps_set (i := 4) sc__law_changed.nd rfl (Or.inl rfl) (pe_ix ix_list (pe_lst (pa_cons pe_int (pa_cons (pe_op op_pow pe_int pe_int) (pa_cons (pe_call F__law_draw (hr.mono (by first | decide | omega)) rfl T.g__law_draw k__law_draw b__law_draw .nil passL (pa_cons (pv 0) (pa_cons (pe_op op_pow pe_int pe_int) pa_nil))) pa_nil)))) (pe_call F__law_draw (hr.mono (by first | decide | omega)) rfl T.g__law_draw k__law_draw b__law_draw .nil passL (pa_cons (pv 0) (pa_cons pe_int pa_nil))) (fun _ _ => rfl)))
    (pss_cons (ps_if (pt_cmpR op_eq (pv 3) pe_int (nomark _))
      (pss_one (ps_ret (pe_tup (pa_cons pe_str (pa_cons (pe_slice sl_str (pe_call F__law_key (hr.mono (by first | decide | omega)) rfl T.g__law_key k__law_key b__law_key .nil passL (pa_cons (pv 0) (pa_cons (pv 2) pa_nil))) po_none (po_some pe_int)) (pa_cons (pe_call F__law_value (hr.mono (by first | decide | omega)) rfl T.g__law_value k__law_value b__law_value .nil passL (pa_cons (pv 0) pa_nil)) (pa_cons (pe_tup pa_nil) pa_nil)))))))
      pss_nil)
    (C8.pss_cut (ps_if (pt_cmpR op_eq (pe_ix ix_tup (pv 1) pe_int (fun _ _ => rfl)) pe_str (nomark _))
      (pss_one (ps_ret (pe_tup (pa_cons pe_str (pa_cons (pe_ix ix_list (pe_lst (pa_cons (pe_op op_add (pe_ix ix_tup (pv 1) pe_int (fun _ _ => rfl)) pe_int) (pa_cons (pe_callB call_abs rfl T.f_abs B_abs (pa_cons (pe_op op_sub (pe_ix ix_tup (pv 1) pe_int (fun _ _ => rfl)) pe_int) pa_nil)) (pa_cons (pv 4) pa_nil)))) (pe_op op_modN (pv 3) pe_int) (fun _ _ => rfl)) pa_nil)))))
      pss_nil)
    (pss_cons (ps_par3 (i := 7) (j := 8) (l := 9) (by rfl) sc__law_changed.nd rfl rfl rfl (by decide) (by decide) (by decide) rfl rfl rfl (pa_cons (pe_ix ix_tup (pv 1) pe_int (fun _ _ => rfl)) (pa_cons (pe_ix ix_tup (pv 1) pe_int (fun _ _ => rfl)) (pa_cons (pe_ix ix_tup (pv 1) pe_int (fun _ _ => rfl)) pa_nil))) (by rfl))
    (pss_cons (ps_if (pt_cmpR op_eq (pv 3) pe_int (nomark _))
      (pss_one (ps_ret (pe_tup (pa_cons pe_str (pa_cons (pv 4) pa_nil)))))
      pss_nil)
    (pss_cons (ps_if (PW.pt (pw_or (pt_cmpR op_eq (pv 3) pe_int (nomark _)) (pw_or1 (pt_cmpR (op_eqD hr.units) (pv 9) (pe_tup pa_nil) (nomark _)))))
      (pss_one (ps_ret (pe_tup (pa_cons pe_str (pa_cons (pv 7) (pa_cons (pe_ifExp (PW.pt (pw_or (pt_cmpR op_isN (pv 8) pe_non (nomark _)) (pw_or1 (pt_cmpR op_eq (pe_call F__law_draw (hr.mono (by first | decide | omega)) rfl T.g__law_draw k__law_draw b__law_draw .nil passL (pa_cons (pv 0) (pa_cons pe_int pa_nil))) pe_int (nomark _))))) (pe_call F__law_value (hr.mono (by first | decide | omega)) rfl T.g__law_value k__law_value b__law_value .nil passL (pa_cons (pv 0) pa_nil)) (pe_op op_add_str (pv 8) pe_str)) (pa_cons (pv 9) pa_nil)))))))
      pss_nil)
    (pss_cons (ps_if (pt_cmpR op_eq (pv 3) pe_int (nomark _))
      (pss_one (ps_ret (pe_tup (pa_cons pe_str (pa_cons (pe_ix ix_list (pe_lst (pa_cons (pe_slice sl_str (pv 7) po_none (po_some (pe_un un_neg pe_int))) (pa_cons (pe_op op_add_str (pv 7) pe_str) (pa_cons (pe_op op_add_str (pe_ix ix_list (pv 2) pe_int (fun _ _ => rfl)) (pe_slice sl_str (pv 7) (po_some pe_int) po_none)) pa_nil)))) (pe_call F__law_draw (hr.mono (by first | decide | omega)) rfl T.g__law_draw k__law_draw b__law_draw .nil passL (pa_cons (pv 0) (pa_cons pe_int pa_nil))) (fun _ _ => rfl)) (pa_cons (pv 8) (pa_cons (pv 9) pa_nil)))))))
      pss_nil)
    (pss_cons (ps_set (i := 5) sc__law_changed.nd rfl (Or.inl rfl) (pe_call F__law_draw (hr.mono (by first | decide | omega)) rfl T.g__law_draw k__law_draw b__law_draw .nil passL (pa_cons (pv 0) (pa_cons (pe_callB call_len_seq rfl T.f_len B_len (pa_cons (pv 9) pa_nil)) pa_nil))))
    (pss_cons (ps_if (pt_cmpR op_eq (pv 3) pe_int (nomark _))
      (pss_one (ps_ret (pe_tup (pa_cons pe_str (pa_cons (pv 7) (pa_cons (pv 8) (pa_cons (pe_op op_catA (pe_slice sl_tupA (pv 9) po_none (po_some (pv 5))) (pe_slice sl_tupA (pv 9) (po_some (pe_op op_add (pv 5) pe_int)) po_none)) pa_nil)))))))
      pss_nil)
    (pss_cons (ps_if (pt_cmpR op_eq (pv 5) pe_int (nomark _))
      (pss_one (ps_ret (pe_tup (pa_cons pe_str (pa_cons (pv 7) (pa_cons (pv 8) (pa_cons (pe_op op_catA (pe_tup (pa_cons (pe_tup (pa_cons (pe_ix ix_list (pv 2) pe_int (fun _ _ => rfl)) (pa_cons (pe_ix ix_tup (pe_ix ix_tup (pv 9) pe_int (fun _ _ => rfl)) pe_int (fun _ _ => rfl)) pa_nil))) pa_nil)) (pe_slice sl_tupA (pv 9) (po_some pe_int) po_none)) pa_nil)))))))
      pss_nil)
    (pss_cons (ps_set (i := 6) sc__law_changed.nd rfl (Or.inl rfl) (pe_tup (pa_cons (pe_tup (pa_cons (pe_ix ix_tup (pe_ix ix_tup (pv 9) (pe_op op_sub (pv 5) pe_int) (fun _ _ => rfl)) pe_int (fun _ _ => rfl)) (pa_cons (pe_ix ix_tup (pe_ix ix_tup (pv 9) (pv 5) (fun _ _ => rfl)) pe_int (fun _ _ => rfl)) pa_nil))) (pa_cons (pe_tup (pa_cons (pe_ix ix_tup (pe_ix ix_tup (pv 9) (pv 5) (fun _ _ => rfl)) pe_int (fun _ _ => rfl)) (pa_cons (pe_ix ix_tup (pe_ix ix_tup (pv 9) (pe_op op_sub (pv 5) pe_int) (fun _ _ => rfl)) pe_int (fun _ _ => rfl)) pa_nil))) pa_nil))))
    (pss_one (ps_ret (pe_tup (pa_cons pe_str (pa_cons (pv 7) (pa_cons (pv 8) (pa_cons (pe_op op_catA (pe_op op_catA (pe_slice sl_tupA (pv 9) po_none (po_some (pe_op op_sub (pv 5) pe_int))) (pv 6)) (pe_slice sl_tupA (pv 9) (po_some (pe_op op_add (pv 5) pe_int)) po_none)) pa_nil))))))))))))))))))), ?_⟩
    refine ⟨_, rfl, st, ce, 6, rfl, S0, by decide, by decide, fun wy H1 hwy k1 S1 => ?_⟩
    refine ⟨fun σ H' => ∃ m : Nat, σ = [some (.ref st), some v, some (.ref nr), some (.int (wy : Int)), some (.int (m : Int)), none, none, none, none, none] ∧ m ≤ 10 ^ 30 ∧ Keep [st, ce] [] H H' ∧ StateAt H' st ce, ?_, ?_⟩
    · refine ⟨_, _, rfl, rfl, ⟨by decide, by decide, by decide⟩, _, rfl, _, _, rfl, rfl, ⟨by decide, by decide, by decide⟩, st, ce, 10 ^ 30, rfl, S1, by decide, by decide, fun q H2 hq k2 S2 => ?_⟩
      refine ⟨by show 3 ≤ sizeLine; decide, fun p hp => ?_⟩
      have npS := freshS S2 hp
      have kp := Keep.new (L := []) (D := []) (o := .lst [.int 0, .int (10 ^ (30 : Int).toNat), .int (q : Int)]) hp
      refine ⟨_, rfl, st, ce, 3, rfl, S2.keep0 kp, by decide, by decide, fun j H3 hj k3 S3 => ?_⟩
      have hm : ∃ m : Nat, ([V.int 0, .int (10 ^ (30 : Int).toNat), .int (q : Int)] : List V)[j]? = some (.int (m : Int)) ∧ m ≤ 10 ^ 30 := by
        have h3 : j = 0 ∨ j = 1 ∨ j = 2 := by omega
        rcases h3 with rfl | rfl | rfl
        · exact ⟨0, rfl, by decide⟩
        · exact ⟨10 ^ 30, rfl, Nat.le_refl _⟩
        · exact ⟨q, rfl, Nat.le_of_lt hq⟩
      obtain ⟨m, em, hm⟩ := hm
      exact ⟨p, _, _, _, rfl, rfl, SqL.of (k3.lst upd_same npS), atI_nat em, m, rfl, hm, ((k1.trans k2).trans kp.mono0).trans k3, S3⟩
    · rintro σ H2 ⟨m, rfl, hm, k2, S2⟩
      have N2 := N0.keep k2 nn
      have ht2 := tells_keep k2 t v ht
      refine ⟨_, rfl, rfl, _, rfl, ?_⟩
      refine ite2 (fun _ => ?_) (fun h0 => ?_)
      · refine ⟨_, rfl, _, rfl, st, ce, nr, cs, rfl, S2, N2, fun l H3 hl k3 S3 => ?_⟩
        refine ⟨2, rfl, S l, rfl, toSzS (Nat.le_trans hl.1 (by decide)), ?_⟩
        have e2 : cutS (S l) none (some 2) = S (l.take 2) := slice_to2 _ 2
        rw [e2]
        refine ⟨_, rfl, st, ce, rfl, S3, fun x H4 hx k4 S4 => ?_⟩
        refine ⟨by show 0 ≤ sizeLine; decide, fun q hq => ⟨by show 4 ≤ sizeLine; decide, ?_⟩⟩
        have kq := Keep.new (L := []) (D := []) (o := .tup []) hq
        refine finN (l.take 2) (some x) [] q [] _ upd_same tellsL_nil ?_ ?_ (((k2.trans k3).trans k4).trans kq.mono0) (S4.keep0 kq)
        · refine fit_node ⟨fun z hz => hl.2 z (List.mem_of_mem_take hz), by rw [List.length_take]; omega⟩ (fun l e => by cases e; exact ⟨Nat.le_trans hx.1 (by decide), hx.2⟩) (fun p hp => by cases hp) (by rw [sizes_nil]; decide)
        · rw [size_node, sizes_nil]
          exact size_pos t
      · skip
        refine ⟨fun σ H' => σ = [some (.ref st), some v, some (.ref nr), some (.int (wy : Int)), some (.int (m : Int)), none, none, none, none, none] ∧ H' = H2 ∧ ∃ s x ks, t = .node s x ks, ?_, ?_⟩
        · cases t with
          | stub n =>
            have hn : n < 10 ^ 39 := by
              have q := neat.strict
              unfold Tr.All at q
              exact q
            unfold Tells at ht2
            obtain ⟨a, rfl, ha⟩ := ht2
            refine ⟨_, rfl, a, _, _, _, rfl, rfl, SqT.of ha, rfl, rfl, _, rfl, ?_⟩
            refine iteT ?_
            refine ⟨_, rfl, a, _, _, _, rfl, rfl, SqT.of ha, rfl, _, _, rfl, rfl, _, rfl, a, _, _, _, rfl, rfl, SqT.of ha, rfl, _, _, rfl, rfl, _, rfl, _, rfl, ?_⟩
            refine ⟨by show 3 ≤ sizeLine; decide, fun p hp => ?_⟩
            obtain ⟨j, ej, hj⟩ := fmod_nat (i := (wy : Int)) (m := 3) (by decide)
            refine ⟨_, rfl, _, _, rfl, rfl, (by show (3 : Int) ≠ 0; decide), ?_⟩
            have hz : ∃ z : Nat, ([V.int ((n : Int) + 1), .int (if (n : Int) - 1 < 0 then -((n : Int) - 1) else (n : Int) - 1), .int (m : Int)] : List V)[j]? = some (.int (z : Int)) ∧ z < 10 ^ 40 := by
              have h3 : j = 0 ∨ j = 1 ∨ j = 2 := by omega
              rcases h3 with rfl | rfl | rfl
              · exact ⟨n + 1, rfl, by omega⟩
              · by_cases h : (n : Int) - 1 < 0
                · refine ⟨1, ?_, by decide⟩
                  show some (V.int (if (n : Int) - 1 < 0 then -((n : Int) - 1) else (n : Int) - 1)) = _
                  rw [if_pos h]
                  have : n = 0 := by omega
                  subst this
                  rfl
                · refine ⟨n - 1, ?_, by omega⟩
                  show some (V.int (if (n : Int) - 1 < 0 then -((n : Int) - 1) else (n : Int) - 1)) = _
                  rw [if_neg h]
                  congr 2
                  omega
              · exact ⟨m, rfl, by omega⟩
            obtain ⟨z, ez, hz⟩ := hz
            refine ⟨p, _, _, _, rfl, rfl, SqL.of upd_same, (show atI _ ((wy : Int).fmod 3) = _ by rw [ej]; exact atI_nat ez), ?_⟩
            have kp := Keep.new (L := []) (D := []) (o := .lst [V.int ((n : Int) + 1), .int (if (n : Int) - 1 < 0 then -((n : Int) - 1) else (n : Int) - 1), .int (m : Int)]) hp
            exact ⟨by show 2 ≤ sizeLine; decide, finS z _ hz (k2.trans kp.mono0) (S2.keep0 kp)⟩
          | node sm x ks =>
            have ht3 := ht2
            unfold Tells at ht3
            obtain ⟨a, b, us, rfl, ha, hb, hL⟩ := ht3
            refine ⟨_, rfl, a, _, _, _, rfl, rfl, SqT.of ha, rfl, rfl, _, rfl, ?_⟩
            exact iteF ⟨rfl, rfl, sm, x, ks, rfl⟩
        · rintro σ H3 ⟨rfl, rfl, sm, x, ks, rfl⟩
          have ht3 := ht
          unfold Tells at ht3
          obtain ⟨a, b, us, rfl, ha0, hb0, hL0⟩ := ht3
          have ha := k2.tup ha0
          have hb := k2.tup hb0
          have hL := tellsL_keep k2 hL0
          have q := neat.strict
          unfold Tr.All at q
          have hs8 : sm.length ≤ 8 := q.1
          have hx40 : ∀ l, x = some l → l.length ≤ 40 := q.2.1
          have hsl := fit.stem.1
          have hsz := fit.size
          rw [size_node] at hsz
          have fk : ∀ p ∈ ks, (97 ≤ p.1 ∧ p.1 ≤ 122) ∧ Fit d p.2 := fun p hp => fit.kid hp
          have fitN : ∀ x2 : Option Tx, (∀ l, x2 = some l → l.length ≤ 41 ∧ Signs l) → Fit (d + 1) (.node sm x2 ks) := fun x2 h2 => fit_node fit.stem h2 fk hsz
          have fx : ∀ l, x = some l → l.length ≤ 41 ∧ Signs l := fun l e => ⟨fit.val e, fit.sgn e⟩
          have hln := tellsL_len hL
          have hkl := sizes_len ks
          refine ⟨_, rfl, a, _, _, _, rfl, rfl, SqT.of ha, rfl, _, rfl, a, _, _, _, rfl, rfl, SqT.of ha, rfl, _, rfl, a, _, _, _, rfl, rfl, SqT.of ha, rfl, ?_⟩
          refine ⟨_, _, _, rfl, ?_⟩
          refine ⟨_, rfl, rfl, _, rfl, ?_⟩
          refine ite2 (fun _ => ⟨_, rfl, by show 2 ≤ sizeLine; decide, finS m H3 (by omega) k2 S2⟩) (fun h1 => ?_)
          refine ⟨_, rfl, rfl, _, rfl, ?_⟩
          refine ite2 (fun _ => ?_) (fun h2 => ?_)
          · refine ⟨_, rfl, _, rfl, rfl, _, rfl, ?_⟩
            rw [txO_dec]
            cases x with
            | none =>
              refine iteT (iteT ?_)
              refine ⟨_, rfl, st, ce, rfl, S2, fun y H5 hy k5 S5 => ?_⟩
              refine ⟨_, rfl, by show 4 ≤ sizeLine; decide, ?_⟩
              have k25 := (k2).trans k5
              exact finN sm (some y) ks b us H5 (k25.tup hb0) (tellsL_keep k25 hL0) (fitN _ fun l2 e => by cases e; exact ⟨Nat.le_trans hy.1 (by decide), hy.2⟩) (by rw [size_node, size_node]; exact Nat.le_refl _) k25 S5
            | some l =>
              refine iteF ?_
              refine ⟨_, rfl, st, ce, 2, rfl, S2, by decide, by decide, fun z H4 hz k4 S4 => ⟨rfl, _, rfl, ?_⟩⟩
              refine ite2 (fun _ => ?_) (fun _ => ?_)
              · refine ⟨_, rfl, st, ce, rfl, S4, fun y H5 hy k5 S5 => ?_⟩
                refine ⟨_, rfl, by show 4 ≤ sizeLine; decide, ?_⟩
                have k25 := ((k2).trans k4).trans k5
                exact finN sm (some y) ks b us H5 (k25.tup hb0) (tellsL_keep k25 hL0) (fitN _ fun l2 e => by cases e; exact ⟨Nat.le_trans hy.1 (by decide), hy.2⟩) (by rw [size_node, size_node]; exact Nat.le_refl _) k25 S5
              · have hl := fit.val rfl
                have hsg := fit.sgn rfl
                have hl8 := hx40 l rfl
                refine ⟨_, rfl, S l, S [48], rfl, (congrArg V.str L_0), toSz (by rw [len_S, len_S]; show l.length + 1 ≤ _; omega), ?_⟩
                rw [S_cat]
                refine ⟨_, rfl, by show 4 ≤ sizeLine; decide, ?_⟩
                have k24 := (k2).trans k4
                exact finN sm (some (l ++ [48])) ks b us H4 (k24.tup hb0) (tellsL_keep k24 hL0) (fitN _ fun l2 e => by cases e; exact ⟨by rw [List.length_append]; show l.length + 1 ≤ 41; omega, hsg.zero⟩) (by rw [size_node, size_node]; exact Nat.le_refl _) k24 S4
          refine ⟨_, rfl, by show 0 ≤ sizeLine; decide, fun p0 hp0 => ?_⟩
          have k0 := Keep.new (L := []) (D := []) (o := .tup []) hp0
          obtain ⟨dp, sh, eq⟩ := rows_dp (K := K) fit hd12 (k0.tup hb) (tellsL_keep k0 hL)
          refine ⟨_, _, dp, .tup (SqT.of upd_same) .nil, sh, rfl, _, rfl, ?_⟩
          rw [eq]
          have S3 := S2.keep0 k0
          have k3 := k2.trans (k0.mono0 (L := [st, ce]) (D := []))
          refine ite2 (fun _ => ?_) (fun hne => ?_)
          · refine ⟨_, rfl, _, rfl, rfl, _, rfl, ?_⟩
            rw [txO_dec]
            cases x with
            | none =>
              refine iteT (iteT ?_)
              refine ⟨_, rfl, st, ce, rfl, S3, fun y H5 hy k5 S5 => ?_⟩
              refine ⟨_, rfl, by show 4 ≤ sizeLine; decide, ?_⟩
              have k25 := (k3).trans k5
              exact finN sm (some y) ks b us H5 (k25.tup hb0) (tellsL_keep k25 hL0) (fitN _ fun l2 e => by cases e; exact ⟨Nat.le_trans hy.1 (by decide), hy.2⟩) (by rw [size_node, size_node]; exact Nat.le_refl _) k25 S5
            | some l =>
              refine iteF ?_
              refine ⟨_, rfl, st, ce, 2, rfl, S3, by decide, by decide, fun z H4 hz k4 S4 => ⟨rfl, _, rfl, ?_⟩⟩
              refine ite2 (fun _ => ?_) (fun _ => ?_)
              · refine ⟨_, rfl, st, ce, rfl, S4, fun y H5 hy k5 S5 => ?_⟩
                refine ⟨_, rfl, by show 4 ≤ sizeLine; decide, ?_⟩
                have k25 := ((k3).trans k4).trans k5
                exact finN sm (some y) ks b us H5 (k25.tup hb0) (tellsL_keep k25 hL0) (fitN _ fun l2 e => by cases e; exact ⟨Nat.le_trans hy.1 (by decide), hy.2⟩) (by rw [size_node, size_node]; exact Nat.le_refl _) k25 S5
              · have hl := fit.val rfl
                have hsg := fit.sgn rfl
                have hl8 := hx40 l rfl
                refine ⟨_, rfl, S l, S [48], rfl, (congrArg V.str L_0), toSz (by rw [len_S, len_S]; show l.length + 1 ≤ _; omega), ?_⟩
                rw [S_cat]
                refine ⟨_, rfl, by show 4 ≤ sizeLine; decide, ?_⟩
                have k24 := (k3).trans k4
                exact finN sm (some (l ++ [48])) ks b us H4 (k24.tup hb0) (tellsL_keep k24 hL0) (fitN _ fun l2 e => by cases e; exact ⟨by rw [List.length_append]; show l.length + 1 ≤ 41; omega, hsg.zero⟩) (by rw [size_node, size_node]; exact Nat.le_refl _) k24 S4
          generalize upd H3 p0 (.tup []) = H4 at k0 S3 k3
          have ha := k3.tup ha0
          have hb := k3.tup hb0
          have hL := tellsL_keep k3 hL0
          have N4 := N0.keep k3 nn
          have hls : us.length ≤ 100 := by omega
          have hcs := N0.two
          refine ⟨_, rfl, rfl, _, rfl, ?_⟩
          refine ite2 (fun _ => ?_) (fun h3 => ?_)
          · have hc0 : (cs.map fun c => tx [c])[0]? = some (tx [cs[0]]) := by rw [List.getElem?_map, List.getElem?_eq_getElem (by omega)]; rfl
            have hlc0 := N0.low _ (List.getElem_mem (show 0 < cs.length by omega))
            refine ⟨_, rfl, 1, rfl, (-1), rfl, S sm, rfl, toSzS (by omega), ?_⟩
            obtain ⟨i1, j1, e1⟩ := slice_any sm none (some (-1))
            rw [e1]
            refine ⟨_, rfl, S sm, S [101], rfl, (congrArg V.str L_e), toSz (by rw [len_S, len_S]; show sm.length + 1 ≤ _; omega), ?_⟩
            rw [S_cat]
            refine ⟨_, rfl, nr, _, _, _, rfl, rfl, SqL.of N4.at_, atI_nat (j := 0) hc0, _, rfl, 1, rfl, S sm, rfl, toSzS (by omega), ?_⟩
            have e3 : cutS (S sm) (some 1) none = S (sm.drop 1) := slice_from2 sm 1
            rw [e3]
            refine ⟨S [cs[0]], S (sm.drop 1), rfl, rfl, toSz (by rw [len_S, len_S, List.length_drop]; show 1 + _ ≤ _; omega), ?_⟩
            rw [S_cat]
            refine ⟨by show 3 ≤ sizeLine; decide, fun p hp => ?_⟩
            have npS := freshS S3 hp
            have kp := Keep.new (L := []) (D := []) (o := .lst [tx ((sm.drop i1).take j1), tx (sm ++ [101]), tx ([cs[0]] ++ sm.drop 1)]) hp
            refine ⟨_, rfl, st, ce, 3, rfl, S3.keep0 kp, by decide, by decide, fun j H5 hj k5 S5 => ?_⟩
            have hz : ∃ z : Tx, ([tx ((sm.drop i1).take j1), tx (sm ++ [101]), tx ([cs[0]] ++ sm.drop 1)] : List V)[j]? = some (tx z) ∧ Lows z ∧ z.length ≤ 9 := by
              have h3 : j = 0 ∨ j = 1 ∨ j = 2 := by omega
              rcases h3 with rfl | rfl | rfl
              · exact ⟨_, rfl, hsl.cut i1 j1, by rw [List.length_take, List.length_drop]; omega⟩
              · exact ⟨_, rfl, hsl.app (Lows.one (by decide)), by rw [List.length_append]; show sm.length + 1 ≤ 9; omega⟩
              · exact ⟨_, rfl, (Lows.one hlc0).app (hsl.drop1 1), by rw [List.length_append, List.length_drop]; show 1 + _ ≤ 9; omega⟩
            obtain ⟨z, ez, hz1, hz2⟩ := hz
            have k5' := (k3.trans kp.mono0).trans k5
            refine ⟨p, _, _, _, rfl, rfl, SqL.of (k5.lst upd_same npS), atI_nat ez, _, rfl, _, rfl, by show 4 ≤ sizeLine; decide, ?_⟩
            exact finN z x ks b us H5 (k5'.tup hb0) (tellsL_keep k5' hL0) (fit_node ⟨hz1, hz2⟩ fx fk hsz) (by rw [size_node, size_node]; exact Nat.le_refl _) k5' S5
          · have hkpos : 0 < ks.length := by
              cases ks with
              | nil => exact absurd rfl hne
              | cons a r => exact Nat.succ_pos _
            refine ⟨_, rfl, _, rfl, b, us, rfl, .inr (SqT.of hb), st, ce, us.length, rfl, S3, by omega, Nat.lt_of_le_of_lt hls (by decide), fun i H5 hi k5 S5 => ?_⟩
            have k35 := k3.trans k5
            have ha5 := k35.tup ha0
            have hb5 := k35.tup hb0
            have hL5 := tellsL_keep k35 hL0
            have hik : i < ks.length := by omega
            have ei : us[i]? = some us[i] := List.getElem?_eq_getElem hi
            obtain ⟨c, t, r, u, ek, er, hr2, htt⟩ := tellsL_get hL5 ei
            have hspl := split_at ek
            have hszs : sizes ks = sizes (ks.take i) + (t.size + sizes (ks.drop (i + 1))) := by
              conv => lhs; rw [hspl]
              rw [sizes_app, sizes_cons]
            have hlt : (us.take i).length + (us.drop (i + 1)).length ≤ 1000 := by
              rw [List.length_take, List.length_drop]
              omega
            refine ⟨_, rfl, rfl, _, rfl, ?_⟩
            refine ite2 (fun _ => ?_) (fun h4 => ?_)
            · refine ⟨_, rfl, _, rfl, _, rfl, _, rfl, (i : Int), rfl, tupTo hb5 i fun b1 H6 kb1 hb1 => ?_⟩
              refine ⟨_, rfl, _, rfl, _, _, rfl, rfl, ((i + 1 : Nat) : Int), rfl, tupFromN (kb1.tup hb5) (i + 1) fun b2 H7 kb2 hb2 => ?_⟩
              refine tupCat (kb2.tup hb1) hb2 hlt fun b3 H8 kb3 hb3 => ?_
              have k58 := (kb1.trans kb2).trans kb3
              have k38 := k35.trans k58.mono0
              refine ⟨by show 4 ≤ sizeLine; decide, ?_⟩
              refine finN sm x (ks.take i ++ ks.drop (i + 1)) b3 _ H8 hb3 (tellsL_app (tellsL_take i (tellsL_keep k38 hL0)) (tellsL_drop (i + 1) (tellsL_keep k38 hL0))) ?_ ?_ k38 (S5.keep0 k58)
              · refine fit_node fit.stem fx (fun p hp => ?_) ?_
                · rcases List.mem_append.mp hp with hp | hp
                  · exact fk p (List.mem_of_mem_take hp)
                  · exact fk p (List.mem_of_mem_drop hp)
                · rw [sizes_app]
                  omega
              · rw [size_node, size_node, sizes_app]
                omega
            refine ⟨_, rfl, rfl, _, rfl, ?_⟩
            refine ite2 (fun hz => ?_) (fun hnz => ?_)
            · have hi0 : i = 0 := by
                have := V.int.inj (of_decide_eq_true hz)
                omega
              subst hi0
              have N5 := N4.keep k5 nn
              have hc1 : (cs.map fun c => tx [c])[1]? = some (tx [cs[1]]) := by rw [List.getElem?_map, List.getElem?_eq_getElem (by omega)]; rfl
              have hlc1 := N0.low _ (List.getElem_mem (show 1 < cs.length by omega))
              rw [er] at ei
              refine ⟨_, rfl, _, rfl, _, rfl, nr, _, _, _, rfl, rfl, SqL.of N5.at_, atI_nat (j := 1) hc1, ?_⟩
              refine ⟨_, rfl, b, _, _, _, rfl, rfl, SqT.of hb5, atI_nat (j := 0) ei, r, _, _, _, rfl, rfl, SqT.of hr2, rfl, ?_⟩
              refine ⟨by show 2 ≤ sizeLine; decide, fun q hq => ⟨by show 1 ≤ sizeLine; decide, fun q2 hq2 => ?_⟩⟩
              have kq := Keep.new (L := []) (D := []) (o := .tup [tx [cs[1]], u]) hq
              have kq2 := Keep.new (L := []) (D := []) (o := .tup [.ref q]) hq2
              have k57 := kq.trans kq2
              have hq7 := kq2.tup (upd_same (H := H5) (a := q) (o := .tup [tx [cs[1]], u]))
              have hu7 := tells_keep k57 t u htt
              have hq27 : upd (upd H5 q (.tup [tx [cs[1]], u])) q2 (.tup [.ref q]) q2 = some (.tup [.ref q]) := upd_same
              generalize upd (upd H5 q (.tup [tx [cs[1]], u])) q2 (.tup [.ref q]) = H7 at k57 hq7 hu7 hq27
              refine ⟨_, rfl, 1, rfl, tupFromN (k57.tup hb5) 1 fun b2 H8 kb2 hb2 => ?_⟩
              refine tupCat (kb2.tup hq27) hb2 (by rw [List.length_drop]; show 1 + _ ≤ 1000; omega) fun b3 H9 kb3 hb3 => ?_
              have k79 := kb2.trans kb3
              have k59 := k57.trans k79
              have k39 := k35.trans k59.mono0
              refine ⟨by show 4 ≤ sizeLine; decide, ?_⟩
              have hszs2 : sizes ks = t.size + sizes (ks.drop 1) := by
                rw [hszs, List.take_zero, sizes_nil, Nat.zero_add]
              refine finN sm x ([(cs[1], t)] ++ ks.drop 1) b3 _ H9 hb3 (tellsL_app (tellsL_one (k79.tup hq7) (tells_keep k79 _ _ hu7)) (tellsL_drop 1 (tellsL_keep k39 hL0))) ?_ ?_ k39 (S5.keep0 k59)
              · refine fit_node fit.stem fx (fun p hp => ?_) ?_
                · rcases List.mem_append.mp hp with hp | hp
                  · rw [List.mem_singleton.mp hp]
                    exact ⟨hlc1, (fk _ (List.mem_of_getElem? ek)).2⟩
                  · exact fk p (List.mem_of_mem_drop hp)
                · rw [sizes_app, sizes_cons, sizes_nil]
                  show 1 + (t.size + 0 + _) ≤ 100
                  omega
              · rw [size_node, size_node, sizes_app, sizes_cons, sizes_nil]
                show 1 + (t.size + 0 + _) ≤ _
                omega
            · obtain ⟨j, rfl⟩ : ∃ j, i = j + 1 := by
                cases i with
                | zero => exact absurd (decide_eq_true rfl) hnz
                | succ j => exact ⟨j, rfl⟩
              have hj : j < us.length := by omega
              have ej : us[j]? = some us[j] := List.getElem?_eq_getElem hj
              obtain ⟨c2, t2, r2, u2, ek2, er2, hr3, htt2⟩ := tellsL_get hL5 ej
              rw [er] at ei
              rw [er2] at ej
              have em1 : (((j + 1 : Nat) : Int)) - 1 = (j : Int) := by omega
              have x1 : atI us ((((j + 1 : Nat) : Int)) - 1) = some (.ref r2) := by rw [em1]; exact atI_nat ej
              have x2 : atI us (((j + 1 : Nat) : Int)) = some (.ref r) := atI_nat ei
              refine ⟨_, rfl, _, rfl, _, _, rfl, rfl, b, us, _, _, rfl, rfl, SqT.of hb5, x1, r2, _, _, _, rfl, rfl, SqT.of hr3, rfl, ?_⟩
              refine ⟨_, rfl, _, rfl, b, us, _, _, rfl, rfl, SqT.of hb5, x2, r, _, _, _, rfl, rfl, SqT.of hr2, rfl, ?_⟩
              refine ⟨by show 2 ≤ sizeLine; decide, fun q1 hq1 => ?_⟩
              have kq1 := Keep.new (L := []) (D := []) (o := .tup [tx [c2], u]) hq1
              refine ⟨_, rfl, _, rfl, b, us, _, _, rfl, rfl, SqT.of (kq1.tup hb5), x2, r, _, _, _, rfl, rfl, SqT.of (kq1.tup hr2), rfl, ?_⟩
              refine ⟨_, rfl, _, rfl, _, _, rfl, rfl, b, us, _, _, rfl, rfl, SqT.of (kq1.tup hb5), x1, r2, _, _, _, rfl, rfl, SqT.of (kq1.tup hr3), rfl, ?_⟩
              refine ⟨by show 2 ≤ sizeLine; decide, fun q2 hq2 => ⟨by show 2 ≤ sizeLine; decide, fun q3 hq3 => ?_⟩⟩
              have kq2 := Keep.new (L := []) (D := []) (o := .tup [tx [c], u2]) hq2
              have kq3 := Keep.new (L := []) (D := []) (o := .tup [.ref q1, .ref q2]) hq3
              have k57 := (kq1.trans kq2).trans kq3
              have hq17 := (kq2.trans kq3).tup (upd_same (H := H5) (a := q1) (o := .tup [tx [c2], u]))
              have hq27 := kq3.tup (upd_same (H := upd H5 q1 (.tup [tx [c2], u])) (a := q2) (o := .tup [tx [c], u2]))
              have hq37 : upd (upd (upd H5 q1 (.tup [tx [c2], u])) q2 (.tup [tx [c], u2])) q3 (.tup [.ref q1, .ref q2]) q3 = some (.tup [.ref q1, .ref q2]) := upd_same
              have hu7 := tells_keep k57 t u htt
              have hu27 := tells_keep k57 t2 u2 htt2
              generalize upd (upd (upd H5 q1 (.tup [tx [c2], u])) q2 (.tup [tx [c], u2])) q3 (.tup [.ref q1, .ref q2]) = H7 at k57 hq17 hq27 hq37 hu7 hu27
              refine ⟨_, rfl, _, rfl, _, rfl, _, rfl, _, _, rfl, rfl, (j : Int), (congrArg V.int em1), tupTo (k57.tup hb5) j fun b1 H8 kb1 hb1 => ?_⟩
              refine ⟨_, rfl, tupCat hb1 (kb1.tup hq37) (by rw [List.length_take]; show _ + 2 ≤ 1000; omega) fun b2 H9 kb2 hb2 => ?_⟩
              refine ⟨_, rfl, _, rfl, _, _, rfl, rfl, ((j + 1 + 1 : Nat) : Int), rfl, tupFromN ((kb1.trans kb2).tup (k57.tup hb5)) (j + 1 + 1) fun b3 H10 kb3 hb3 => ?_⟩
              refine tupCat (kb3.tup hb2) hb3 (by rw [List.length_append, List.length_take, List.length_drop]; show _ + 2 + _ ≤ 1000; omega) fun b4 H11 kb4 hb4 => ?_
              have k711 := ((kb1.trans kb2).trans kb3).trans kb4
              have k511 := k57.trans k711
              have k311 := k35.trans k511.mono0
              refine ⟨by show 4 ≤ sizeLine; decide, ?_⟩
              have etk : sizes (ks.take (j + 1)) = sizes (ks.take j) + t2.size := by rw [take_snoc ek2, sizes_snoc]
              refine finN sm x ((ks.take j ++ [(c2, t), (c, t2)]) ++ ks.drop (j + 1 + 1)) b4 _ H11 hb4 (tellsL_app (tellsL_app (tellsL_take j (tellsL_keep k311 hL0)) ?_) (tellsL_drop (j + 1 + 1) (tellsL_keep k311 hL0))) ?_ ?_ k311 (S5.keep0 k511)
              · exact tellsL_app (ks := [(c2, t)]) (vs := [.ref q1]) (tellsL_one (k711.tup hq17) (tells_keep k711 _ _ hu7)) (tellsL_one (k711.tup hq27) (tells_keep k711 _ _ hu27))
              · refine fit_node fit.stem fx (fun p hp => ?_) ?_
                · rcases List.mem_append.mp hp with hp | hp
                  · rcases List.mem_append.mp hp with hp | hp
                    · exact fk p (List.mem_of_mem_take hp)
                    · rcases List.mem_cons.mp hp with e | hp
                      · rw [e]
                        exact ⟨(fk _ (List.mem_of_getElem? ek2)).1, (fk _ (List.mem_of_getElem? ek)).2⟩
                      · rw [List.mem_singleton.mp hp]
                        exact ⟨(fk _ (List.mem_of_getElem? ek)).1, (fk _ (List.mem_of_getElem? ek2)).2⟩
                  · exact fk p (List.mem_of_mem_drop hp)
                · rw [sizes_app, sizes_app, sizes_cons, sizes_cons, sizes_nil]
                  show 1 + (_ + (t.size + (t2.size + 0)) + _) ≤ 100
                  omega
              · rw [size_node, size_node, sizes_app, sizes_app, sizes_cons, sizes_cons, sizes_nil]
                show 1 + (_ + (t.size + (t2.size + 0)) + _) ≤ _
                omega
end
end Seal
/-! SealD27: what is told, with one part otherwise. -/
namespace Seal
open PySem PySem.Spec PyProof.Rows L2 SX SealR LamX NdefX
section
variable {w : World} {K : PySem.W.Frag} {mg : Str → Option Value} {base : Heap}
def spSpoilt (d : Nat) : Sp := fun vs H Q _ => ∃ (st ce nr : Addr) (cs : List Nat) (v : V) (o : Option Tr), vs = [.ref st, v, .ref nr] ∧ StateAt H st ce ∧ NearAt H nr cs ∧ TellsO H o v ∧ (∀ t, o = some t → Neat d t) ∧ (o = none → 1 ≤ d) ∧
  ∀ u t' H', Tells H' t' u → Fit d t' → t'.size ≤ sizeO o → Keep [st, ce] [] H H' → StateAt H' st ce → Q u H'
theorem sc__law_spoilt : FnScope ["_law_state", "_law_told_here", "_law_near", "_law_at", "_law_rows_here", "_law_letter", "_law_kid"] ["_law_state", "_law_told_here", "_law_near"] (defScope s__law_spoilt) := ⟨rfl, rfl, rfl, by decide +kernel, rfl, by decide +kernel, by decide +kernel⟩
theorem ok_spoilt (T : Fx w K mg base) : ∀ d, d ≤ 12 → Ok PR w K mg base d__law_spoilt ["_law_state", "_law_told_here", "_law_near"] (d + 4) (spSpoilt d)
  | 0, _ => by
    refine Ok.mk (k := 3) (N := ["_law_state", "_law_told_here", "_law_near", "_law_at", "_law_rows_here", "_law_letter", "_law_kid"]) T.i__law_spoilt sc__law_spoilt (fun vs H Q E h => ?_) (fun _ _ _ _ _ _ us hl => match us, hl with | [_, _, _], _ => rfl) (fun cdv A outer s H vs Q E hr h => ?_)
    · obtain ⟨_, _, _, _, _, _, rfl, _⟩ := h
      rfl
    · obtain ⟨_, _, _, _, _, o, _, _, _, _, f, h1, _⟩ := h
      cases o with
      | none => exact absurd (h1 rfl) (by decide)
      | some t => exact (f t rfl).fit.no.elim
  | d + 1, hd12 => by
    obtain ⟨fd1, F__law_spoilt, b__law_spoilt, k__law_spoilt⟩ := ok_spoilt T d (Nat.le_of_succ_le hd12)
    obtain ⟨fd2, F__law_changed, b__law_changed, k__law_changed⟩ := ok_changed T (d + 1) hd12
    obtain ⟨fd__law_draw, F__law_draw, b__law_draw, k__law_draw⟩ := ok_draw T
    obtain ⟨fd__law_key, F__law_key, b__law_key, k__law_key⟩ := ok_key T
    obtain ⟨fd__law_value, F__law_value, b__law_value, k__law_value⟩ := ok_value T
    refine Ok.mk (k := d + 4) (N := ["_law_state", "_law_told_here", "_law_near", "_law_at", "_law_rows_here", "_law_letter", "_law_kid"]) T.i__law_spoilt sc__law_spoilt (fun vs H Q E h => ?_) (fun _ _ _ _ _ _ us hl => match us, hl with | [_, _, _], _ => rfl) (fun cdv A outer s H vs Q E hr h => ?_)
    · obtain ⟨_, _, _, _, _, _, rfl, _⟩ := h
      rfl
    · obtain ⟨st, ce, nr, cs, v, o, rfl, S0, N0, ht, hneat, _, k⟩ := h
      have nn := N0.ne S0
      refine ⟨_, PSs.nox (pss_cons (ps_if (pt_cmpR op_isN (pv 1) pe_non (nomark _))
      (pss_one (ps_ret (pe_tup (pa_cons pe_str (pa_cons (pe_call F__law_key (hr.mono (by first | decide | omega)) rfl T.g__law_key k__law_key b__law_key .nil passL (pa_cons (pv 0) (pa_cons (pv 2) pa_nil))) (pa_cons (pe_call F__law_value (hr.mono (by first | decide | omega)) rfl T.g__law_value k__law_value b__law_value .nil passL (pa_cons (pv 0) pa_nil)) (pa_cons (pe_tup pa_nil) pa_nil)))))))
      pss_nil)
    (C8.pss_cut (ps_if (PW.pt (pw_or (pt_cmpR op_eq (pe_ix ix_tup (pv 1) pe_int (fun _ _ => rfl)) pe_str (nomark _)) (pw_or (pt_cmpR (op_eqD hr.units) (pe_ix ix_tup (pv 1) pe_int (fun _ _ => rfl)) (pe_tup pa_nil) (nomark _)) (pw_or1 (pt_cmpR op_eq (pe_call F__law_draw (hr.mono (by first | decide | omega)) rfl T.g__law_draw k__law_draw b__law_draw .nil passL (pa_cons (pv 0) (pa_cons pe_int pa_nil))) pe_int (nomark _))))))
      (pss_one (ps_ret (pe_call F__law_changed (hr.mono (by first | decide | omega)) rfl T.g__law_changed k__law_changed b__law_changed .nil passL (pa_cons (pv 0) (pa_cons (pv 1) (pa_cons (pv 2) pa_nil))))))
      pss_nil)
    (pss_cons (ps_set (i := 3) sc__law_spoilt.nd rfl (Or.inl rfl) (pe_call F__law_draw (hr.mono (by first | decide | omega)) rfl T.g__law_draw k__law_draw b__law_draw .nil passL (pa_cons (pv 0) (pa_cons (pe_callB call_len_seq rfl T.f_len B_len (pa_cons (pe_ix ix_tup (pv 1) pe_int (fun _ _ => rfl)) pa_nil)) pa_nil))))
    (pss_cons (ps_asg (pe_ix ix_tup (pe_ix ix_tup (pv 1) pe_int (fun _ _ => rfl)) (pv 3) (fun _ _ => rfl)) (pg_tup rfl (pgs_cons (pg_name (i := 5) sc__law_spoilt.nd rfl (Or.inl rfl)) (pgs_cons (pg_name (i := 6) sc__law_spoilt.nd rfl (Or.inl rfl)) pgs_nil))))
    (pss_cons (ps_set (i := 4) sc__law_spoilt.nd rfl (Or.inl rfl) (pe_op op_catA (pe_op op_catA (pe_slice sl_tupA (pe_ix ix_tup (pv 1) pe_int (fun _ _ => rfl)) po_none (po_some (pv 3))) (pe_tup (pa_cons (pe_tup (pa_cons (pv 5) (pa_cons (pe_call F__law_spoilt (hr.mono (by first | decide | omega)) rfl T.g__law_spoilt k__law_spoilt b__law_spoilt .nil passL (pa_cons (pv 0) (pa_cons (pv 6) (pa_cons (pv 2) pa_nil)))) pa_nil))) pa_nil))) (pe_slice sl_tupA (pe_ix ix_tup (pv 1) pe_int (fun _ _ => rfl)) (po_some (pe_op op_add (pv 3) pe_int)) po_none)))
    (pss_one (ps_ret (pe_tup (pa_cons pe_str (pa_cons (pe_ix ix_tup (pv 1) pe_int (fun _ _ => rfl)) (pa_cons (pe_ix ix_tup (pv 1) pe_int (fun _ _ => rfl)) (pa_cons (pv 4) pa_nil)))))))))))), ?_⟩
      cases o with
      | none =>
        have ht : v = .non := ht
        subst ht
        refine ⟨_, rfl, rfl, _, rfl, ?_⟩
        refine iteT ?_
        refine ⟨_, rfl, _, rfl, st, ce, nr, cs, rfl, S0, N0, fun l H1 hl k1 S1 => ?_⟩
        refine ⟨_, rfl, st, ce, rfl, S1, fun x H2 hx k2 S2 => ?_⟩
        refine ⟨by show 0 ≤ sizeLine; decide, fun q hq => ⟨by show 4 ≤ sizeLine; decide, fun p hp => ?_⟩⟩
        have kq := Keep.new (L := []) (D := []) (o := .tup []) hq
        have kp := Keep.new (L := []) (D := []) (o := .tup [.str "node", tx l, tx x, .ref q]) hp
        have kk := kq.trans kp
        refine k (.ref p) (.node l (some x) []) _ ?_ ?_ ?_ ((k1.trans k2).trans kk.mono0) (S2.keep0 kk)
        · unfold Tells
          exact ⟨p, q, [], rfl, upd_same, kp.tup upd_same, tellsL_nil⟩
        · exact fit_node ⟨hl.2, Nat.le_trans hl.1 (by decide)⟩ (fun l e => by cases e; exact ⟨Nat.le_trans hx.1 (by decide), hx.2⟩) (fun p hp => by cases hp) (by rw [sizes_nil]; decide)
        · rw [size_node, sizes_nil]
          exact Nat.le_refl _
      | some t =>
        have neat := hneat t rfl
        have fit := neat.fit
        have ht : Tells H t v := ht
        have hsO : sizeO (some t) = t.size := rfl
        have chg : ∀ H2, Keep [st, ce] [] H H2 → StateAt H2 st ce → spChanged (d + 1) [.ref st, v, .ref nr] H2 Q E := fun H2 k2 S2 =>
          ⟨st, ce, nr, cs, v, t, rfl, S2, N0.keep k2 nn, tells_keep k2 t v ht, neat, fun u t' H3 h1 h2 h3 h4 h5 => k u t' H3 h1 h2 h3 (k2.trans h4) h5⟩
        refine ⟨_, rfl, rfl, _, rfl, ?_⟩
        rw [decide_eq_false (tells_ref ht)]
        refine iteF ?_
        refine ⟨fun σ H' => σ = [some (.ref st), some v, some (.ref nr), none, none, none, none] ∧ Keep [st, ce] [] H H' ∧ StateAt H' st ce ∧ ∃ s x ks, t = .node s x ks ∧ 0 < ks.length, ?_, ?_⟩
        · cases t with
          | stub n =>
            have ht' := ht
            unfold Tells at ht'
            obtain ⟨a, rfl, ha⟩ := ht'
            refine ⟨_, rfl, a, _, _, _, rfl, rfl, SqT.of ha, rfl, rfl, _, rfl, ?_⟩
            refine iteT ?_
            exact ⟨_, rfl, _, rfl, _, rfl, chg H (Keep.refl H) S0⟩
          | node sm x ks =>
            have ht' := ht
            unfold Tells at ht'
            obtain ⟨a, b, us, rfl, ha, hb, hL⟩ := ht'
            refine ⟨_, rfl, a, _, _, _, rfl, rfl, SqT.of ha, rfl, rfl, _, rfl, ?_⟩
            refine iteF ?_
            refine ⟨_, rfl, a, _, _, _, rfl, rfl, SqT.of ha, rfl, by show 0 ≤ sizeLine; decide, fun p0 hp0 => ?_⟩
            have k0 := Keep.new (L := []) (D := []) (o := .tup []) hp0
            obtain ⟨dp, sh, eq⟩ := rows_dp (K := K) fit hd12 (k0.tup hb) (tellsL_keep k0 hL)
            refine ⟨_, _, dp, .tup (SqT.of upd_same) .nil, sh, rfl, _, rfl, ?_⟩
            rw [eq]
            have S3 := S0.keep0 k0
            have k3 := k0.mono0 (L := [st, ce]) (D := [])
            refine ite2 (fun _ => ⟨_, rfl, _, rfl, _, rfl, chg _ k3 S3⟩) (fun hne => ?_)
            refine ⟨_, rfl, st, ce, 3, rfl, S3, by decide, by decide, fun j H4 hj k4 S4 => ⟨rfl, _, rfl, ?_⟩⟩
            refine ite2 (fun _ => ⟨_, rfl, _, rfl, _, rfl, chg _ (k3.trans k4) S4⟩) (fun _ => ?_)
            refine ⟨rfl, k3.trans k4, S4, sm, x, ks, rfl, ?_⟩
            cases ks with
            | nil => exact absurd rfl hne
            | cons a r => exact Nat.succ_pos _
        · rintro σ H3 ⟨rfl, k3, S3, sm, x, ks, rfl, hkpos⟩
          have ht' := ht
          unfold Tells at ht'
          obtain ⟨a, b, us, rfl, ha0, hb0, hL0⟩ := ht'
          have ha := k3.tup ha0
          have hb := k3.tup hb0
          have hL := tellsL_keep k3 hL0
          have hln := tellsL_len hL
          have hkl := sizes_len ks
          have hsz := fit.size
          rw [size_node] at hsz
          have fk : ∀ p ∈ ks, (97 ≤ p.1 ∧ p.1 ≤ 122) ∧ Fit d p.2 := fun p hp => fit.kid hp
          have fx : ∀ l, x = some l → l.length ≤ 41 ∧ Signs l := fun l e => ⟨fit.val e, fit.sgn e⟩
          refine ⟨_, rfl, _, rfl, a, _, _, _, rfl, rfl, SqT.of ha, rfl, b, us, rfl, .inr (SqT.of hb), st, ce, us.length, rfl, S3, by omega, Nat.lt_of_le_of_lt (by omega : us.length ≤ 100) (by decide), fun i H4 hi k4 S4 => ?_⟩
          have k04 := k3.trans k4
          have ha4 := k04.tup ha0
          have hb4 := k04.tup hb0
          have hL4 := tellsL_keep k04 hL0
          have ei : us[i]? = some us[i] := List.getElem?_eq_getElem hi
          obtain ⟨c, t, r, u, ek, er, hr2, htt⟩ := tellsL_get hL4 ei
          rw [er] at ei
          refine ⟨_, rfl, a, _, _, _, rfl, rfl, SqT.of ha4, rfl, _, rfl, b, us, _, _, rfl, rfl, SqT.of hb4, atI_nat ei, r, _, rfl, SqT.of hr2, rfl, _, _, rfl, _, _, rfl, rfl, ?_⟩
          refine ⟨_, rfl, a, _, _, _, rfl, rfl, SqT.of ha4, rfl, _, rfl, (i : Int), rfl, tupTo hb4 i fun b1 H5 kb1 hb1 => ?_⟩
          have k05 := k04.trans (kb1.mono0 (L := [st, ce]) (D := []))
          refine ⟨_, rfl, _, rfl, _, rfl, _, rfl, st, ce, nr, cs, u, some t, rfl, S4.keep0 kb1, N0.keep k05 nn, (show Tells H5 t u from tells_keep kb1 t u htt), (fun t2 e => by cases e; exact neat.kid (List.mem_of_getElem? ek)), (fun e => nomatch e), fun u2 t2 H6 n1 n2 n3 n4 n5 => ?_⟩
          have n3 : t2.size ≤ t.size := n3
          have k06 := k05.trans n4
          refine ⟨by show 2 ≤ sizeLine; decide, fun q hq => ⟨by show 1 ≤ sizeLine; decide, fun q2 hq2 => ?_⟩⟩
          have kq := Keep.new (L := []) (D := []) (o := .tup [tx [c], u2]) hq
          have kq2 := Keep.new (L := []) (D := []) (o := .tup [.ref q]) hq2
          have k68 := kq.trans kq2
          have hq8 := kq2.tup (upd_same (H := H6) (a := q) (o := .tup [tx [c], u2]))
          have hq28 : upd (upd H6 q (.tup [tx [c], u2])) q2 (.tup [.ref q]) q2 = some (.tup [.ref q]) := upd_same
          have hu8 := tells_keep k68 t2 u2 n1
          generalize upd (upd H6 q (.tup [tx [c], u2])) q2 (.tup [.ref q]) = H8 at k68 hq8 hq28 hu8
          have k08 := k06.trans (k68.mono0 (L := [st, ce]) (D := []))
          refine tupCat (k68.tup (n4.tup hb1)) hq28 (by rw [List.length_take]; show _ + 1 ≤ 1000; omega) fun b2 H9 kb2 hb2 => ?_
          have k09 := k08.trans (kb2.mono0 (L := [st, ce]) (D := []))
          refine ⟨_, rfl, a, _, _, _, rfl, rfl, SqT.of (k09.tup ha0), rfl, _, rfl, _, _, rfl, rfl, ((i + 1 : Nat) : Int), rfl, tupFromN (k09.tup hb0) (i + 1) fun b3 H10 kb3 hb3 => ?_⟩
          refine tupCat (kb3.tup hb2) hb3 (by rw [List.length_append, List.length_take, List.length_drop]; show _ + 1 + _ ≤ 1000; omega) fun b4 H11 kb4 hb4 => ?_
          have k811 := (kb2.trans kb3).trans kb4
          have k611 := k68.trans k811
          have k011 := k06.trans (k611.mono0 (L := [st, ce]) (D := []))
          have S11 := n5.keep0 k611
          refine ⟨_, rfl, a, _, _, _, rfl, rfl, SqT.of (k011.tup ha0), rfl, _, rfl, a, _, _, _, rfl, rfl, SqT.of (k011.tup ha0), rfl, _, rfl, by show 4 ≤ sizeLine; decide, fun p hp => ?_⟩
          have kp := Keep.new (L := []) (D := []) (o := .tup [.str "node", tx sm, txO x, .ref b4]) hp
          have hspl := split_at ek
          have hszs : sizes ks = sizes (ks.take i) + (t.size + sizes (ks.drop (i + 1))) := by
            conv => lhs; rw [hspl]
            rw [sizes_app, sizes_cons]
          refine k (.ref p) (.node sm x ((ks.take i ++ [(c, t2)]) ++ ks.drop (i + 1))) _ ?_ ?_ ?_ (k011.trans kp.mono0) (S11.keep0 kp)
          · unfold Tells
            refine ⟨p, b4, _, rfl, upd_same, kp.tup hb4, tellsL_keep kp ?_⟩
            exact tellsL_app (tellsL_app (tellsL_take i (tellsL_keep k011 hL0)) (tellsL_one (k811.tup hq8) (tells_keep k811 _ _ hu8))) (tellsL_drop (i + 1) (tellsL_keep k011 hL0))
          · refine fit_node fit.stem fx (fun p hp => ?_) ?_
            · rcases List.mem_append.mp hp with hp | hp
              · rcases List.mem_append.mp hp with hp | hp
                · exact fk p (List.mem_of_mem_take hp)
                · rw [List.mem_singleton.mp hp]
                  exact ⟨(fk _ (List.mem_of_getElem? ek)).1, n2⟩
              · exact fk p (List.mem_of_mem_drop hp)
            · rw [sizes_app, sizes_app, sizes_cons, sizes_nil]
              show 1 + (_ + (t2.size + 0) + _) ≤ 100
              omega
          · show _ ≤ (Tr.node sm x ks).size
            rw [size_node, size_node, sizes_app, sizes_app, sizes_cons, sizes_nil]
            show 1 + (_ + (t2.size + 0) + _) ≤ _
            omega
end
end Seal
/-! SealD28: whether a strange slice is refused, or told as any other. -/
namespace Seal
open PySem PySem.Spec PyProof.Rows L2 SX SealR LamX NdefX
/-! ### pairs as data -/
def datP : List (Tx × Tx) → List PyData
  | [] => []
  | (a, b) :: r => .tuple [.str (S a), .str (S b)] :: datP r
theorem pairL_dp {K : PySem.W.Frag} {H : Hp} : ∀ {l us}, PairL H l us → DpAll K H us (datP l)
  | [], _, h => by
    have h : _ = [] := h
    subst h
    exact .nil
  | (c, n) :: r, _, ⟨a, q, e, h1, h2⟩ => by
    subst e
    exact .cons (.tup (SqT.of h1) (.cons (.str _) (.cons (.str _) .nil))) (pairL_dp h2)
def SmallP (l : List (Tx × Tx)) : Prop := ∀ p ∈ l, (∀ c ∈ p.1, c < 0x110000) ∧ ∀ c ∈ p.2, c < 0x110000
theorem datP_ok : ∀ {l : List (Tx × Tx)}, SmallP l → PyData.canLayAll0 (datP l) = true ∧ PyData.depthAll (datP l) ≤ 1
  | [], _ => ⟨rfl, Nat.zero_le _⟩
  | (a, b) :: r, h => by
    obtain ⟨h1, h2⟩ := h _ List.mem_cons_self
    obtain ⟨i1, i2⟩ := datP_ok (l := r) fun p hp => h p (List.mem_cons_of_mem _ hp)
    refine ⟨?_, ?_⟩
    · show (PyData.canLay0 (.tuple [.str (S a), .str (S b)]) && PyData.canLayAll0 (datP r)) = true
      rw [lay_tup2 (strOk_S h1) (strOk_S h2), i1]
      rfl
    · show max (max 0 (max 0 0) + 1) (PyData.depthAll (datP r)) ≤ 1
      omega
theorem beq_S (a b : Tx) : ((S a == S b) = true) ↔ a = b := ⟨fun h => S_inj (eq_of_beq h), fun h => by rw [h]; exact beq_self_eq_true _⟩
theorem eqv_datP : ∀ {l l' : List (Tx × Tx)}, PyData.eqvAll (datP l) (datP l') = true ↔ l = l'
  | [], [] => ⟨fun _ => rfl, fun _ => rfl⟩
  | [], (_, _) :: _ => ⟨fun h => Bool.noConfusion h, fun h => by cases h⟩
  | (_, _) :: _, [] => ⟨fun h => Bool.noConfusion h, fun h => by cases h⟩
  | (a, b) :: r, (a', b') :: r' => by
    have ih := eqv_datP (l := r) (l' := r')
    show (((S a == S a') && ((S b == S b') && true)) && PyData.eqvAll (datP r) (datP r')) = true ↔ _
    rw [Bool.and_eq_true_iff, Bool.and_eq_true_iff, Bool.and_true, beq_S, beq_S, ih]
    constructor
    · rintro ⟨⟨rfl, rfl⟩, rfl⟩
      rfl
    · intro h
      cases h
      exact ⟨⟨rfl, rfl⟩, rfl⟩
/-! ### what the walks find is small -/
theorem here_small {B : Bd} {x : Option Tx} {k : Tx} (hk : ∀ c ∈ k, c < 0x110000) (hx : ∀ l, x = some l → Signs l) : SmallP (B.here x k) := fun p hp => by
  unfold Bd.here at hp
  cases x with
  | none => cases hp
  | some l =>
    have hp : p ∈ (if B.has k = true then [(k, l)] else []) := hp
    split at hp
    · rw [List.mem_singleton.mp hp]
      exact ⟨hk, (hx l rfl).small⟩
    · cases hp
theorem SmallP.app {a b : List (Tx × Tx)} (ha : SmallP a) (hb : SmallP b) : SmallP (a ++ b) := fun p hp => (List.mem_append.mp hp).elim (ha p) (hb p)
theorem small_app {a b : Tx} (ha : ∀ c ∈ a, c < 0x110000) (hb : ∀ c ∈ b, c < 0x110000) : ∀ c ∈ a ++ b, c < 0x110000 := fun c hc => (List.mem_append.mp hc).elim (ha c) (hb c)
theorem wk_small (B : Bd) : ∀ (t : Tr) (d : Nat) (w : Tx) (f : List (Tx × Tx)), Fit d t → (∀ c ∈ w, c < 0x110000) → SmallP f → SmallP (t.wk B w f).2 := by
  refine Tr.ind (fun n d w f _ _ hf => ?_) fun s x ks ih d w f fit hw hf => ?_
  · unfold Tr.wk
    split
    · exact hf
    · exact hf
  · cases d with
    | zero => exact fit.no.elim
    | succ d =>
      unfold Tr.wk
      split
      · exact hf
      · have hk := small_app hw fit.stem.1.small
        have go : ∀ (l : List (Nat × Tr)) (f : List (Tx × Tx)), (∀ q ∈ l, q ∈ ks) → SmallP f → SmallP (wks B l (w ++ s) f).2 := by
          intro l
          induction l with
          | nil =>
            intro f _ hf
            unfold wks
            exact hf
          | cons q l ihl =>
            obtain ⟨c, t⟩ := q
            intro f hl hf
            have hq := hl _ List.mem_cons_self
            obtain ⟨fc, ft⟩ := fit.kid hq
            have h1 : SmallP (t.wk B (w ++ s ++ [c]) f).2 := ih (c, t) hq d (w ++ s ++ [c]) f ft (small_app hk fun z hz => by
              rw [List.mem_singleton.mp hz]
              have := fc.2
              show c < _
              omega) hf
            cases e : (t.wk B (w ++ s ++ [c]) f).1 with
            | some z =>
              rw [wks_cons_some e]
              exact h1
            | none =>
              rw [wks_cons_none e]
              exact ihl _ (fun q hq => hl q (List.mem_cons_of_mem _ hq)) h1
        exact go ks _ (fun _ h => h) (hf.app (here_small hk fun l e => fit.sgn e))
theorem wy_small (B : Bd) : ∀ (t : Tr) (d : Nat) (w : Tx) (f : List (Tx × Tx)) (wy : Tx), Fit d t → (∀ c ∈ w, c < 0x110000) → (t.wk B w f).1 = some wy → ∀ c ∈ wy, c < 0x110000 := by
  refine Tr.ind (fun n d w f wy _ hw e => ?_) fun s x ks ih d w f wy fit hw e => ?_
  · unfold Tr.wk at e
    split at e
    · cases e
    · cases e
      exact hw
  · cases d with
    | zero => exact fit.no.elim
    | succ d =>
      unfold Tr.wk at e
      split at e
      · cases e
      · have hk := small_app hw fit.stem.1.small
        have go : ∀ (l : List (Nat × Tr)) (f : List (Tx × Tx)), (∀ q ∈ l, q ∈ ks) → (wks B l (w ++ s) f).1 = some wy → ∀ c ∈ wy, c < 0x110000 := by
          intro l
          induction l with
          | nil =>
            intro f _ e
            unfold wks at e
            cases e
          | cons q l ihl =>
            obtain ⟨c, t⟩ := q
            intro f hl e
            have hq := hl _ List.mem_cons_self
            obtain ⟨fc, ft⟩ := fit.kid hq
            cases e2 : (t.wk B (w ++ s ++ [c]) f).1 with
            | some z =>
              rw [wks_cons_some e2] at e
              cases e
              exact ih (c, t) hq d (w ++ s ++ [c]) f wy ft (small_app hk fun z hz => by
                rw [List.mem_singleton.mp hz]
                have := fc.2
                show c < _
                omega) e2
            | none =>
              rw [wks_cons_none e2] at e
              exact ihl _ (fun q hq => hl q (List.mem_cons_of_mem _ hq)) e
        exact go ks _ (fun _ h => h) e
theorem lowS_of {d : Nat} : ∀ (t : Tr), Fit d t → t.LowS := fun t f => by
  have go : ∀ t : Tr, t.All (fun s => Lows s ∧ s.length ≤ 9) (fun v => v.length ≤ 41 ∧ Signs v) (fun c => 97 ≤ c ∧ c ≤ 122) (fun n => n < 10 ^ 40) → t.LowS := by
    refine Tr.ind (fun n _ => ?_) fun s x ks ih h => ?_
    · unfold Tr.LowS
      trivial
    · unfold Tr.All at h
      unfold Tr.LowS
      refine ⟨h.1.1, ?_⟩
      have all : ∀ l : List (Nat × Tr), (∀ q ∈ l, q ∈ ks) → lowSs l := by
        intro l
        induction l with
        | nil => intro _; unfold lowSs; trivial
        | cons q l ihl =>
          obtain ⟨c, t⟩ := q
          intro hl
          unfold lowSs
          exact ⟨ih _ (hl _ List.mem_cons_self) (alls_mem h.2.2 (hl _ List.mem_cons_self)).2, ihl fun q hq => hl q (List.mem_cons_of_mem _ hq)⟩
      exact all ks fun _ h => h
  exact go t f.all
theorem txs_mono {M M' : Known} (h : M.Le M') {t : Tr} {x : Tx} (hx : x ∈ txs M t) : x ∈ txs M' t := by
  obtain ⟨n, h1, h2⟩ := List.mem_filterMap.mp hx
  exact List.mem_filterMap.mpr ⟨n, h1, text_mono h h2⟩
theorem txsO_mono {M M' : Known} (h : M.Le M') {o : Option Tr} {x : Tx} (hx : x ∈ txsO M o) : x ∈ txsO M' o := by
  cases o with
  | none => exact hx
  | some t => exact txs_mono h hx
theorem numO_mono {M M' : Known} (h : M.Le M') {o : Option Tr} {k : Nat} (hx : numO M o = some k) : numO M' o = some k := by
  cases o with
  | none => exact h _ _ hx
  | some t => exact num_mono h t k hx
section
variable {w : World} {K : PySem.W.Frag} {mg : Str → Option Value} {base : Heap}
def spRight (K : PySem.W.Frag) : Sp := fun vs H Q _ => ∃ (r n : Nat) (pv tv wv : V) (f dd b lr : Addr) (t : Tr) (o : Option Tr) (M : Known) (B : Bd) (us : List V), vs = [.int (r : Int), pv, tv, .ref f, .ref b, .ref lr, wv] ∧ PartAt K H t pv ∧ Tells H t tv ∧ Fit 12 t ∧ PartO K H o wv ∧ (∀ z, o = some z → Fit 12 z ∧ z.Whole) ∧ SmallP (pairsO o) ∧
  DigAt H f dd M n ∧ H dd ≠ none ∧ n + 50000 < 10 ^ 6 ∧ r < 10 ^ 40 ∧ numO M o = some r ∧ BdAt H b B ∧ BdOk B ∧ H lr = some (.lst us) ∧ PairL H (B.rows (pairsO o)) us ∧
  ∀ M' H', M.Le M' → Keep [] [dd] H H' → DigAt H' f dd M' (n + 50000) → Q (.bl true) H'
theorem rows_small {B : Bd} {l : List (Tx × Tx)} (h : SmallP l) : SmallP (B.rows l) := fun p hp => by
  unfold Bd.rows Bd.cut at hp
  cases e : B.mo with
  | none =>
    rw [e] at hp
    exact h p (List.mem_filter.mp hp).1
  | some m =>
    rw [e] at hp
    exact h p (List.mem_filter.mp (List.mem_of_mem_take hp)).1
theorem sizeO_le {o : Option Tr} (h : ∀ z, o = some z → Fit 12 z ∧ z.Whole) : sizeO o ≤ 100 := by
  cases o with
  | none => decide
  | some t => exact (h t rfl).1.size
theorem sh_str {x : Str} (h : PyData.canLay0 (.str x) = true) (s : Str) (hs : PyData.canLay0 (.str s) = true) : SeqAt.shaped (.tuple [.str s, .str x]) = true := Bool.and_eq_true_iff.mpr ⟨lay_tup2 hs h, rfl⟩
theorem sh_list {l : List (Tx × Tx)} (h : SmallP l) : SeqAt.shaped (.list (datP l)) = true := by
  obtain ⟨h1, h2⟩ := datP_ok h
  refine Bool.and_eq_true_iff.mpr ⟨h1, decide_eq_true ?_⟩
  show PyData.depthAll (datP l) + 1 ≤ 64
  omega
theorem sh_told {l : List (Tx × Tx)} (h : SmallP l) : SeqAt.shaped (.tuple [.str "told", .list (datP l)]) = true := by
  obtain ⟨h1, h2⟩ := datP_ok h
  refine Bool.and_eq_true_iff.mpr ⟨lay_tup2 (by decide +kernel) h1, decide_eq_true ?_⟩
  show max 0 (max (PyData.depthAll (datP l) + 1) 0) + 1 ≤ 64
  omega
theorem eq_told {l l' : List (Tx × Tx)} (h : l = l') : PyData.eqv (.tuple [.str "told", .list (datP l)]) (.tuple [.str "told", .list (datP l')]) = true := by
  show (("told" : Str) == "told" && (PyData.eqvAll (datP l) (datP l') && true)) = true
  rw [eqv_datP.mpr h]
  rfl
theorem sc__law_right : FnScope ["_law_root", "_law_part_here", "_law_told_here", "_law_seal", "_law_bounds_here", "_law_rows_here", "_law_whole", "_law_number_here", "_law_found", "_law_due", "_law_lack_here", "_law_texts_here"] ["_law_root", "_law_part_here", "_law_told_here", "_law_seal", "_law_bounds_here", "_law_rows_here", "_law_whole"] (defScope s__law_right) := ⟨rfl, rfl, rfl, by decide +kernel, rfl, by decide +kernel, by decide +kernel⟩
theorem ok_right (T : Fx w K mg base) : Ok PR w K mg base d__law_right ["_law_root", "_law_part_here", "_law_told_here", "_law_seal", "_law_bounds_here", "_law_rows_here", "_law_whole"] 40 (spRight K) := by
  obtain ⟨fd1, F__law_number, b__law_number, k__law_number⟩ := ok_numT T 12
  obtain ⟨fd2, F__law_asked, b__law_asked, k__law_asked⟩ := ok_asked T
  obtain ⟨fd3, F__law_lack, b__law_lack, k__law_lack⟩ := ok_lack T 12
  obtain ⟨fd4, F_seen_texts, b_seen_texts, k_seen_texts⟩ := ok_seen T
  obtain ⟨fd5, F_clash_in, b_clash_in, k_clash_in⟩ := ok_clash T
  obtain ⟨fd6, F__law_is_clash, b__law_is_clash, k__law_is_clash⟩ := ok_is_clash T
  refine Ok.mk (k := 39) (N := ["_law_root", "_law_part_here", "_law_told_here", "_law_seal", "_law_bounds_here", "_law_rows_here", "_law_whole", "_law_number_here", "_law_found", "_law_due", "_law_lack_here", "_law_texts_here"]) T.i__law_right sc__law_right (fun vs H Q E h => ?_) (fun _ _ _ _ _ _ us hl => match us, hl with | [_, _, _, _, _, _, _], _ => rfl) (fun cdv A outer s H vs Q E hr h => ?_)
  · obtain ⟨_, _, _, _, _, _, _, _, _, _, _, _, _, _, rfl, _⟩ := h
    rfl
  · obtain ⟨r, n, pv_, tv, wv, f, dd, b, lr, t, o, M, B, us, rfl, hP, ht, fit, hO, hW, hSm, D, hdd, hn, hr40, hnum, hb, hB, hlr, hrow, k⟩ := h
    have hu := hu_of hr
    have hsz := fit.size
    have hszO := sizeO_le hW
    refine ⟨_, PSs.nox (pss_cons (ps_set (i := 7) sc__law_right.nd rfl (Or.inl rfl) (pe_call F__law_number (hr.mono (by first | decide | omega)) rfl T.g__law_number k__law_number b__law_number .nil passL (pa_cons (pv 2) (pa_cons (pv 3) pa_nil))))
    (pss_cons (ps_set (i := 8) sc__law_right.nd rfl (Or.inl rfl) (pe_call F__law_asked (hr.mono (by first | decide | omega)) rfl T.g__law_asked k__law_asked b__law_asked .nil passL (pa_cons (pv 0) (pa_cons (pv 1) (pa_cons (pv 3) (pa_cons (pv 4) pa_nil))))))
    (pss_cons (ps_if (pt_cmpR op_ne (pv 7) (pv 0) (nomark _))
      (pss_one (ps_ret (pe_cmpR (op_eqD hr.units) (pv 8) (pe_tup (pa_cons pe_str (pa_cons (pv 7) pa_nil))) (nomark _))))
      pss_nil)
    (pss_cons (ps_set (i := 9) sc__law_right.nd rfl (Or.inl rfl) (pe_lst pa_nil))
    (pss_cons (ps_set (i := 10) sc__law_right.nd rfl (Or.inl rfl) (pe_call F__law_lack (hr.mono (by first | decide | omega)) rfl T.g__law_lack k__law_lack b__law_lack .nil passL (pa_cons (pv 2) (pa_cons pe_str (pa_cons (pv 4) (pa_cons (pv 9) pa_nil))))))
    (pss_cons (ps_if (pt_cmpR op_notN (pv 10) pe_non (nomark _))
      (pss_one (ps_ret (pe_cmpR (op_eqD hr.units) (pv 8) (pe_tup (pa_cons pe_str (pa_cons (pv 10) pa_nil))) (nomark _))))
      pss_nil)
    (pss_cons (ps_if (PW.pt (pw_or (pt_cmpR (op_neD hr.units) (pv 8) (pe_tup (pa_cons pe_str (pa_cons (pv 9) pa_nil))) (nomark _)) (pw_or1 (pt_cmpR (op_eqD hr.units) (pv 9) (pv 5) (nomark _)))))
      (pss_one (ps_ret (pe_cmpR (op_eqD hr.units) (pv 8) (pe_tup (pa_cons pe_str (pa_cons (pv 9) pa_nil))) (nomark _))))
      pss_nil)
    (pss_cons (ps_set (i := 11) sc__law_right.nd rfl (Or.inl rfl) (pe_op op_cat (pe_call F_seen_texts (hr.mono (by first | decide | omega)) rfl T.g_seen_texts k_seen_texts b_seen_texts .nil passL (pa_cons (pv 1) (pa_cons (pv 3) pa_nil))) (pe_call F_seen_texts (hr.mono (by first | decide | omega)) rfl T.g_seen_texts k_seen_texts b_seen_texts .nil passL (pa_cons (pv 6) (pa_cons (pv 3) pa_nil)))))
    (pss_one (ps_ret (pe_call F__law_is_clash (hr.mono (by first | decide | omega)) rfl T.g__law_is_clash k__law_is_clash b__law_is_clash .nil passL (pa_cons (pe_call F_clash_in (hr.mono (by first | decide | omega)) rfl T.g_clash_in k_clash_in b_clash_in .nil passL (pa_cons (pv 11) (pa_cons (pv 3) pa_nil))) (pa_cons (pv 11) (pa_cons (pv 3) pa_nil)))))))))))))), ?_⟩
    refine ⟨_, rfl, _, rfl, tv, t, f, dd, M, n, rfl, ht, fit, D, by omega, fun k1 M1 H1 m1 m2 m3 m4 m5 => ?_⟩
    have hb1 := m4.tup hb
    refine ⟨_, rfl, _, rfl, _, rfl, _, rfl, pv_, t, f, dd, b, M1, _, r, B, rfl, part_keep m4 _ _ hP, fit, m5, by omega, hb1, hB, hr40, fun u M2 H2 n1 n2 n3 n4 => ?_⟩
    obtain ⟨p, k2, rfl, q1, q2, q3⟩ := n2
    have k12 : k2 = k1 := by
      have := num_mono n1 t k1 m2
      rw [q1] at this
      exact Option.some.inj this
    subst k12
    have k02 := m4.trans n3
    refine ⟨_, rfl, _, rfl, rfl, _, rfl, ?_⟩
    rcases q3 with ⟨hne, hp⟩ | ⟨rfl, q3⟩
    · rw [decide_eq_false (fun z => hne (by have := V.int.inj z; omega))]
      refine iteT ?_
      refine ⟨_, rfl, _, rfl, by show 2 ≤ sizeLine; decide, fun p2 hp2 => ?_⟩
      have kp := Keep.new (L := []) (D := []) (o := .tup [.str "root", .int (k2 : Int)]) hp2
      refine ⟨.tuple [.str "root", .int (k2 : Int)], .tuple [.str "root", .int (k2 : Int)], .tup (SqT.of (kp.tup hp)) (.cons (.str _) (.cons (.int _) .nil)), .tup (SqT.of upd_same) (.cons (.str _) (.cons (.int _) .nil)), ?_, ?_, ?_⟩
      · exact Bool.and_eq_true_iff.mpr ⟨lay_tup2 (by decide +kernel) rfl, rfl⟩
      · exact Bool.and_eq_true_iff.mpr ⟨lay_tup2 (by decide +kernel) rfl, rfl⟩
      · have e : PyData.eqv (.tuple [.str "root", .int (k2 : Int)]) (.tuple [.str "root", .int (k2 : Int)]) = true := by
          show (("root" : Str) == "root" && ((k2 : Int) == (k2 : Int) && true)) = true
          rw [beq_self_eq_true, beq_self_eq_true]
          rfl
        rw [e]
        exact k M2 _ (m1.trans n1) (k02.trans kp.mono0) ((n4.keep0 kp).mono (by omega))
    · rw [decide_eq_true rfl]
      refine iteF ?_
      refine ⟨by show 0 ≤ sizeLine; decide, fun dl hdl => ?_⟩
      have kd := Keep.new (L := []) (D := []) (o := .lst []) hdl
      have hso : sizeO (some t) = t.size := rfl
      have hdl0 : H dl = none := k02.dom _ hdl
      refine ⟨_, rfl, _, rfl, _, rfl, tv, t, [], b, dl, B, [], [], rfl, tells_keep k02 _ _ ht |> tells_keep kd _ _, fit, kd.tup (k02.tup hb), upd_same, rfl, by decide, by show 0 + t.size ≤ 1000; omega, fun us2 H4 g1 g2 g3 => ?_⟩
      have k24 : Keep [] [] H2 H4 := kd.cut g3 (fun z hz => by rw [List.mem_singleton.mp hz]; exact .inr hdl) (fun z hz => by cases hz)
      have k04 : Keep [] [dd] H H4 := k02.trans k24.mono0
      have D4 := n4.keep0 k24
      refine ⟨_, rfl, rfl, _, rfl, ?_⟩
      rw [txO_dec]
      rcases q3 with ⟨wy, e1, hp⟩ | ⟨e1, l, ls, hp, hl, hls⟩
      · rw [e1]
        refine iteT ?_
        refine ⟨_, rfl, _, rfl, by show 2 ≤ sizeLine; decide, fun p2 hp2 => ?_⟩
        have kp := Keep.new (L := []) (D := []) (o := .tup [.str "unseen", txO (some wy)]) hp2
        have hwy := wy_small B t 12 [] [] wy fit (fun c hc => by cases hc) e1
        have dp : ∀ {H5 : Hp} {q : Addr}, H5 q = some (.tup [.str "unseen", tx wy]) → Dp K H5 (.ref q) (.tuple [.str "unseen", .str (S wy)]) := fun e => .tup (SqT.of e) (.cons (.str _) (.cons (.str _) .nil))
        have sh : SeqAt.shaped (.tuple [.str "unseen", .str (S wy)]) = true := sh_str (strOk_S hwy) _ (by decide +kernel)
        refine ⟨_, _, dp (kp.tup (k24.tup hp)), dp upd_same, sh, sh, ?_⟩
        have e : PyData.eqv (.tuple [.str "unseen", .str (S wy)]) (.tuple [.str "unseen", .str (S wy)]) = true := by
          show (("unseen" : Str) == "unseen" && (S wy == S wy && true)) = true
          rw [beq_self_eq_true, beq_self_eq_true]
          rfl
        rw [e]
        exact k M2 _ (m1.trans n1) (k04.trans kp.mono0) ((D4.keep0 kp).mono (by omega))
      · rw [e1]
        refine iteF ?_
        have hws : SmallP (t.wk B [] []).2 := wk_small B t 12 [] [] fit (fun c hc => by cases hc) (fun p hp => by cases hp)
        have hrs := rows_small (B := B) hSm
        have hp4 := k24.tup hp
        have hl4 := k24.lst hl (by simp)
        have hls4 := pairL_keep k24 hls
        have told : ∀ (H5 : Hp) (p2 : Addr), Keep [] [] H4 H5 → H5 p2 = some (.tup [.str "told", .ref dl]) → Dp K H5 (.ref p) (.tuple [.str "told", .list (datP (t.wk B [] []).2)]) ∧ Dp K H5 (.ref p2) (.tuple [.str "told", .list (datP (t.wk B [] []).2)]) := fun H5 p2 k5 hp2 =>
          ⟨.tup (SqT.of (k5.tup hp4)) (.cons (.str _) (.cons (.lst (SqL.of (k5.lst hl4 (by simp))) (pairL_dp (pairL_keep k5 hls4))) .nil)), .tup (SqT.of hp2) (.cons (.str _) (.cons (.lst (SqL.of (k5.lst g1 (by simp))) (pairL_dp (pairL_keep k5 g2))) .nil))⟩
        refine ⟨_, rfl, _, rfl, by show 2 ≤ sizeLine; decide, fun p2 hp2 => ?_⟩
        have kp := Keep.new (L := []) (D := []) (o := .tup [.str "told", .ref dl]) hp2
        obtain ⟨x1, x2⟩ := told _ p2 kp upd_same
        refine ⟨_, _, x1, x2, sh_told hws, sh_told hws, _, rfl, ?_⟩
        rw [eq_told rfl]
        refine iteF ?_
        have k05 := k04.trans (kp.mono0 (L := []) (D := [dd]))
        have D5 := D4.keep0 kp
        generalize hH5 : upd H4 p2 (.tup [.str "told", .ref dl]) = H5 at kp x1 x2 k05 D5
        have e5 : Dp K H5 (.ref dl) (.list (datP (t.wk B [] []).2)) := .lst (SqL.of (kp.lst g1 (by simp))) (pairL_dp (pairL_keep kp g2))
        have e6 : Dp K H5 (.ref lr) (.list (datP (B.rows (pairsO o)))) := .lst (SqL.of (k05.lst hlr (by simp))) (pairL_dp (pairL_keep k05 hrow))
        refine ⟨_, rfl, _, rfl, _, _, e5, e6, sh_list hws, sh_list hrs, _, rfl, ?_⟩
        refine ite2 (fun _ => ?_) (fun hne => ?_)
        · refine ⟨_, rfl, _, rfl, by show 2 ≤ sizeLine; decide, fun p3 hp3 => ?_⟩
          have kp3 := Keep.new (L := []) (D := []) (o := .tup [.str "told", .ref dl]) hp3
          obtain ⟨y1, y2⟩ := told _ p3 (kp.trans kp3) upd_same
          refine ⟨_, _, y1, y2, sh_told hws, sh_told hws, ?_⟩
          rw [eq_told rfl]
          exact k M2 _ (m1.trans n1) (k05.trans kp3.mono0) ((D5.keep0 kp3).mono (by omega))
        · have hneq : (t.wk B [] []).2 ≠ B.rows (pairsO o) := fun z => hne (eqv_datP.mpr z)
          have hc := heart (B := B) q1 (numO_mono (m1.trans n1) hnum) (fun z e => ⟨(hW z e).2, lowS_of z (hW z e).1⟩) (lowS_of t fit) e1
          have hc : Clash M2 (txs M2 t ++ txsO M2 o) := hc.resolve_left hneq
          refine ⟨_, rfl, _, rfl, pv_, some t, f, dd, M2, _, rfl, (show PartAt K H5 t pv_ from part_keep k05 _ _ hP), (fun t2 e => by cases e; exact fit), D5, by omega, fun l1 ts1 M3 H6 a1 a2 a3 a4 a5 a6 a7 a8 => ?_⟩
          refine ⟨_, rfl, _, rfl, wv, o, f, dd, M3, _, rfl, partO_keep (k05.trans a7) hO, (fun z e => (hW z e).1), a8, by omega, fun l2 ts2 M4 H7 b1 b2 b3 b4 b5 b6 b7 b8 => ?_⟩
          refine ⟨l1, l2, _, _, rfl, rfl, b7.lst a5 (by simp), b5, toSz (by rw [List.length_map, List.length_map]; omega), fun lt hlt => ?_⟩
          have kt := Keep.new (L := []) (D := []) (o := .lst (ts1.map tx ++ ts2.map tx)) hlt
          have k08 := ((k05.trans a7).trans b7).trans (kt.mono0 (L := []) (D := [dd]))
          have htl : ∀ z ∈ ts1 ++ ts2, z.length ≤ 5000 := fun z hz => (List.mem_append.mp hz).elim (a3 z) (b3 z)
          have hlen : (ts1 ++ ts2).length ≤ 200 := by rw [List.length_append]; omega
          refine ⟨_, rfl, _, rfl, lt, f, dd, ts1 ++ ts2, M4, _, rfl, by rw [upd_same, List.map_append], htl, by omega, b8.keep0 kt, (fun z => hdd (k08.dom _ z)), by omega, fun v M5 H9 c1 c2 c3 c4 => ?_⟩
          have hcl : ClashAt H9 M5 (ts1 ++ ts2) v := by
            refine c2.resolve_right fun z => z.2 ?_
            refine Clash.mono ((a1.trans b1).trans c1) (fun x hx => ?_) hc
            rcases List.mem_append.mp hx with hx | hx
            · refine List.mem_append_left _ ?_
              rw [a2]
              exact txs_mono a1 hx
            · refine List.mem_append_right _ ?_
              rw [b2]
              exact txsO_mono (a1.trans b1) hx
          refine ⟨_, rfl, _, rfl, v, lt, f, dd, ts1 ++ ts2, M5, _, rfl, ?_, htl, hcl, c4, by omega, fun M6 H10 d1 d2 d3 => ?_⟩
          · refine c3.lst ?_ (by simp)
            rw [upd_same, List.map_append]
          · exact k M6 H10 (((((m1.trans n1).trans a1).trans b1).trans c1).trans d1) ((k08.trans c3).trans d2) (d3.mono (by omega))
end
end Seal
/-! SealC: the tree of a content. No program in sight. -/
namespace Seal
open PySem
/-! ### pairs behind a way -/
theorem pairs_shift : ∀ (t : Tr) (w : Tx), t.pairs w = (t.pairs []).map fun p => (w ++ p.1, p.2) := by
  have key : ∀ (t : Tr) (w v : Tx), t.pairs (w ++ v) = (t.pairs v).map fun p => (w ++ p.1, p.2) := by
    refine Tr.ind (fun n w v => ?_) fun s x ks ih w v => ?_
    · unfold Tr.pairs
      rfl
    · have go : ∀ (l : List (Nat × Tr)) (k : Tx), (∀ q ∈ l, q ∈ ks) → pairss l (w ++ k) = (pairss l k).map fun p => (w ++ p.1, p.2) := by
        intro l
        induction l with
        | nil =>
          intro k _
          unfold pairss
          rfl
        | cons q l ihl =>
          obtain ⟨c, t⟩ := q
          intro k hl
          unfold pairss
          rw [List.map_append, ← ihl k fun q hq => hl q (List.mem_cons_of_mem _ hq), List.append_assoc]
          congr 1
          exact ih (c, t) (hl _ List.mem_cons_self) w (k ++ [c])
      unfold Tr.pairs
      rw [List.map_append, List.append_assoc, go ks (v ++ s) fun _ h => h]
      congr 1
      cases x with
      | none => rfl
      | some l => rfl
  intro t w
  have := key t w []
  rwa [List.append_nil] at this
theorem mem_pairss {p : Tx × Tx} : ∀ {l : List (Nat × Tr)} {k : Tx}, p ∈ pairss l k ↔ ∃ q ∈ l, p ∈ q.2.pairs (k ++ [q.1])
  | [], k => by
    unfold pairss
    exact ⟨fun h => (by cases h), fun ⟨_, h, _⟩ => (by cases h)⟩
  | (c, t) :: r, k => by
    unfold pairss
    rw [List.mem_append, mem_pairss (l := r)]
    constructor
    · rintro (h | ⟨q, h1, h2⟩)
      · exact ⟨(c, t), List.mem_cons_self, h⟩
      · exact ⟨q, List.mem_cons_of_mem _ h1, h2⟩
    · rintro ⟨q, h1, h2⟩
      rcases List.mem_cons.mp h1 with e | h1
      · subst e
        exact .inl h2
      · exact .inr ⟨q, h1, h2⟩
/-! ### what stands behind a letter -/
def subC (C : List (Tx × Tx)) (s : Tx) (c : Nat) : List (Tx × Tx) := (C.filter fun p => (s ++ [c]).isPrefixOf p.1).map fun p => (p.1.drop (s.length + 1), p.2)
theorem mem_subC {C : List (Tx × Tx)} {s : Tx} {c : Nat} {p : Tx × Tx} : p ∈ subC C s c ↔ (s ++ [c] ++ p.1, p.2) ∈ C := by
  unfold subC
  rw [List.mem_map]
  constructor
  · rintro ⟨q, hq, rfl⟩
    obtain ⟨h1, h2⟩ := List.mem_filter.mp hq
    obtain ⟨z, e⟩ := List.isPrefixOf_iff_prefix.mp h2
    have e2 : q.1.drop (s.length + 1) = z := by
      rw [← e, List.drop_append_of_le_length (by simp), List.drop_of_length_le (by simp), List.nil_append]
    show (s ++ [c] ++ q.1.drop (s.length + 1), q.2) ∈ C
    rw [e2, e]
    exact h1
  · intro h
    refine ⟨_, List.mem_filter.mpr ⟨h, List.isPrefixOf_iff_prefix.mpr (List.prefix_append _ _)⟩, ?_⟩
    have e : (s ++ [c] ++ p.1).drop (s.length + 1) = p.1 := by
      rw [List.drop_append_of_le_length (by simp), List.drop_of_length_le (by simp), List.nil_append]
    show ((s ++ [c] ++ p.1).drop (s.length + 1), p.2) = p
    rw [e]
theorem subC_nd {C : List (Tx × Tx)} {s : Tx} {c : Nat} (h : (C.map (·.1)).Nodup) : ((subC C s c).map (·.1)).Nodup := by
  have hp : (C.map (·.1)).Pairwise (· ≠ ·) := h
  rw [List.pairwise_map] at hp
  show ((subC C s c).map (·.1)).Pairwise (· ≠ ·)
  unfold subC
  rw [List.map_map, List.pairwise_map]
  refine List.Pairwise.imp_of_mem (R := fun a b => a.1 ≠ b.1) (fun {a b} ha hb hab => ?_) (hp.filter _)
  obtain ⟨_, h1⟩ := List.mem_filter.mp ha
  obtain ⟨_, h2⟩ := List.mem_filter.mp hb
  obtain ⟨x, ex⟩ := List.isPrefixOf_iff_prefix.mp h1
  obtain ⟨y, ey⟩ := List.isPrefixOf_iff_prefix.mp h2
  intro z
  apply hab
  have z : a.1.drop (s.length + 1) = b.1.drop (s.length + 1) := z
  rw [← ex, ← ey, List.drop_append_of_le_length (by simp), List.drop_of_length_le (by simp), List.drop_append_of_le_length (by simp), List.drop_of_length_le (by simp), List.nil_append, List.nil_append] at z
  rw [← ex, ← ey, z]
theorem subC_len {C : List (Tx × Tx)} {s : Tx} {c : Nat} : (subC C s c).length ≤ C.length := by
  unfold subC
  rw [List.length_map]
  exact List.length_filter_le _ _
/-! ### rising -/
theorem sortC_mem {C l : List (Tx × Tx)} (nd : (C.map (·.1)).Nodup) (up : l.Pairwise fun a b => a.1 < b.1) (h : ∀ p, p ∈ l ↔ p ∈ C) : SortC C l := by
  have hp : (C.map (·.1)).Pairwise (· ≠ ·) := nd
  rw [List.pairwise_map] at hp
  refine ⟨(List.perm_ext_iff_of_nodup ?_ ?_).mpr h, up⟩
  · show l.Pairwise (· ≠ ·)
    refine up.imp fun {a b} hab e => ?_
    rw [e] at hab
    exact List.lt_irrefl _ hab
  · exact hp.imp fun {a b} hab e => hab (by rw [e])
theorem pre_lt {s : Tx} {c c' : Nat} {x y : Tx} (h : c < c') : s ++ [c] ++ x < s ++ [c'] ++ y := by
  rw [List.append_assoc, List.append_assoc]
  exact app_lt_app.mpr (List.cons_lt_cons_iff.mpr (.inl h))
theorem self_lt (s : Tx) (c : Nat) (x : Tx) : s < s ++ [c] ++ x := by
  have e : s ++ [] < s ++ ([c] ++ x) := app_lt_app.mpr (List.nil_lt_cons c x)
  rw [List.append_nil] at e
  rw [List.append_assoc]
  exact e
theorem sort_node {C : List (Tx × Tx)} {s : Tx} {ks : List (Nat × Tr)} (nd : (C.map (·.1)).Nodup) (pre : ∀ p ∈ C, s <+: p.1) (up : (ks.map (·.1)).Pairwise (· < ·)) (all : ∀ c, c ∈ ks.map (·.1) ↔ ∃ p ∈ C, s ++ [c] <+: p.1)
    (kid : ∀ q ∈ ks, SortC (subC C s q.1) (q.2.pairs [])) : SortC C ((Tr.node s (lookC C s) ks).pairs []) := by
  have hp : (Tr.node s (lookC C s) ks).pairs [] = (match lookC C s with | none => [] | some x => [(s, x)]) ++ pairss ks s := by
    conv => lhs; unfold Tr.pairs
    rw [List.nil_append]
    cases lookC C s with
    | none => rfl
    | some x => rfl
  rw [hp]
  have kmem : ∀ q ∈ ks, ∀ p, p ∈ q.2.pairs (s ++ [q.1]) ↔ ∃ z, p.1 = s ++ [q.1] ++ z ∧ p ∈ C := by
    intro q hq p
    rw [pairs_shift, List.mem_map]
    constructor
    · rintro ⟨r, hr, rfl⟩
      have := (kid q hq).perm.subset hr
      exact ⟨r.1, rfl, mem_subC.mp this⟩
    · rintro ⟨z, e, hC⟩
      have h1 : (z, p.2) ∈ subC C s q.1 := mem_subC.mpr (by
        show (s ++ [q.1] ++ z, p.2) ∈ C
        rw [← e]
        exact hC)
      exact ⟨(z, p.2), (kid q hq).perm.symm.subset h1, by
        show (s ++ [q.1] ++ z, p.2) = p
        rw [← e]⟩
  refine sortC_mem nd ?_ fun p => ?_
  · rw [List.pairwise_append]
    refine ⟨?_, ?_, ?_⟩
    · cases lookC C s with
      | none => exact List.Pairwise.nil
      | some x => exact List.pairwise_singleton _ _
    · have go : ∀ l : List (Nat × Tr), (∀ q ∈ l, q ∈ ks) → (l.map (·.1)).Pairwise (· < ·) → (pairss l s).Pairwise fun a b => a.1 < b.1 := by
        intro l
        induction l with
        | nil =>
          intro _ _
          unfold pairss
          exact List.Pairwise.nil
        | cons q l ih =>
          obtain ⟨c, t⟩ := q
          intro hl hu
          have hq := hl _ List.mem_cons_self
          have hu : (c :: l.map (·.1)).Pairwise (· < ·) := hu
          obtain ⟨u1, u2⟩ := List.pairwise_cons.mp hu
          unfold pairss
          rw [List.pairwise_append]
          refine ⟨?_, ih (fun q hq => hl q (List.mem_cons_of_mem _ hq)) u2, fun a ha b hb => ?_⟩
          · have ha : (t.pairs (s ++ [c])) = (t.pairs []).map fun p => (s ++ [c] ++ p.1, p.2) := pairs_shift t _
            rw [ha, List.pairwise_map]
            exact (kid _ hq).up.imp fun {a b} hab => app_lt_app.mpr hab
          · obtain ⟨q2, h1, h2⟩ := mem_pairss.mp hb
            obtain ⟨z1, e1, _⟩ := (kmem _ hq a).mp ha
            obtain ⟨z2, e2, _⟩ := (kmem _ (hl _ (List.mem_cons_of_mem _ h1)) b).mp h2
            rw [e1, e2]
            exact pre_lt (u1 _ (List.mem_map_of_mem h1))
      exact go ks (fun _ h => h) up
    · intro a ha b hb
      obtain ⟨q, h1, h2⟩ := mem_pairss.mp hb
      obtain ⟨z, e, _⟩ := (kmem q h1 b).mp h2
      cases el : lookC C s with
      | none =>
        rw [el] at ha
        cases ha
      | some x =>
        rw [el] at ha
        rw [List.mem_singleton.mp ha, e]
        exact self_lt s q.1 z
  · rw [List.mem_append]
    constructor
    · rintro (h | h)
      · cases el : lookC C s with
        | none =>
          rw [el] at h
          cases h
        | some x =>
          rw [el] at h
          rw [List.mem_singleton.mp h]
          exact lookC_some el
      · obtain ⟨q, h1, h2⟩ := mem_pairss.mp h
        obtain ⟨z, _, hC⟩ := (kmem q h1 p).mp h2
        exact hC
    · intro h
      obtain ⟨z, e⟩ := pre p h
      cases z with
      | nil =>
        left
        rw [List.append_nil] at e
        have e2 : lookC C s = some p.2 := lookC_mem nd (by
          show (s, p.2) ∈ C
          rw [e]
          exact h)
        rw [e2]
        refine List.mem_singleton.mpr ?_
        rw [e]
      | cons c z =>
        right
        have e1 : s ++ [c] ++ z = p.1 := by
          rw [← e, List.append_assoc]
          rfl
        have hc := (all c).mpr ⟨p, h, ⟨z, e1⟩⟩
        obtain ⟨q, hq, rfl⟩ := List.mem_map.mp hc
        exact mem_pairss.mpr ⟨q, hq, (kmem q hq p).mpr ⟨z, e1.symm, h⟩⟩
end Seal
/-! SealC2: the tree of a content, on: what it must have. -/
namespace Seal
open PySem
structure IsT (C : List (Tx × Tx)) (t : Tr) : Prop where
  whole : t.Whole
  good : t.good = true
  lets : t.All (fun _ => True) (fun _ => True) (fun c => 97 ≤ c ∧ c ≤ 122) (fun _ => True)
  sort : SortC C (t.pairs [])
  hgt : ∃ p ∈ C, t.height ≤ p.1.length
theorem wholes_of : ∀ {ks : List (Nat × Tr)}, (∀ q ∈ ks, q.2.Whole) → wholes ks
  | [], _ => by unfold wholes; trivial
  | (c, t) :: r, h => by
    unfold wholes
    exact ⟨h _ List.mem_cons_self, wholes_of fun q hq => h q (List.mem_cons_of_mem _ hq)⟩
theorem goods_of : ∀ {ks : List (Nat × Tr)}, (∀ q ∈ ks, q.2.good = true) → goods ks = true
  | [], _ => by unfold goods; rfl
  | (c, t) :: r, h => by
    unfold goods
    have h1 : t.good = true := h _ List.mem_cons_self
    rw [h1, goods_of fun q hq => h q (List.mem_cons_of_mem _ hq)]
    rfl
theorem areKids_of : ∀ {ks : List (Nat × Tr)} {last : Tx}, (∀ q ∈ ks, last < [q.1]) → (ks.map (·.1)).Pairwise (· < ·) → areKids last ks = true
  | [], _, _, _ => rfl
  | (c, t) :: r, last, h, hu => by
    have hu : (c :: r.map (·.1)).Pairwise (· < ·) := hu
    obtain ⟨u1, u2⟩ := List.pairwise_cons.mp hu
    unfold areKids
    rw [decide_eq_true (h _ List.mem_cons_self), areKids_of (fun q hq => List.cons_lt_cons_iff.mpr (.inl (u1 _ (List.mem_map_of_mem hq)))) u2]
    rfl
theorem heights_max : ∀ (ks : List (Nat × Tr)), ks = [] ∨ ∃ q ∈ ks, heights ks = 1 + q.2.height
  | [] => .inl rfl
  | (c, t) :: r => by
    right
    rcases heights_max r with e | ⟨q, hq, e⟩
    · subst e
      refine ⟨(c, t), List.mem_cons_self, ?_⟩
      unfold heights heights
      exact Nat.max_eq_left (Nat.zero_le _)
    · unfold heights
      rcases Nat.le_total (1 + t.height) (heights r) with h | h
      · exact ⟨q, List.mem_cons_of_mem _ hq, by rw [Nat.max_eq_right h, e]⟩
      · exact ⟨(c, t), List.mem_cons_self, Nat.max_eq_left h⟩
theorem height_node (s : Tx) (x : Option Tx) (ks : List (Nat × Tr)) : (Tr.node s x ks).height = s.length + heights ks := by
  conv => lhs; unfold Tr.height
theorem isT_node {C : List (Tx × Tx)} {s : Tx} {ks : List (Nat × Tr)} (nd : (C.map (·.1)).Nodup) (key : ∀ p ∈ C, IsKey p.1 ∧ IsVal p.2) (ne : C ≠ []) (pre : ∀ p ∈ C, s <+: p.1) (up : (ks.map (·.1)).Pairwise (· < ·))
    (all : ∀ c, c ∈ ks.map (·.1) ↔ ∃ p ∈ C, s ++ [c] <+: p.1) (kid : ∀ q ∈ ks, IsT (subC C s q.1) q.2) (two : lookC C s = none → 2 ≤ ks.length) : IsT C (.node s (lookC C s) ks) := by
  obtain ⟨p0, hp0⟩ := List.exists_mem_of_ne_nil C ne
  have hs : IsKey s := by
    obtain ⟨z, e⟩ := pre p0 hp0
    have hk := (key p0 hp0).1
    rw [← e] at hk
    have hk1 := hk.1
    rw [List.length_append] at hk1
    exact ⟨by omega, fun c hc => hk.2 c (List.mem_append_left _ hc)⟩
  have hh : ∃ p ∈ C, s.length + heights ks ≤ p.1.length := by
    rcases heights_max ks with e | ⟨q, hq, e⟩
    · subst e
      refine ⟨p0, hp0, ?_⟩
      unfold heights
      exact (pre p0 hp0).length_le
    · obtain ⟨z, hz, hl⟩ := (kid q hq).hgt
      refine ⟨_, mem_subC.mp hz, ?_⟩
      rw [e]
      show s.length + (1 + q.2.height) ≤ (s ++ [q.1] ++ z.1).length
      rw [List.length_append, List.length_append]
      show _ ≤ s.length + 1 + _
      omega
  refine ⟨?_, ?_, ?_, sort_node nd pre up all fun q hq => (kid q hq).sort, ?_⟩
  · unfold Tr.Whole
    exact wholes_of fun q hq => (kid q hq).whole
  · unfold Tr.good
    rw [goods_of fun q hq => (kid q hq).good]
    show (true && nodeOk s (lookC C s) ks) = true
    have h1 : isKey s = true := isKey_iff.mpr hs
    have h2 : valOk (lookC C s) = true := by
      cases el : lookC C s with
      | none => rfl
      | some x => exact isVal_iff.mpr (key _ (lookC_some el)).2
    have h3 : areKids [] ks = true := areKids_of (fun q _ => List.nil_lt_cons _ _) up
    have h4 : ((lookC C s).isNone && decide (ks.length < 2)) = false := by
      cases el : lookC C s with
      | none =>
        have := two el
        rw [decide_eq_false (by omega)]
        rfl
      | some x => rfl
    have h5 : s.length + heights ks ≤ 8 := by
      obtain ⟨p, hp, h⟩ := hh
      have := (key p hp).1.1
      omega
    unfold nodeOk
    rw [h1, h2, h3, h4, decide_eq_true h5]
    rfl
  · unfold Tr.All
    refine ⟨True.intro, (fun _ _ => True.intro), alls_of fun q hq => ⟨?_, (kid q hq).lets⟩⟩
    obtain ⟨p, hp, z, e⟩ := (all q.1).mp (List.mem_map_of_mem hq)
    refine (key p hp).1.2 q.1 ?_
    rw [← e]
    simp
  · obtain ⟨p, hp, h⟩ := hh
    exact ⟨p, hp, by rw [height_node]; exact h⟩
/-! ### how big -/
theorem size_good : ∀ (t : Tr) (w : Tx), t.Whole → t.good = true → t.size + 1 ≤ 2 * (t.pairs w).length := by
  refine Tr.ind (fun n w h => ?_) fun s x ks ih w h g => ?_
  · unfold Tr.Whole at h
    exact h.elim
  · unfold Tr.Whole at h
    unfold Tr.good at g
    obtain ⟨g1, g2⟩ := Bool.and_eq_true_iff.mp g
    have go : ∀ (l : List (Nat × Tr)) (k : Tx), (∀ q ∈ l, q ∈ ks) → wholes l → goods l = true → sizes l + l.length ≤ 2 * (pairss l k).length := by
      intro l
      induction l with
      | nil =>
        intro k _ _ _
        unfold sizes
        exact Nat.zero_le _
      | cons q l ihl =>
        obtain ⟨c, t⟩ := q
        intro k hl hw hg
        unfold wholes at hw
        unfold goods at hg
        obtain ⟨hg1, hg2⟩ := Bool.and_eq_true_iff.mp hg
        have h1 : t.size + 1 ≤ 2 * (t.pairs (k ++ [c])).length := ih (c, t) (hl _ List.mem_cons_self) (k ++ [c]) hw.1 hg1
        have h2 := ihl k (fun q hq => hl q (List.mem_cons_of_mem _ hq)) hw.2 hg2
        unfold sizes pairss
        rw [List.length_append, List.length_cons]
        omega
    have h1 := go ks (w ++ s) (fun _ h => h) h g1
    have hp : (Tr.node s x ks).pairs w = (match x with | none => [] | some z => [(w ++ s, z)]) ++ pairss ks (w ++ s) := by
      conv => lhs; unfold Tr.pairs
      cases x with
      | none => rfl
      | some z => rfl
    rw [size_node, hp, List.length_append]
    unfold nodeOk at g2
    cases x with
    | some z =>
      show _ ≤ 2 * (1 + _)
      omega
    | none =>
      have h2 : ¬ ks.length < 2 := by
        intro z
        rw [decide_eq_true z] at g2
        simp at g2
      show _ ≤ 2 * (0 + _)
      omega
theorem depth_height : ∀ t : Tr, t.Whole → t.depth ≤ t.height + 1 := by
  refine Tr.ind (fun n h => ?_) fun s x ks ih h => ?_
  · unfold Tr.Whole at h
    exact h.elim
  · unfold Tr.Whole at h
    have go : ∀ l : List (Nat × Tr), (∀ q ∈ l, q ∈ ks) → wholes l → depths l ≤ heights l := by
      intro l
      induction l with
      | nil =>
        intro _ _
        unfold depths
        exact Nat.zero_le _
      | cons q l ihl =>
        obtain ⟨c, t⟩ := q
        intro hl hw
        unfold wholes at hw
        have h1 : t.depth ≤ t.height + 1 := ih (c, t) (hl _ List.mem_cons_self) hw.1
        have h2 := ihl (fun q hq => hl q (List.mem_cons_of_mem _ hq)) hw.2
        unfold depths heights
        omega
    have e : (Tr.node s x ks).depth = 1 + depths ks := by
      conv => lhs; unfold Tr.depth
    have h1 := go ks (fun _ h => h) h
    rw [e, height_node]
    omega
theorem all_good : ∀ (t : Tr), t.Whole → t.good = true → t.All (fun _ => True) (fun _ => True) (fun c => 97 ≤ c ∧ c ≤ 122) (fun _ => True) →
    t.All (fun s => Lows s ∧ s.length ≤ 9) (fun v => v.length ≤ 41 ∧ Signs v) (fun c => 97 ≤ c ∧ c ≤ 122) (fun n => n < 10 ^ 40) ∧ t.All (fun s => s.length ≤ 8) (fun v => v.length ≤ 40) (fun _ => True) (fun n => n < 10 ^ 39) := by
  refine Tr.ind (fun n h => ?_) fun s x ks ih h g a => ?_
  · unfold Tr.Whole at h
    exact h.elim
  · unfold Tr.Whole at h
    unfold Tr.good at g
    obtain ⟨g1, g2⟩ := Bool.and_eq_true_iff.mp g
    unfold Tr.All at a
    have gm : ∀ l : List (Nat × Tr), goods l = true → ∀ q ∈ l, q.2.good = true := by
      intro l
      induction l with
      | nil => intro _ q hq; cases hq
      | cons q0 l ihl =>
        obtain ⟨c, t⟩ := q0
        intro hg q hq
        unfold goods at hg
        obtain ⟨x1, x2⟩ := Bool.and_eq_true_iff.mp hg
        rcases List.mem_cons.mp hq with e | hq
        · rw [e]
          exact x1
        · exact ihl x2 q hq
    have hk : ∀ q ∈ ks, _ := fun q hq => ih q hq (wholes_mem h q hq) (gm ks g1 q hq) (alls_mem a.2.2 hq).2
    unfold nodeOk at g2
    obtain ⟨n1, n2⟩ := Bool.and_eq_true_iff.mp g2
    obtain ⟨n2, _⟩ := Bool.and_eq_true_iff.mp n2
    have hs := isKey_iff.mp n1
    have hx : ∀ l, x = some l → IsVal l := fun l e => by
      subst e
      exact isVal_iff.mp n2
    refine ⟨?_, ?_⟩
    · unfold Tr.All
      exact ⟨⟨hs.2, Nat.le_trans hs.1 (by decide)⟩, (fun l e => ⟨Nat.le_trans (hx l e).1 (by decide), (hx l e).2⟩), alls_of fun q hq => ⟨(alls_mem a.2.2 hq).1, (hk q hq).1⟩⟩
    · unfold Tr.All
      exact ⟨hs.1, (fun l e => (hx l e).1), alls_of fun q hq => ⟨True.intro, (hk q hq).2⟩⟩
theorem IsT.neat {C : List (Tx × Tx)} {t : Tr} (h : IsT C t) (key : ∀ p ∈ C, IsKey p.1 ∧ IsVal p.2) (hl : C.length ≤ 46) : Neat 12 t := by
  obtain ⟨a1, a2⟩ := all_good t h.whole h.good h.lets
  have h1 := size_good t [] h.whole h.good
  have h2 := depth_height t h.whole
  obtain ⟨p, hp, h3⟩ := h.hgt
  have h4 := (key p hp).1.1
  rw [h.sort.perm.length_eq] at h1
  exact ⟨⟨a1, by omega, by omega⟩, a2⟩
/-! ### the longest beginning -/
theorem pre_between : ∀ {s a b k : Tx}, s <+: a → s <+: b → ¬ k < a → ¬ b < k → s <+: k
  | [], _, _, _, _, _, _, _ => List.nil_prefix
  | c :: s, a, b, k, ha, hb, h1, h2 => by
    obtain ⟨x, rfl⟩ := ha
    obtain ⟨y, rfl⟩ := hb
    cases k with
    | nil => exact absurd (List.nil_lt_cons _ _) h1
    | cons d k =>
      have e : d = c := by
        apply Nat.le_antisymm
        · apply Nat.le_of_not_lt
          intro z
          exact h2 (List.cons_lt_cons_iff.mpr (.inl z))
        · apply Nat.le_of_not_lt
          intro z
          exact h1 (List.cons_lt_cons_iff.mpr (.inl z))
      subst e
      refine List.cons_prefix_cons.mpr ⟨rfl, ?_⟩
      refine pre_between (a := s ++ x) (b := s ++ y) (List.prefix_append _ _) (List.prefix_append _ _) ?_ ?_
      · intro z
        exact h1 (List.cons_lt_cons_iff.mpr (.inr ⟨rfl, z⟩))
      · intro z
        exact h2 (List.cons_lt_cons_iff.mpr (.inr ⟨rfl, z⟩))
theorem pre_letter {a : Tx} {i : Nat} (h : i < a.length) : a.take i ++ [a[i]] <+: a := by
  have e : a.take (i + 1) = a.take i ++ [a[i]] := take_snoc (List.getElem?_eq_getElem h)
  rw [← e]
  exact List.take_prefix _ _
theorem two_letters {C : List (Tx × Tx)} {a b : Tx} {i : Nat} {L : List Nat} (nd : (C.map (·.1)).Nodup) (ha : a ∈ C.map (·.1)) (hb : b ∈ C.map (·.1)) (e : a.take i = b.take i) (hi : i ≤ a.length ∧ i ≤ b.length)
    (stop : i = min a.length b.length ∨ a[i]? ≠ b[i]?) (hn : lookC C (a.take i) = none) (all : ∀ c, c ∈ L ↔ ∃ p ∈ C, a.take i ++ [c] <+: p.1) : 2 ≤ L.length := by
  have no : ∀ k, k ∈ C.map (·.1) → a.take i ≠ k := fun k hk z => by
    obtain ⟨p, hp, rfl⟩ := List.mem_map.mp hk
    have : lookC C p.1 = some p.2 := lookC_mem nd hp
    rw [z, this] at hn
    cases hn
  have h1 : i < a.length := by
    apply Nat.lt_of_le_of_ne hi.1
    intro z
    exact no a ha (by rw [z]; exact List.take_length)
  have h2 : i < b.length := by
    apply Nat.lt_of_le_of_ne hi.2
    intro z
    refine no b hb ?_
    rw [e, z]
    exact List.take_length
  have hne : a[i] ≠ b[i] := by
    rcases stop with z | z
    · omega
    · intro q
      apply z
      rw [List.getElem?_eq_getElem h1, List.getElem?_eq_getElem h2, q]
  have m1 : a[i] ∈ L := by
    obtain ⟨p, hp, e1⟩ := List.mem_map.mp ha
    refine (all _).mpr ⟨p, hp, ?_⟩
    have e1 : p.1 = a := e1
    rw [e1]
    exact pre_letter h1
  have m2 : b[i] ∈ L := by
    obtain ⟨p, hp, e1⟩ := List.mem_map.mp hb
    refine (all _).mpr ⟨p, hp, ?_⟩
    have e1 : p.1 = b := e1
    rw [e1, e]
    exact pre_letter h2
  cases L with
  | nil => cases m1
  | cons x L =>
    cases L with
    | nil => exact absurd ((List.mem_singleton.mp m1).trans (List.mem_singleton.mp m2).symm) hne
    | cons y L => exact Nat.le_add_left _ _
end Seal
/-! SealD29: the tree of a content, told. -/
namespace Seal
open PySem PySem.Spec PyProof.Rows L2 SX SealR LamX NdefX
/-! ### the loop for the longest beginning -/
theorem pt_weak {X : Cx} {e : Expr} {t t' : TT} (wk : ∀ σ H Q, t' σ H Q → t σ H Q) (h : PT X e t) : PT X e t' := ⟨fun pins s σ H Q I q => h.run pins s σ H Q I (wk σ H Q q)⟩
def muAt (σ : L2.St) (_ : Hp) : Nat := match σ[1]? with
  | some (some (V.int i)) => (10 - i).toNat
  | _ => 0
def tSame : TT := fun σ H Q => ∃ (i : Nat) (a b : Tx), σ[1]? = some (some (.int (i : Int))) ∧ σ[4]? = some (some (tx a)) ∧ σ[5]? = some (some (tx b)) ∧ a.length ≤ 1000 ∧ b.length ≤ 1000 ∧
  Q (decide (i < min a.length b.length) && decide (a[i]? = b[i]?)) H
/-! ### letters at a place -/
theorem slice_one (l : Tx) (i : Nat) : cutS (S l) (some (i : Int)) (some ((i + 1 : Nat) : Int)) = S ((l.drop i).take 1) := by
  unfold cutS
  rw [HT.sIx_nat, HT.sIx_nat, len_S]
  congr 1
  show (((l.drop (min i l.length)).take (min (i + 1) l.length - min i l.length)).toArray) = ((l.drop i).take 1).toArray
  congr 1
  by_cases h : i < l.length
  · have h1 : min i l.length = i := by omega
    have h2 : min (i + 1) l.length = i + 1 := by omega
    rw [h1, h2]
    congr 1
    omega
  · have h1 : min i l.length = l.length := by omega
    rw [h1, List.drop_of_length_le (Nat.le_refl _), List.drop_of_length_le (by omega)]
    simp
theorem one_iff {l : Tx} {i c : Nat} : (l.drop i).take 1 = [c] ↔ l[i]? = some c := by
  by_cases h : i < l.length
  · rw [List.drop_eq_getElem_cons h, List.getElem?_eq_getElem h]
    show [l[i]] = [c] ↔ _
    constructor
    · intro e
      rw [(List.cons.inj e).1]
    · intro e
      rw [Option.some.inj e]
  · rw [List.drop_of_length_le (by omega), List.getElem?_eq_none (by omega)]
    constructor
    · intro e; cases e
    · intro e; cases e
theorem pre_iff {s l : Tx} {i c : Nat} (hp : s <+: l) (hi : s.length = i) : s ++ [c] <+: l ↔ l[i]? = some c := by
  obtain ⟨z, rfl⟩ := hp
  subst hi
  cases z with
  | nil =>
    rw [List.append_nil, List.getElem?_eq_none (Nat.le_refl _)]
    constructor
    · intro h
      have := h.length_le
      rw [List.length_append] at this
      have : s.length + 1 ≤ s.length := this
      omega
    · intro h; cases h
  | cons d z =>
    have e : (s ++ d :: z)[s.length]? = some d := by simp
    rw [e, List.prefix_append_right_inj, List.cons_prefix_cons]
    exact ⟨fun h => by rw [h.1], fun h => ⟨(Option.some.inj h).symm, List.nil_prefix⟩⟩
def lettersAt (C : List (Tx × Tx)) (i : Nat) : List Nat := C.filterMap fun p => p.1[i]?
theorem mem_letters {C : List (Tx × Tx)} {i c : Nat} : c ∈ lettersAt C i ↔ ∃ p ∈ C, p.1[i]? = some c := List.mem_filterMap
theorem rises_one {ys : List Nat} (h : sortedS (ys.map fun c => S [c]) = true) (nd : ys.Nodup) : ys.Pairwise (· < ·) := by
  have e : (ys.map fun c => S [c]) = (ys.map fun c => [c]).map S := by rw [List.map_map]; rfl
  rw [e] at h
  have h2 := rises_S h
  rw [List.pairwise_map] at h2
  have nd : ys.Pairwise (· ≠ ·) := nd
  refine (h2.and nd).imp fun {a b} hab => ?_
  have h1 : ¬ b < a := fun z => hab.1 (List.cons_lt_cons_iff.mpr (.inl z))
  have := hab.2
  omega
theorem singles {ys : List Str} {L : List Nat} (h : ∀ y ∈ ys, ∃ c ∈ L, y = S [c]) : ∃ cs : List Nat, ys = cs.map fun c => S [c] := by
  induction ys with
  | nil => exact ⟨[], rfl⟩
  | cons y r ih =>
    obtain ⟨c, _, rfl⟩ := h y List.mem_cons_self
    obtain ⟨cs, rfl⟩ := ih fun z hz => h z (List.mem_cons_of_mem _ hz)
    exact ⟨c :: cs, rfl⟩
theorem lock_keep {L D : List Addr} {H H' : Hp} {d : Addr} {u : HO} {od : Obj} (e : H d = some u) (k : Keep L D (upd H d (.frz od u)) H') : Keep L D H (upd H' d u) := by
  refine ⟨fun b h => ?_, fun b o h h1 h2 => ?_⟩
  · by_cases hb : b = d
    · rw [hb, upd_same] at h
      cases h
    · rw [upd_ne hb] at h
      have := k.dom b h
      rwa [upd_ne hb] at this
  · by_cases hb : b = d
    · rw [hb, e] at h
      rw [hb, upd_same]
      exact h
    · rw [upd_ne hb]
      exact k.at_ b o (by rw [upd_ne hb]; exact h) h1 h2
theorem subC_snoc {C : List (Tx × Tx)} {s : Tx} {c j : Nat} {p : Tx × Tx} (h : C[j]? = some p) : subC (C.take (j + 1)) s c = subC (C.take j) s c ++ if (s ++ [c]).isPrefixOf p.1 = true then [(p.1.drop (s.length + 1), p.2)] else [] := by
  unfold subC
  rw [take_snoc h, List.filter_append, List.map_append]
  congr 1
  by_cases q : (s ++ [c]).isPrefixOf p.1 = true
  · rw [if_pos q, List.filter_cons_of_pos (by exact q)]
    rfl
  · rw [if_neg q, List.filter_cons_of_neg (by exact q)]
    rfl
section
variable {w : World} {K : PySem.W.Frag} {mg : Str → Option Value} {base : Heap}
def spTreeOf (m : Nat) : Sp := fun vs H Q _ => ∃ (d : Addr) (C : List (Tx × Tx)), vs = [.ref d] ∧ ContAt H d C ∧ C.length ≤ 46 ∧ (∀ p ∈ C, p.1.length < m) ∧ (C = [] → 1 ≤ m) ∧
  ∀ u o H', TellsO H' o u → (C = [] → o = none) → (C ≠ [] → ∃ t, o = some t ∧ IsT C t) → Keep [] [] H H' → Q u H'
theorem sc__law_told : FnScope ["_law_content_here", "_law_at", "_law_rows_here", "_law_letter", "_law_first", "_law_last", "_law_below", "_law_key_here"] ["_law_content_here"] (defScope s__law_told) := ⟨rfl, rfl, rfl, by decide +kernel, rfl, by decide +kernel, by decide +kernel⟩
theorem ok_treeOf (T : Fx w K mg base) : ∀ m, Ok PR w K mg base d__law_told ["_law_content_here"] (m + 2) (spTreeOf m)
  | 0 => by
    refine Ok.mk (k := 1) (N := ["_law_content_here", "_law_at", "_law_rows_here", "_law_letter", "_law_first", "_law_last", "_law_below", "_law_key_here"]) T.i__law_told sc__law_told (fun vs H Q E h => ?_) (fun _ _ _ _ _ _ us hl => match us, hl with | [_], _ => rfl) (fun cdv A outer s H vs Q E hr h => ?_)
    · obtain ⟨_, _, rfl, _⟩ := h
      rfl
    · obtain ⟨_, C, _, _, _, h1, h2, _⟩ := h
      cases C with
      | nil => exact absurd (h2 rfl) (by decide)
      | cons p r => exact absurd (h1 p List.mem_cons_self) (Nat.not_lt_zero _)
  | m + 1 => by
    obtain ⟨fd__law_told, F__law_told, b__law_told, k__law_told⟩ := ok_treeOf T m
    refine Ok.mk (k := m + 2) (N := ["_law_content_here", "_law_at", "_law_rows_here", "_law_letter", "_law_first", "_law_last", "_law_below", "_law_key_here"]) T.i__law_told sc__law_told (fun vs H Q E h => ?_) (fun _ _ _ _ _ _ us hl => match us, hl with | [_], _ => rfl) (fun cdv A outer s H vs Q E hr h => ?_)
    · obtain ⟨_, _, rfl, _⟩ := h
      rfl
    · obtain ⟨d, C, rfl, hC, hCl, hlen, _, k⟩ := h
      have hu := hu_of hr
      refine ⟨_, PSs.nox (C8.pss_cut (ps_if (pt_cmpR (SealR.op_eqNo hr.units0) (pv 0) pe_dnewK (nomark _))
      (pss_one (ps_ret pe_non))
      pss_nil)
    (C8.pss_cut (ps_par (i := 4) (j := 5) (by rfl) sc__law_told.nd rfl rfl (by decide) rfl rfl (pa_cons (pe_callB (SealR.cr_minD rfl) rfl T.f_min B_min (pa_cons (pv 0) pa_nil)) (pa_cons (pe_callB (SealR.cr_maxD rfl) rfl T.f_max B_max (pa_cons (pv 0) pa_nil)) pa_nil)) (by rfl))
    (pss_cons (ps_set (i := 1) sc__law_told.nd rfl (Or.inr rfl) pe_int)
    (C8.pss_cut (ps_while PassesOwn.never (pt_weak (t' := tSame) ?same (PW.pt (pw_and (pt_cmpR op_lt (pv 1) (pe_callB (call_min2 rfl) rfl T.f_min B_min (pa_cons (pe_callB call_len_str rfl T.f_len B_len (pa_cons (pv 4) pa_nil)) (pa_cons (pe_callB call_len_str rfl T.f_len B_len (pa_cons (pv 5) pa_nil)) pa_nil))) (nomark _)) (pw_and1 (pt_cmpR op_eq (pe_ix ix_str (pv 4) (pv 1) (fun _ _ => rfl)) (pe_ix ix_str (pv 5) (pv 1) (fun _ _ => rfl)) (nomark _))))))
      (pss_one (ps_set (i := 1) sc__law_told.nd rfl (Or.inr rfl) (pe_op op_add (pv 1) pe_int))))
    (pss_cons (ps_set (i := 2) sc__law_told.nd rfl (Or.inl rfl) (pe_lst pa_nil))
    (pss_cons (ps_for PassesOwn.never rfl (pi_list (pe_callB (SealR.cr_sortT rfl) rfl T.f_sorted B_sorted (pa_cons (pe_callTy (SealR.cr_setL rfl) rfl T.f_set B_set (pa_cons (pe_lock (pe_lc (own := [("_law_key_here", 7)]) (g := gName 7) rfl sc__law_told.nd (pi_keys (pv 0)) (blkOk_by (N := ["_law_content_here", "_law_at", "_law_rows_here", "_law_letter", "_law_first", "_law_last", "_law_below", "_law_key_here"]) (sc := defScope s__law_told) (own := [("_law_key_here", 7)]) (by decide +kernel)) (fun _ _ _ _ _ => (pg_name (i := 7) sc__law_told.nd rfl (Or.inl rfl))) (fun _ _ _ _ _ => pts_one (pt_cmpR op_gt (pe_callB call_len_str rfl T.f_len B_len (pa_cons (pv 7) pa_nil)) (pv 1) (nomark _))) (fun _ _ _ _ _ => (pe_ix ix_str (pv 7) (pv 1) (fun _ _ => rfl))))) pa_nil)) pa_nil))) (pg_name (i := 3) sc__law_told.nd rfl (Or.inl rfl))
      (pss_cons (ps_set (i := 6) sc__law_told.nd rfl (Or.inl rfl) pe_dnewK)
      (pss_cons (ps_lock (ps_for PassesOwn.never rfl (pi_keys (pv 0)) (pg_name (i := 7) sc__law_told.nd rfl (Or.inl rfl))
        (pss_one (ps_if (pt_cmpR op_eq (pe_slice sl_str (pv 7) (po_some (pv 1)) (po_some (pe_op op_add (pv 1) pe_int))) (pv 3) (nomark _))
          (pss_one (ps_dput hu (pv 6) (pe_slice sl_str (pv 7) (po_some (pe_op op_add (pv 1) pe_int)) po_none) (pe_dget hu (pv 0) (pv 7) (fun _ _ => rfl)) rfl))
          pss_nil))))
      (pss_one (ps_expr (pe_bm PySem.F.plainAttrs_list PySem.F.slot_list_append PySem.F.type_list_append mt_append (pv 2) (pa_cons (pe_tup (pa_cons (pv 3) (pa_cons (pe_call F__law_told (hr.mono (by first | decide | omega)) rfl T.g__law_told k__law_told b__law_told .nil passL (pa_cons (pv 6) pa_nil)) pa_nil))) pa_nil)))))))
    (pss_one (ps_ret (pe_tup (pa_cons pe_str (pa_cons (pe_slice sl_str (pv 4) po_none (po_some (pv 1))) (pa_cons (pe_dget1 hu (pv 0) (pe_slice sl_str (pv 4) po_none (po_some (pv 1))) ⟨rfl, rfl, rfl, rfl⟩) (pa_cons (pe_callTy call_tuple_of rfl T.f_tuple B_tuple (pa_cons (pv 2) pa_nil)) pa_nil))))))))))))), ?_⟩
      case same =>
        rintro σ H Q ⟨i, a, b, h1, h4, h5, ha, hb, q⟩
        refine ⟨_, h1, _, h4, _, rfl, toSzS (Nat.le_trans ha (by decide)), _, h5, _, rfl, toSzS (Nat.le_trans hb (by decide)), _, _, rfl, ?_⟩
        refine ⟨_, _, rfl, rfl, _, rfl, ?_⟩
        have em : (if ((S b).length : Int) < ((S a).length : Int) then ((S b).length : Int) else ((S a).length : Int)) = ((min a.length b.length : Nat) : Int) := by
          rw [len_S, len_S]
          split <;> omega
        rw [em]
        by_cases hi : i < min a.length b.length
        · rw [decide_eq_true (by omega)]
          rw [decide_eq_true hi] at q
          have hia : i < a.length := by omega
          have hib : i < b.length := by omega
          have ga : a[i]? = some a[i] := List.getElem?_eq_getElem hia
          have gb : b[i]? = some b[i] := List.getElem?_eq_getElem hib
          refine iteT ?_
          refine ⟨_, h4, _, h1, S a, _, a[i], rfl, rfl, toSzS (Nat.le_trans ha (by decide)), atI_nat ga, _, h5, _, h1, S b, _, b[i], rfl, rfl, toSzS (Nat.le_trans hb (by decide)), atI_nat gb, rfl, _, rfl, ?_⟩
          have ed : decide (V.str ⟨#[a[i]]⟩ = V.str ⟨#[b[i]]⟩) = decide (a[i]? = b[i]?) := by
            rw [ga, gb]
            refine decide_eq_decide.mpr ⟨fun z => ?_, fun z => by rw [Option.some.inj z]⟩
            have := tx_inj (a := [a[i]]) (b := [b[i]]) z
            rw [List.cons.inj this |>.1]
          rw [ed]
          exact q
        · rw [decide_eq_false (by omega)]
          rw [decide_eq_false hi] at q
          exact iteF q
      refine ⟨fun σ H' => σ = [some (.ref d), none, none, none, none, none, none, none] ∧ Keep [] [] H H' ∧ C ≠ [], ?_, ?_⟩
      · refine ⟨_, rfl, fun q hq => ⟨d, q, kvT tx C, rfl, rfl, (Keep.new (L := []) (D := []) (o := .dK []) hq).dic hC.at_ (by simp), upd_same, _, rfl, ?_⟩⟩
        have kq : Keep [] [] H (upd H q (.dK [])) := Keep.new hq
        cases C with
        | nil => exact iteT (k .non none _ rfl (fun _ => rfl) (fun z => absurd rfl z) kq)
        | cons p r => exact iteF ⟨rfl, kq, by intro z; cases z⟩
      · rintro σ H1 ⟨rfl, k1, hne⟩
        have C1 := hC.keep k1 (by simp)
        have hks : (kvT tx C).map (·.1) = ((C.map (·.1)).map S).map Sum.inr := by
          rw [kvT_keys, List.map_map, List.map_map, List.map_map]
          rfl
        have hpos : 0 < ((C.map (·.1)).map S).length := by
          rw [List.length_map, List.length_map]
          exact List.length_pos_iff.mpr hne
        refine ⟨fun σ H' => ∃ a b, σ = [some (.ref d), none, none, none, some (tx a), some (tx b), none, none] ∧ H' = H1 ∧ a ∈ C.map (·.1) ∧ b ∈ C.map (·.1) ∧ ∀ z ∈ C.map (·.1), ¬ z < a ∧ ¬ b < z, ?_, ?_⟩
        · refine ⟨_, rfl, d, _, _, rfl, .inl C1.at_, hks, hpos, fun x hx hmin => ?_⟩
          refine ⟨_, rfl, d, _, _, rfl, .inl C1.at_, hks, hpos, fun y hy hmax => ?_⟩
          obtain ⟨a, ha, rfl⟩ := List.mem_map.mp hx
          obtain ⟨b, hb, rfl⟩ := List.mem_map.mp hy
          refine ⟨_, _, rfl, a, b, rfl, rfl, ha, hb, fun z hz => ⟨?_, ?_⟩⟩
          · have h1 := hmin (S z) (List.mem_map_of_mem hz)
            exact of_decide_eq_false h1
          · have h2 := hmax (S z) (List.mem_map_of_mem hz)
            exact of_decide_eq_false h2
        · rintro σ H2 ⟨a, b, rfl, he, ha, hb, hab⟩
          subst he
          have hka : ∀ {z : Tx}, z ∈ C.map (·.1) → IsKey z := fun {z} hz => by
            obtain ⟨p, hp, e⟩ := List.mem_map.mp hz
            rw [← e]
            exact (hC.key p hp).1
          have la := (hka ha).1
          have lb := (hka hb).1
          refine ⟨fun σ H' => ∃ i : Nat, σ = [some (.ref d), some (.int (i : Int)), none, none, some (tx a), some (tx b), none, none] ∧ H' = H2 ∧ a.take i = b.take i ∧ i ≤ a.length ∧ i ≤ b.length ∧ (i = min a.length b.length ∨ a[i]? ≠ b[i]?), ?_, ?_⟩
          · refine while_by (fun σ H' => ∃ i : Nat, σ = [some (.ref d), some (.int (i : Int)), none, none, some (tx a), some (tx b), none, none] ∧ H' = H2 ∧ a.take i = b.take i ∧ i ≤ a.length ∧ i ≤ b.length)
              muAt ⟨0, rfl, rfl, by rw [List.take_zero, List.take_zero], Nat.zero_le _, Nat.zero_le _⟩ ?_ ?_
            · rintro σ H3 ⟨i, rfl, rfl, e1, e2, e3⟩
              refine ⟨i, a, b, rfl, rfl, rfl, by omega, by omega, ?_⟩
              by_cases h1 : i < min a.length b.length
              · rw [decide_eq_true h1]
                by_cases h2 : a[i]? = b[i]?
                · rw [decide_eq_true h2]
                  refine iteT ?_
                  refine ⟨_, rfl, _, _, rfl, rfl, ?_⟩
                  refine ⟨⟨i + 1, rfl, rfl, ?_, by omega, by omega⟩, ?_⟩
                  · have ga : a[i]? = some a[i] := List.getElem?_eq_getElem (by omega)
                    rw [take_snoc ga, take_snoc (h2 ▸ ga : b[i]? = some a[i]), e1]
                  · show (10 - ((i : Int) + 1)).toNat < (10 - (i : Int)).toNat
                    omega
                · rw [decide_eq_false h2]
                  exact iteF ⟨i, rfl, rfl, e1, e2, e3, .inr h2⟩
              · rw [decide_eq_false h1]
                exact iteF ⟨i, rfl, rfl, e1, e2, e3, .inl (by omega)⟩
            · rintro σ H3 Q1 Q2 hq ⟨i, x, y, h1, h4, h5, hx, hy, q⟩
              exact ⟨i, x, y, h1, h4, h5, hx, hy, hq _ _ q⟩
          · rintro σ H3 ⟨i, rfl, he, e1, e2, e3, e4⟩
            subst he
            have hpre : ∀ p ∈ C, a.take i <+: p.1 := fun p hp => by
              obtain ⟨h1, h2⟩ := hab p.1 (List.mem_map_of_mem hp)
              exact pre_between (List.take_prefix i a) (e1 ▸ List.take_prefix i b) h1 h2
            refine ⟨by show 0 ≤ sizeLine; decide, fun rl hrl => ?_⟩
            have kr := Keep.new (L := []) (D := []) (o := .lst []) hrl
            have C2 := C1.keep kr (by simp)
            have hrl0 : (upd H3 rl (.lst [])) rl = some (.lst []) := upd_same
            generalize upd H3 rl (.lst []) = H4 at kr C2 hrl0
            refine ⟨d, _, C2.at_, True.intro, fun od => ?_⟩
            have hfz : (upd H4 d (.frz od (.dK (kvT tx C)))) d = some (.frz od (.dK (kvT tx C))) := upd_same
            refine ⟨_, rfl, d, od, rfl, .inl ⟨_, hfz, fun D hD => ?_⟩⟩
            refine lc_it (walk_keys (kvs := kvT tx C)) (fun j H' => Keep [] [] (upd H4 d (.frz od (.dK (kvT tx C)))) H' ∧ H' D = some (.lst ((lettersAt (C.take j) i).map fun c => tx [c]))) ⟨Keep.new hD, upd_same⟩ (fun j H' _ h => h.1.frz hfz) ?_ ?_
            · rintro j y H5 H6 hj ⟨k5, h5⟩ ⟨rfl, kk, v, ekv, rfl⟩
              have hjC : j < C.length := by rw [kvT_len] at hj; exact hj
              have eC : C[j]? = some C[j] := List.getElem?_eq_getElem hjC
              have ek : (kvT tx C)[j]? = some (Sum.inr (S (C[j]).1), tx (C[j]).2) := by
                unfold kvT
                rw [List.getElem?_map, eC]
                rfl
              rw [ek] at ekv
              cases ekv
              have hl8 := (hC.key _ (List.getElem_mem hjC)).1.1
              refine ⟨rfl, ?_⟩
              refine ⟨_, rfl, _, rfl, toSzS (Nat.le_trans hl8 (by decide)), _, rfl, _, _, rfl, rfl, _, rfl, ?_⟩
              have hla : lettersAt (C.take (j + 1)) i = lettersAt (C.take j) i ++ ((C[j]).1[i]?).toList := by
                unfold lettersAt
                rw [take_snoc eC, List.filterMap_append]
                congr 1
              by_cases hi : i < (C[j]).1.length
              · rw [decide_eq_true (by rw [len_S]; omega)]
                refine iteT ?_
                have gi : (C[j]).1[i]? = some (C[j]).1[i] := List.getElem?_eq_getElem hi
                refine ⟨_, rfl, _, rfl, S (C[j]).1, _, _, rfl, rfl, toSzS (Nat.le_trans hl8 (by decide)), atI_nat gi, _, h5, ?_, k5.put hD, ?_⟩
                · rw [List.length_map]
                  have h1 : (lettersAt (C.take j) i).length ≤ (C.take j).length := List.length_filterMap_le _ _
                  rw [List.length_take] at h1
                  exact Nat.lt_of_le_of_lt (by omega : _ ≤ 46) (by decide)
                · rw [upd_same, hla, gi, List.map_append]
                  rfl
              · rw [decide_eq_false (by rw [len_S]; omega)]
                refine iteF ⟨k5, ?_⟩
                rw [hla, List.getElem?_eq_none (by omega)]
                show _ = some (HO.lst ((lettersAt (C.take j) i ++ []).map fun c => tx [c]))
                rw [List.append_nil]
                exact h5
            · rintro H5 ⟨k5, h5⟩
              refine ⟨k5.frz hfz, ?_⟩
              rw [kvT_len, List.take_length] at h5
              have k6 := lock_keep C2.at_ k5
              have hDd : D ≠ d := fun e => by
                rw [e, hfz] at hD
                cases hD
              have h6 : (upd H5 d (.dK (kvT tx C))) D = some (.lst ((lettersAt C i).map fun c => tx [c])) := by rw [upd_ne hDd]; exact h5
              generalize upd H5 d (.dK (kvT tx C)) = H6 at k6 h6
              have hxs : ((lettersAt C i).map fun c => tx [c]) = ((lettersAt C i).map fun c => S [c]).map V.str := by
                rw [List.map_map]
                rfl
              rw [hxs] at h6
              have hll : (lettersAt C i).length ≤ C.length := List.length_filterMap_le _ _
              refine ⟨D, _, rfl, SqL.of h6, by rw [List.length_map]; omega, fun sp hsp => ?_⟩
              have ksp := Keep.new (L := []) (D := []) (o := SetTO w sp (fun x => decide (x ∈ (lettersAt C i).map fun c => S [c])) ((lettersAt C i).map fun c => S [c]).length) hsp
              refine ⟨sp, _, _, rfl, upd_same, by rw [List.length_map]; omega, fun ys yp hso hnd hmem hyl hyp => ?_⟩
              have kyp := Keep.new (L := []) (D := []) (o := .lst (ys.map V.str)) hyp
              have k7 := (k6.trans ksp).trans kyp
              have hyp4 : H4 yp = none := (k6.trans ksp).dom _ hyp
              have nry : rl ≠ yp := fun e => by
                rw [e, hyp4] at hrl0
                cases hrl0
              obtain ⟨cs, rfl⟩ := singles (L := lettersAt C i) fun y hy => by
                obtain ⟨c, hc, e⟩ := List.mem_map.mp (of_decide_eq_true ((hmem y).mp hy))
                exact ⟨c, hc, e.symm⟩
              have hcs : ∀ c, c ∈ cs ↔ c ∈ lettersAt C i := fun c => by
                have h1 := hmem (S [c])
                have h2 : S [c] ∈ (cs.map fun c => S [c]) ↔ c ∈ cs := ⟨fun h => by
                  obtain ⟨z, hz, e⟩ := List.mem_map.mp h
                  have e := S_inj e
                  rw [← (List.cons.inj e).1]
                  exact hz, fun h => List.mem_map_of_mem h⟩
                have h3 : S [c] ∈ ((lettersAt C i).map fun c => S [c]) ↔ c ∈ lettersAt C i := ⟨fun h => by
                  obtain ⟨z, hz, e⟩ := List.mem_map.mp h
                  have e := S_inj e
                  rw [← (List.cons.inj e).1]
                  exact hz, fun h => List.mem_map_of_mem h⟩
                rw [← h2, h1, ← h3, decide_eq_true_iff]
              have hcsn : cs.Nodup := by
                have hnd : (cs.map fun c => S [c]).Pairwise (· ≠ ·) := hnd
                rw [List.pairwise_map] at hnd
                exact hnd.imp fun {a b} h e => h (by rw [e])
              have hup := rises_one hso hcsn
              have hsl : (a.take i).length = i := by rw [List.length_take]; omega
              have hall : ∀ c, c ∈ cs ↔ ∃ p ∈ C, a.take i ++ [c] <+: p.1 := fun c => by
                rw [hcs, mem_letters]
                constructor
                · rintro ⟨p, hp, e⟩
                  exact ⟨p, hp, (pre_iff (hpre p hp) hsl).mpr e⟩
                · rintro ⟨p, hp, e⟩
                  exact ⟨p, hp, (pre_iff (hpre p hp) hsl).mp e⟩
              have hr7 := k7.lst hrl0 (by simp)
              have C7 := C2.keep k7 (by simp)
              have hcl : cs.length ≤ 46 := by rw [List.length_map, List.length_map] at hyl; omega
              have eyl : ((cs.map fun c => S [c]).map V.str).length = cs.length := by rw [List.length_map, List.length_map]
              refine ⟨yp, rfl, ⟨_, SqL.of upd_same⟩, ?_⟩
              refine for_it (walk_list (xs := (cs.map fun c => S [c]).map V.str)) (fun j σ H' => ∃ o3 o6 o7 ks vs, σ = [some (.ref d), some (.int (i : Int)), some (.ref rl), o3, some (tx a), some (tx b), o6, o7] ∧ Keep [rl] [] H4 H' ∧ H' yp = some (.lst ((cs.map fun c => S [c]).map V.str)) ∧ H' rl = some (.lst vs) ∧ TellsL H' ks vs ∧ ks.map (·.1) = cs.take j ∧ ∀ q ∈ ks, IsT (subC C (a.take i) q.1) q.2)
                ⟨none, none, none, [], [], rfl, k7.mono0, upd_same, hr7, tellsL_nil, by rw [List.take_zero]; rfl, (fun q hq => by cases hq)⟩ (fun j σ H' _ h => ?_) ?_ ?_
              · obtain ⟨_, _, _, _, _, _, _, h2, _⟩ := h
                exact SqL.of h2
              · rintro j y σ H8 H9 hj ⟨o3, o6, o7, ks, vs, rfl, k8, hy8, h8, hT, hkm, hI⟩ ⟨rfl, hy⟩
                rw [eyl] at hj
                have ec : cs[j]? = some cs[j] := List.getElem?_eq_getElem hj
                rw [List.getElem?_map, List.getElem?_map, ec] at hy
                cases hy
                have hcm : cs[j] ∈ cs := List.getElem_mem hj
                obtain ⟨p1, hp1, hpc⟩ := (hall _).mp hcm
                generalize cs[j] = c at ec hcm hpc
                intro bd hbd
                have kb := Keep.new (L := [rl]) (D := []) (o := .dK []) hbd
                have k9 := k8.trans kb
                have C9 := C2.keep k9 (by simp)
                have hbdd : bd ≠ d := fun e => by
                  have := C2.keep k8 (by simp)
                  rw [e, this.at_] at hbd
                  cases hbd
                have hbd9 : (upd H9 bd (.dK [])) bd = some (.dK []) := upd_same
                have kb0 := Keep.new (L := []) (D := []) (o := .dK []) hbd
                have hrB := kb0.lst h8 (by simp)
                have hyB := kb0.lst hy8 (by simp)
                have hTB := tellsL_keep kb0 hT
                generalize upd H9 bd (.dK []) = HB at kb k9 C9 hbd9 kb0 hrB hyB hTB
                refine ⟨d, _, C9.at_, True.intro, fun od2 => ?_⟩
                have hfz2 : (upd HB d (.frz od2 (.dK (kvT tx C)))) d = some (.frz od2 (.dK (kvT tx C))) := upd_same
                refine ⟨_, rfl, d, od2, rfl, .inl ⟨_, hfz2, ?_⟩⟩
                refine for_it (walk_keys (kvs := kvT tx C)) (fun j2 σ H' => ∃ o7, σ = [some (.ref d), some (.int (i : Int)), some (.ref rl), some (tx [c]), some (tx a), some (tx b), some (.ref bd), o7] ∧ Keep [] [bd] (upd HB d (.frz od2 (.dK (kvT tx C)))) H' ∧ H' bd = some (.dK (kvT tx (subC (C.take j2) (a.take i) c))))
                  ⟨_, rfl, Keep.refl _, by rw [upd_ne hbdd, List.take_zero]; exact hbd9⟩ (fun j2 σ H' _ h => ?_) ?_ ?_
                · obtain ⟨_, _, h1, _⟩ := h
                  exact h1.frz hfz2
                · rintro j2 y σ H10 H11 hj2 ⟨o7, rfl, k10, hb10⟩ ⟨rfl, kk, v, ekv, rfl⟩
                  have hjC : j2 < C.length := by rw [kvT_len] at hj2; exact hj2
                  have eC : C[j2]? = some C[j2] := List.getElem?_eq_getElem hjC
                  have ek : (kvT tx C)[j2]? = some (Sum.inr (S (C[j2]).1), tx (C[j2]).2) := by
                    unfold kvT
                    rw [List.getElem?_map, eC]
                    rfl
                  rw [ek] at ekv
                  cases ekv
                  have hpm := List.getElem_mem hjC
                  have hl8 := (hC.key _ hpm).1.1
                  have hsn := subC_snoc (s := a.take i) (c := c) eC
                  rw [hsl] at hsn
                  refine ⟨_, rfl, _, rfl, (i : Int), rfl, _, rfl, _, _, rfl, rfl, ((i + 1 : Nat) : Int), rfl, S (C[j2]).1, rfl, toSzS (Nat.le_trans hl8 (by decide)), ?_⟩
                  rw [slice_one]
                  refine ⟨_, rfl, rfl, _, rfl, ?_⟩
                  by_cases hq : ((C[j2]).1.drop i).take 1 = [c]
                  · have hpx : (a.take i ++ [c]).isPrefixOf (C[j2]).1 = true := List.isPrefixOf_iff_prefix.mpr ((pre_iff (hpre _ hpm) hsl).mpr (one_iff.mp hq))
                    rw [if_pos hpx] at hsn
                    rw [hq, decide_eq_true rfl]
                    refine iteT ?_
                    have gv : valV (kvT tx C) (Sum.inr (S (C[j2]).1)) = some (tx (C[j2]).2) := by
                      have el : lookC C (C[j2]).1 = some (C[j2]).2 := lookC_mem hC.nd (List.getElem_mem hjC)
                      rw [valV_kvT, el]
                      rfl
                    have gd : DGet H11 d (V.str (S (C[j2]).1)) (some (tx (C[j2]).2)) := by
                      rw [← gv]
                      exact .inl ⟨_, Sum.inr (S (C[j2]).1), .inr ⟨od2, k10.frz hfz2⟩, rfl, rfl⟩
                    refine ⟨_, rfl, _, rfl, d, tx (C[j2]).2, rfl, gd, ?_⟩
                    refine ⟨_, rfl, _, rfl, _, rfl, _, _, rfl, rfl, ((i + 1 : Nat) : Int), rfl, S (C[j2]).1, rfl, toSzS (Nat.le_trans hl8 (by decide)), ?_⟩
                    rw [slice_from2]
                    have hsl2 : (subC (C.take j2) (a.take i) c).length ≤ 46 := Nat.le_trans subC_len (by rw [List.length_take]; omega)
                    refine ⟨bd, _, rfl, DPut.k (k := Sum.inr (S ((C[j2]).1.drop (i + 1)))) hb10 (by rw [kvT_len]; exact Nat.lt_of_le_of_lt hsl2 (by decide)), _, rfl, k10.putD hb10 (by simp), ?_⟩
                    rw [upd_same, putK_kvT, putC_new, hsn]
                    have hnd2 : ((subC (C.take (j2 + 1)) (a.take i) c).map (·.1)).Nodup := subC_nd (by
                      rw [List.map_take]
                      exact hC.nd.sublist (List.take_sublist _ _))
                    rw [hsn, List.map_append] at hnd2
                    have := (List.nodup_append.mp hnd2).2.2
                    intro hm
                    exact this _ hm _ List.mem_cons_self rfl
                  · have hpx : ¬ (a.take i ++ [c]).isPrefixOf (C[j2]).1 = true := fun z => hq (one_iff.mpr ((pre_iff (hpre _ hpm) hsl).mp (List.isPrefixOf_iff_prefix.mp z)))
                    rw [if_neg hpx, List.append_nil] at hsn
                    rw [decide_eq_false (fun z => hq (tx_inj z))]
                    refine iteF ⟨_, rfl, k10, ?_⟩
                    rw [hsn]
                    exact hb10
                · rintro σ H10 ⟨o7, rfl, k10, hb10⟩
                  refine ⟨k10.frz hfz2, ?_⟩
                  rw [kvT_len, List.take_length] at hb10
                  have k11 := lock_keep C9.at_ k10
                  have hb11 : (upd H10 d (.dK (kvT tx C))) bd = some (.dK (kvT tx (subC C (a.take i) c))) := by rw [upd_ne hbdd]; exact hb10
                  generalize upd H10 d (.dK (kvT tx C)) = H11 at k11 hb11
                  have hr11 := k11.lst hrB (by simp)
                  have hy11 := k11.lst hyB (by simp)
                  have hsub : ∀ p ∈ subC C (a.take i) c, (IsKey p.1 ∧ IsVal p.2) ∧ p.1.length < m := fun p hp => by
                    have hm := mem_subC.mp hp
                    have hk := hC.key _ hm
                    have hl := hlen _ hm
                    have hk1 : IsKey (a.take i ++ [c] ++ p.1) := hk.1
                    have hl : (a.take i ++ [c] ++ p.1).length < m + 1 := hl
                    have h8 := hk1.1
                    rw [List.length_append, List.length_append] at hl h8
                    have hl : (a.take i).length + 1 + p.1.length < m + 1 := hl
                    have h8 : (a.take i).length + 1 + p.1.length ≤ 8 := h8
                    exact ⟨⟨⟨by omega, fun z hz => hk1.2 z (List.mem_append_right _ hz)⟩, hk.2⟩, by omega⟩
                  have hsne : subC C (a.take i) c ≠ [] := fun e => by
                    obtain ⟨z, ez⟩ := hpc
                    have hz : (z, p1.2) ∈ subC C (a.take i) c := mem_subC.mpr (by
                      show (a.take i ++ [c] ++ z, p1.2) ∈ C
                      rw [ez]
                      exact hp1)
                    rw [e] at hz
                    cases hz
                  refine ⟨_, rfl, .inl ⟨rfl, _, .inl (.inl hr11)⟩, _, rfl, _, rfl, bd, subC C (a.take i) c, rfl, ⟨hb11, subC_nd hC.nd, fun p hp => (hsub p hp).1⟩, Nat.le_trans subC_len hCl, (fun p hp => (hsub p hp).2), (fun e => absurd e hsne), fun u o H12 n1 _ n3 n4 => ?_⟩
                  obtain ⟨t, rfl, hIt⟩ := n3 hsne
                  refine ⟨by show 2 ≤ sizeLine; decide, fun r hr2 => ?_⟩
                  have kr2 := Keep.new (L := []) (D := []) (o := .tup [tx [c], u]) hr2
                  have hr12 := kr2.lst (n4.lst hr11 (by simp)) (by simp)
                  have hy12 := kr2.lst (n4.lst hy11 (by simp)) (by simp)
                  have ka : Keep [rl] [] (upd H12 r (.tup [tx [c], u])) (upd (upd H12 r (.tup [tx [c], u])) rl (.lst (vs ++ [.ref r]))) := (Keep.refl _).putL hr12 (by simp)
                  have hvl := tellsL_len hT
                  have hkl : ks.length ≤ 46 := by
                    have h1 : (ks.map (·.1)).length = (cs.take j).length := by rw [hkm]
                    rw [List.length_map, List.length_take] at h1
                    omega
                  have k4B : Keep [rl] [] H4 H11 := k9.cut k11 (fun z hz => by cases hz) fun z hz => by rw [List.mem_singleton.mp hz]; exact .inr (k8.dom _ hbd)
                  refine ⟨rl, vs, .ref r, rfl, rfl, hr12, by rw [hvl]; exact Nat.lt_of_le_of_lt hkl (by decide), _, _, _, ks ++ [(c, t)], vs ++ [.ref r], rfl, ((k4B.trans n4.mono0).trans kr2.mono0).trans ka, ?_, upd_same, ?_, ?_, ?_⟩
                  · rw [upd_ne nry.symm]
                    exact hy12
                  · exact tellsL_app (tellsL_keep ka (tellsL_keep kr2 (tellsL_keep n4 (tellsL_keep k11 hTB)))) (tellsL_one (ka.tup upd_same) (tells_keep ka _ _ (tells_keep kr2 _ _ n1)))
                  · rw [List.map_append, hkm, take_snoc ec]
                    rfl
                  · intro q hq
                    rcases List.mem_append.mp hq with hq | hq
                    · exact hI q hq
                    · rw [List.mem_singleton.mp hq]
                      exact hIt
              · rintro σ H8 ⟨o3, o6, o7, ks, vs, rfl, k8, hy8, h8, hT, hkm, hI⟩
                rw [eyl, List.take_length] at hkm
                have k18 : Keep [] [] H H8 := (k1.trans kr).cut k8 (fun z hz => by rw [List.mem_singleton.mp hz]; exact .inr (k1.dom _ hrl)) fun z hz => by cases hz
                have C8' := hC.keep k18 (by simp)
                have hC8 : C.length ≤ 46 := hCl
                refine ⟨_, rfl, _, rfl, (i : Int), rfl, S a, rfl, toSzS (Nat.le_trans la (by decide)), ?_⟩
                rw [slice_to2]
                refine ⟨_, rfl, d, rfl, .inl ⟨_, .inl C8'.at_⟩, _, rfl, _, rfl, (i : Int), rfl, S a, rfl, toSzS (Nat.le_trans la (by decide)), ?_⟩
                rw [slice_to2]
                refine ⟨_, DGet.k (k := Sum.inr (S (a.take i))) C8'.at_, ?_⟩
                rw [valV_kvT]
                have eg : ((lookC C (a.take i)).map tx).getD V.non = txO (lookC C (a.take i)) := by
                  cases lookC C (a.take i) with
                  | none => rfl
                  | some x => rfl
                rw [eg]
                refine ⟨_, rfl, rl, vs, rfl, .inl ⟨SqL.of h8, fun q hq => ?_⟩⟩
                refine ⟨by show 4 ≤ sizeLine; decide, fun p hp => ?_⟩
                have kq := Keep.new (L := []) (D := []) (o := .tup vs) hq
                have kp := Keep.new (L := []) (D := []) (o := .tup [.str "node", tx (a.take i), txO (lookC C (a.take i)), .ref q]) hp
                refine k (.ref p) (some (.node (a.take i) (lookC C (a.take i)) ks)) _ ?_ (fun z => absurd z hne) (fun _ => ⟨_, rfl, ?_⟩) ((k18.trans kq).trans kp)
                · show Tells _ (.node (a.take i) (lookC C (a.take i)) ks) (.ref p)
                  unfold Tells
                  exact ⟨p, q, vs, rfl, upd_same, kp.tup upd_same, tellsL_keep kp (tellsL_keep kq hT)⟩
                · have hallk : ∀ c, c ∈ ks.map (·.1) ↔ ∃ p ∈ C, a.take i ++ [c] <+: p.1 := fun c => by rw [hkm]; exact hall c
                  refine isT_node hC.nd hC.key hne hpre (by rw [hkm]; exact hup) hallk hI fun hn => ?_
                  have h2 := two_letters hC.nd ha hb e1 ⟨e2, e3⟩ e4 hn hallk
                  rw [List.length_map] at h2
                  exact h2
end
end Seal
/-! SealD30: the law, walked. -/
namespace Seal
open PySem PySem.Spec PyProof.Rows L2 SX SealR LamX NdefX
def STR : Tx := [115, 116, 114, 97, 110, 103, 101]
theorem L_strange : ("strange" : Str) = S STR := by decide +kernel
theorem strange_good : (Tr.node [] (some STR) []).good = true := by decide +kernel
theorem strange_fit : Fit 12 (.node [] (some STR) []) := fit_node ⟨Lows.nil, Nat.zero_le _⟩ (fun l e => by cases e; exact ⟨by decide, (isVal_iff.mp (by decide +kernel)).2⟩) (fun p hp => by cases hp) (by rw [sizes_nil]; decide)
section
variable {w : World} {K : PySem.W.Frag} {mg : Str → Option Value} {base : Heap}
def spLaw (K : PySem.W.Frag) : Sp := fun vs H Q _ => ∃ (a : Addr) (ns : List Int), vs = [.ref a] ∧ SqL K H a (ns.map V.int) ∧ ns.length ≤ 63 ∧ H (tabA K) = some (.tbl #[]) ∧ ∀ H', Q (.bl true) H'
theorem sc_law : FnScope ["_law_script", "_law_state", "_law_whole", "_law_ways_here", "_law_told_here", "_law_part_here", "_law_root", "_law_k", "_law_seal", "_law_good", "_law_near", "_law_content_here", "_law_bounds_here", "_law_rows_here"] ["_law_script"] (defScope s_law) := ⟨rfl, rfl, rfl, by decide +kernel, rfl, by decide +kernel, by decide +kernel⟩
theorem law_fn (T : Fx w K mg base) {fd : FuncData} (F : FunD K d_law.name d_law.qual d_law.params d_law.body d_law.scope (d_law.dvs K) (d_law.kws K) (He.fAd K d_law.at_) fd) : FnOk PR w K mg base (L2.CX PR w) 50 (He.fAd K d_law.at_) fd ["_law_script"] (spLaw K) := by
  obtain ⟨fd1, F__law_begun, b__law_begun, k__law_begun⟩ := ok_begun T
  obtain ⟨fd2, F__law_digest, b__law_digest, k__law_digest⟩ := ok_digest T
  obtain ⟨fd3, F__law_content, b__law_content, k__law_content⟩ := ok_content T
  obtain ⟨fd4, F__law_told, b__law_told, k__law_told⟩ := ok_treeOf T 9
  obtain ⟨fd5, F__law_ways, b__law_ways, k__law_ways⟩ := ok_ways T 12
  obtain ⟨fd6, F__law_spoilt, b__law_spoilt, k__law_spoilt⟩ := ok_spoilt T 12 (Nat.le_refl _)
  obtain ⟨fd7, F__law_shown, b__law_shown, k__law_shown⟩ := ok_shown T 12 (Nat.le_refl _)
  obtain ⟨fd8, F__law_made, b__law_made, k__law_made⟩ := ok_made T
  obtain ⟨fd9, F_part_of, b_part_of, k_part_of⟩ := ok_part_of T 12
  obtain ⟨fd10, F__law_number, b__law_number, k__law_number⟩ := ok_numT T 12
  obtain ⟨fd11, F_numN, b_numN, k_numN⟩ := ok_numN T
  obtain ⟨fd12, F__law_bounds, b__law_bounds, k__law_bounds⟩ := ok_bounds T
  obtain ⟨fd13, F__law_rows, b__law_rows, k__law_rows⟩ := ok_rows T
  obtain ⟨fd14, F__law_right, b__law_right, k__law_right⟩ := ok_right T
  obtain ⟨fd15, F__law_part, b__law_part, k__law_part⟩ := ok_law_part T
  refine FunD.ok (k := 49) (N := ["_law_script", "_law_state", "_law_whole", "_law_ways_here", "_law_told_here", "_law_part_here", "_law_root", "_law_k", "_law_seal", "_law_good", "_law_near", "_law_content_here", "_law_bounds_here", "_law_rows_here"]) F sc_law (fun vs H Q E h => ?_) (fun cdv A outer s H vs Q E hr h => ?_)
  · obtain ⟨_, _, rfl, _⟩ := h
    rfl
  · obtain ⟨a, ns, rfl, hns, hnl, hT, k⟩ := h
    have hu := hu_of hr
    refine ⟨_, PSs.nox (pss_cons (ps_set (i := 1) sc_law.nd rfl (Or.inl rfl) (pe_call F__law_begun (hr.mono (by first | decide | omega)) rfl T.g__law_begun k__law_begun b__law_begun .nil passL (pa_cons (pv 0) pa_nil)))
    (pss_cons (ps_asg (pe_call F__law_digest (hr.mono (by first | decide | omega)) rfl T.g__law_digest k__law_digest b__law_digest .nil passL (pa_cons (pv 1) pa_nil)) (pg_tup rfl (pgs_cons (pg_name (i := 8) sc_law.nd rfl (Or.inl rfl)) (pgs_cons (pg_name (i := 9) sc_law.nd rfl (Or.inl rfl)) pgs_nil))))
    (pss_cons (ps_asg (pe_call F__law_content (hr.mono (by first | decide | omega)) rfl T.g__law_content k__law_content b__law_content .nil passL (pa_cons (pv 1) pa_nil)) (pg_tup rfl (pgs_cons (pg_name (i := 10) sc_law.nd rfl (Or.inl rfl)) (pgs_cons (pg_name (i := 11) sc_law.nd rfl (Or.inl rfl)) pgs_nil))))
    (pss_cons (ps_set (i := 2) sc_law.nd rfl (Or.inl rfl) (pe_call F__law_told (hr.mono (by first | decide | omega)) rfl T.g__law_told k__law_told b__law_told .nil passL (pa_cons (pv 11) pa_nil)))
    (pss_cons (ps_set (i := 3) sc_law.nd rfl (Or.inl rfl) pe_dnewK)
    (pss_cons (ps_expr (pe_call F__law_ways (hr.mono (by first | decide | omega)) rfl T.g__law_ways k__law_ways b__law_ways .nil passL (pa_cons (pv 1) (pa_cons (pv 2) (pa_cons pe_str (pa_cons (pv 3) pa_nil))))))
    (pss_cons (ps_set (i := 4) sc_law.nd rfl (Or.inl rfl) (pe_call F__law_spoilt (hr.mono (by first | decide | omega)) rfl T.g__law_spoilt k__law_spoilt b__law_spoilt .nil passL (pa_cons (pv 1) (pa_cons (pe_call F__law_shown (hr.mono (by first | decide | omega)) rfl T.g__law_shown k__law_shown b__law_shown .nil passL (pa_cons (pv 2) (pa_cons pe_str (pa_cons (pv 3) (pa_cons (pv 8) pa_nil))))) (pa_cons (pv 10) pa_nil)))))
    (C8.pss_cut (ps_set (i := 5) sc_law.nd rfl (Or.inl rfl) (pe_call F__law_made (hr.mono (by first | decide | omega)) rfl T.g__law_made k__law_made b__law_made .nil passL (pa_cons (pv 4) pa_nil)))
    (C8.pss_cut (ps_if (pt_cmpR op_isN (pv 5) pe_non (nomark _))
      (pss_cons (ps_set (i := 4) sc_law.nd rfl (Or.inl rfl) (pe_tup (pa_cons pe_str (pa_cons pe_str (pa_cons pe_str (pa_cons (pe_tup pa_nil) pa_nil))))))
      (pss_one (ps_set (i := 5) sc_law.nd rfl (Or.inl rfl) (pe_call F_part_of (hr.mono (by first | decide | omega)) rfl T.g_part_of k_part_of b_part_of .nil passL (pa_cons (pv 4) pa_nil)))))
      pss_nil)
    (C8.pss_cut (ps_set (i := 6) sc_law.nd rfl (Or.inl rfl) (SealR.pe_or (pe_call F__law_number (hr.mono (by first | decide | omega)) rfl T.g__law_number k__law_number b__law_number .nil passL (pa_cons (pv 2) (pa_cons (pv 8) pa_nil))) (pe_call F_numN (hr.mono (by first | decide | omega)) rfl T.g__law_number k_numN b_numN .nil passL (pa_cons (pv 2) (pa_cons (pv 8) pa_nil)))))
    (pss_cons (ps_for PassesOwn.never rfl (pi_range1 rfl T.f_range (pa_cons pe_int pa_nil)) (pg_name (i := 7) sc_law.nd rfl (Or.inl rfl))
      (pss_cons (ps_set (i := 12) sc_law.nd rfl (Or.inl rfl) (pe_call F__law_bounds (hr.mono (by first | decide | omega)) rfl T.g__law_bounds k__law_bounds b__law_bounds .nil passL (pa_cons (pv 1) (pa_cons (pv 10) (pa_cons (pv 11) pa_nil)))))
      (pss_cons (ps_set (i := 13) sc_law.nd rfl (Or.inl rfl) (pe_call F__law_rows (hr.mono (by first | decide | omega)) rfl T.g__law_rows k__law_rows b__law_rows .nil passL (pa_cons (pv 11) (pa_cons (pe_ix ix_tup (pv 12) pe_int (fun _ _ => rfl)) (pa_cons (pe_ix ix_tup (pv 12) pe_int (fun _ _ => rfl)) (pa_cons (pe_ix ix_tup (pv 12) pe_int (fun _ _ => rfl)) pa_nil))))))
      (pss_one (ps_if (pt_not (pt_val (pe_call F__law_right (hr.mono (by first | decide | omega)) rfl T.g__law_right k__law_right b__law_right .nil passL (pa_cons (pv 6) (pa_cons (pv 5) (pa_cons (pv 4) (pa_cons (pv 8) (pa_cons (pv 12) (pa_cons (pv 13) (pa_cons (pe_call F__law_part (hr.mono (by first | decide | omega)) rfl T.g__law_part k__law_part b__law_part .nil passL (pa_cons (pv 2) pa_nil)) pa_nil))))))))))
        (pss_one (ps_ret pe_bl))
        pss_nil)))))
    (pss_one (ps_ret pe_bl))))))))))))), ?_⟩
    refine ⟨_, rfl, a, ns, rfl, hns, hnl, fun st ce H1 _ _ k1 S1 => ?_⟩
    refine ⟨_, rfl, st, ce, rfl, S1, k1.tbl hT, fun p f dd M b H2 hp D2 hdd S2 => ?_⟩
    refine ⟨p, _, rfl, SqT.of hp, rfl, _, _, rfl, _, _, rfl, rfl, ?_⟩
    refine ⟨_, rfl, st, ce, rfl, S2, fun p2 nr d cs C H3 hp2 N3 C3 hCl hd0 k3 S3 => ?_⟩
    refine ⟨p2, _, rfl, SqT.of hp2, rfl, _, _, rfl, _, _, rfl, rfl, ?_⟩
    have D3 := D2.keep k3 (by simp)
    have hdd3 : H3 dd ≠ none := fun z => hdd (k3.dom _ z)
    have ndd : d ≠ dd := fun e => hdd (e ▸ hd0)
    have nn := N3.ne S3
    refine ⟨_, rfl, d, C, rfl, C3, hCl, (fun p hp => Nat.lt_succ_of_le (C3.key p hp).1.1), (fun _ => by decide), fun u o H4 hT4 ho1 ho2 k4 => ?_⟩
    have hoT : ∀ t, o = some t → IsT C t := fun t e => by
      by_cases hC0 : C = []
      · rw [ho1 hC0] at e
        cases e
      · obtain ⟨t2, e2, hI⟩ := ho2 hC0
        rw [e2] at e
        cases e
        exact hI
    have hN : ∀ t, o = some t → Neat 12 t ∧ t.Whole := fun t e => ⟨(hoT t e).neat C3.key hCl, (hoT t e).whole⟩
    have hsO : sizeO o ≤ 100 := sizeO_le fun t e => ⟨(hN t e).1.fit, (hN t e).2⟩
    intro wd hwd
    have kw := Keep.new (L := []) (D := []) (o := .dK []) hwd
    have k34 := k4.trans kw
    have hwdd : wd ≠ dd := fun e => by
      rw [e] at hwd
      exact hdd3 (k4.dom _ hwd)
    have hwdd2 : wd ≠ d := fun e => by
      rw [e, (C3.keep k4 (by simp)).at_] at hwd
      cases hwd
    refine ⟨_, rfl, _, rfl, _, rfl, st, ce, wd, u, o, [], [], rfl, S3.keep0 k34, tellsO_keep kw hT4, (fun t e => ⟨(hN t e).1.fit, (hN t e).2⟩), (fun _ => by decide), by decide, upd_same, by show 0 + sizeO o ≤ 1000; omega, fun W5 H5 hw5 _ k5 S5 => ?_⟩
    have k35 : Keep [st, ce] [wd] H3 H5 := (k34.mono0).trans k5
    have D5 : DigAt H5 f dd M 0 := (D3.keep k35 (by simp [hwdd.symm]))
    have N5 := N3.keep k35 nn
    have C5 := C3.keep k35 (by simp [hwdd2.symm])
    have hT5 : TellsO H5 o u := tellsO_keep k5 (tellsO_keep kw hT4)
    refine ⟨_, rfl, _, rfl, _, rfl, _, rfl, u, o, [], wd, f, dd, W5, M, 0, rfl, hT5, (fun t e => ⟨(hN t e).1, (hN t e).2, by have := (hN t e).1.fit.size; omega⟩), (fun _ => by decide), by decide, hw5, hwdd, D5, fun u2 o2 M6 n6 H6 hT6 e61 e62 e63 m6 k6 D6 => ?_⟩
    have hn6 : n6 ≤ 100 := by
      cases ho : o with
      | none =>
        have := e63 ho
        omega
      | some t =>
        obtain ⟨_, _, _, _, h⟩ := e62 t ho
        have := (hN t ho).1.fit.size
        omega
    have hN2 : ∀ t, o2 = some t → Neat 12 t := fun t e => by
      cases ho : o with
      | none =>
        rw [e61 ho] at e
        cases e
      | some t0 =>
        obtain ⟨t', e2, h, _⟩ := e62 t0 ho
        rw [e2] at e
        cases e
        exact h
    refine ⟨_, rfl, st, ce, nr, cs, u2, o2, rfl, S5.keep0 k6, N5.keep k6 (by simp), hT6, hN2, (fun _ => by decide), fun u3 t3 H7 r1 r2 r3 r4 r5 => ?_⟩
    have D7 : DigAt H7 f dd M6 n6 := D6.keep r4 (by simp)
    have N7 := (N5.keep k6 (by simp)).keep r4 nn
    have C7 := (C5.keep k6 (by simp [ndd])).keep r4 (by simp)
    have hT7 : TellsO H7 o u := tellsO_keep r4 (tellsO_keep k6 hT5)
    have hdd7 : H7 dd ≠ none := fun z => hdd3 (k35.dom _ (k6.dom _ (r4.dom _ z)))
    refine ⟨fun σ H' => ∃ pv, σ = [some (.ref a), some (.ref st), some u, some (.ref wd), some u3, some pv, none, none, some (.ref f), some (.bl b), some (.ref nr), some (.ref d), none, none] ∧ Keep [] [] H7 H' ∧ (PartAt K H' t3 pv ∨ pv = .non), ?_, ?_⟩
    · refine ⟨_, rfl, u3, t3, rfl, r1, r2, fun pv H8 k8 hP => ?_, fun hg H8 k8 => ?_⟩
      · exact ⟨pv, rfl, k8, .inl hP⟩
      · exact ⟨.non, rfl, k8, .inr rfl⟩
    · rintro σ H8 ⟨pv8, rfl, k8, hP8⟩
      refine ⟨fun σ H' => ∃ tv pv t, σ = [some (.ref a), some (.ref st), some u, some (.ref wd), some tv, some pv, none, none, some (.ref f), some (.bl b), some (.ref nr), some (.ref d), none, none] ∧ Keep [] [] H7 H' ∧ PartAt K H' t pv ∧ Tells H' t tv ∧ Fit 12 t, ?_, ?_⟩
      · refine ⟨_, rfl, rfl, _, rfl, ?_⟩
        rcases hP8 with hP | rfl
        · rw [decide_eq_false (part_ref hP)]
          exact iteF ⟨u3, pv8, t3, rfl, k8, hP, tells_keep k8 _ _ r1, r2⟩
        · refine iteT ?_
          refine ⟨by show 0 ≤ sizeLine; decide, fun q hq => ⟨by show 4 ≤ sizeLine; decide, fun p3 hp3 => ?_⟩⟩
          have kq := Keep.new (L := []) (D := []) (o := .tup []) hq
          have hE : upd (upd H8 q (.tup [])) p3 (.tup [.str "node", .str "", .str "strange", .ref q]) = upd (upd H8 q (.tup [])) p3 (.tup [.str "node", tx [], txO (some STR), .ref q]) := by
            show _ = upd _ p3 (.tup [.str "node", .str (S []), .str (S STR), .ref q])
            rw [← L_nil, ← L_strange]
          have kp := Keep.new (L := []) (D := []) (o := .tup [.str "node", tx [], txO (some STR), .ref q]) hp3
          have ht : Tells (upd (upd H8 q (.tup [])) p3 (.tup [.str "node", .str "", .str "strange", .ref q])) (.node [] (some STR) []) (.ref p3) := by
            rw [hE]
            unfold Tells
            exact ⟨p3, q, [], rfl, upd_same, kp.tup upd_same, tellsL_nil⟩
          have kk : Keep [] [] H7 (upd (upd H8 q (.tup [])) p3 (.tup [.str "node", .str "", .str "strange", .ref q])) := by
            rw [hE]
            exact (k8.trans kq).trans kp
          refine ⟨_, rfl, .ref p3, .node [] (some STR) [], rfl, ht, strange_fit, fun pv H9 k9 hP => ?_, fun e => by rw [strange_good] at e; cases e⟩
          exact ⟨.ref p3, pv, .node [] (some STR) [], rfl, kk.trans k9, hP, tells_keep k9 _ _ ht, strange_fit⟩
      · rintro σ H9 ⟨tv, pv, t, rfl, k9, hP, ht, fit⟩
        have D9 := D7.keep0 k9
        have hT9 := tellsO_keep k9 hT7
        have S9 := r5.keep0 k9
        have N9 := N7.keep k9 (by simp)
        have C9 := C7.keep k9 (by simp)
        have hdd9 : H9 dd ≠ none := fun z => hdd7 (k9.dom _ z)
        have hsrt : ∀ srt, SortC C srt → pairsO o = srt := fun srt x1 => by
          by_cases hC0 : C = []
          · rw [ho1 hC0]
            have x2 := x1.perm
            rw [hC0] at x2
            exact (List.Perm.eq_nil x2).symm
          · obtain ⟨t2, e2, hI⟩ := ho2 hC0
            rw [e2]
            exact hI.sort.uniq x1
        have hsm : SmallP (pairsO o) := fun q hq => by
          cases ho : o with
          | none =>
            rw [ho] at hq
            cases hq
          | some t2 =>
            rw [ho] at hq
            have hm := (hoT t2 ho).sort.perm.subset hq
            exact ⟨(C9.key q hm).1.2.small, (C9.key q hm).2.2.small⟩
        refine ⟨fun σ H' => ∃ (r : Nat) (M9 : Known) (n9 : Nat), σ = [some (.ref a), some (.ref st), some u, some (.ref wd), some tv, some pv, some (.int (r : Int)), none, some (.ref f), some (.bl b), some (.ref nr), some (.ref d), none, none] ∧ Keep [] [dd] H9 H' ∧ DigAt H' f dd M9 n9 ∧ numO M9 o = some r ∧ r < 10 ^ 40 ∧ n9 ≤ 1000, ?_, ?_⟩
        · cases ho : o with
          | none =>
            rw [ho] at hT9
            have hT9 : u = .non := hT9
            subst hT9
            exact .inr ⟨_, rfl, _, rfl, f, dd, M6, n6, rfl, D9, by omega, fun kk M' H10 m1 m2 m3 m4 m5 => ⟨kk, M', _, rfl, m4, m5, m2, m3, by omega⟩⟩
          | some t0 =>
            rw [ho] at hT9
            have h1 := (hN t0 ho).1.fit
            have h2 := h1.size
            exact .inl ⟨_, rfl, _, rfl, u, t0, f, dd, M6, n6, rfl, hT9, h1, D9, by omega, fun kk M' H10 m1 m2 m3 m4 m5 => ⟨kk, M', _, rfl, m4, m5, m2, m3, by omega⟩⟩
        · rintro σ H10 ⟨r, M9, n9, rfl, k10, D10, hnum, hr40, hn9⟩
          refine ⟨4, rfl, by decide, by decide, ?_⟩
          refine for_it (walk_range (lo := 0) (n := (4 : Int).toNat)) (fun j σ H' => ∃ o7 o12 o13 M' n', σ = [some (.ref a), some (.ref st), some u, some (.ref wd), some tv, some pv, some (.int (r : Int)), o7, some (.ref f), some (.bl b), some (.ref nr), some (.ref d), o12, o13] ∧ Keep [st, ce] [dd] H9 H' ∧ StateAt H' st ce ∧ DigAt H' f dd M' n' ∧ M9.Le M' ∧ n' ≤ 1000 + j * 50000)
            ⟨none, none, none, M9, n9, rfl, k10.mono (fun z hz => by cases hz) (fun z h => h), S9.keep0 k10, D10, Known.Le.refl M9, by omega⟩ (fun _ _ _ _ _ => True.intro) ?_ ?_
          · rintro j y σ H11 H12 hj ⟨o7, o12, o13, M', n', rfl, k11, S11, D11, m11, hn'⟩ ⟨rfl, rfl⟩
            have hj4 : j < 4 := hj
            refine ⟨_, rfl, _, rfl, _, rfl, st, ce, nr, d, cs, C, rfl, S11, N9.keep k11 nn, C9.keep k11 (by simp [ndd]), hCl, fun bb B H13 g1 g2 g3 g4 g5 => ?_⟩
            have k13 : Keep [st, ce] [dd] H9 H13 := k11.trans (g4.mono (fun _ h => h) fun z hz => by cases hz)
            refine ⟨_, rfl, _, rfl, bb, _, _, _, rfl, rfl, SqT.of g1, rfl, _, rfl, bb, _, _, _, rfl, rfl, SqT.of g1, rfl, _, rfl, bb, _, _, _, rfl, rfl, SqT.of g1, rfl, ?_⟩
            refine ⟨d, B, C, rfl, C9.keep k13 (by simp [ndd]), hCl, fun l us srt H14 x1 x2 x3 x4 x5 => ?_⟩
            have k14 : Keep [st, ce] [dd] H9 H14 := k13.trans x5.mono0
            have D14 := (D11.keep g4 (by simp)).keep0 x5
            refine ⟨_, rfl, _, rfl, _, rfl, _, rfl, _, rfl, _, rfl, _, rfl, u, o, rfl, tellsO_keep k14 hT9, (fun t e => ⟨(hN t e).1.fit, (hoT t e).good⟩), fun wv H15 y1 y2 => ?_⟩
            have k15 := k14.trans (y1.mono0 (L := [st, ce]) (D := [dd]))
            have x3' : PairL H15 (B.rows (pairsO o)) us := by
              rw [hsrt srt x1]
              exact pairL_keep y1 x3
            refine ⟨r, n', pv, tv, wv, f, dd, bb, l, t, o, M', B, us, rfl, part_keep k15 _ _ hP, tells_keep k15 _ _ ht, fit, y2, (fun z e => ⟨(hN z e).1.fit, (hN z e).2⟩), hsm, D14.keep0 y1, (fun z => hdd9 (k15.dom _ z)), by omega, hr40, numO_mono m11 hnum, (x5.trans y1).tup g1, g2, y1.lst x2 (by simp), x3', fun M2 H16 z1 z2 z3 => ?_⟩
            refine ⟨_, rfl, iteF ⟨_, _, _, M2, _, rfl, k15.trans (z2.mono (fun z hz => by cases hz) fun _ h => h), ?_, z3, m11.trans z1, by omega⟩⟩
            exact ((g5.keep0 x5).keep0 y1).keep z2 (by simp) (by simp)
          · rintro σ H11 ⟨o7, o12, o13, M', n', rfl, _⟩
            exact k H11
end
end Seal
/-! SealE: the end. -/
namespace Seal
open PySem PySem.Spec PyProof.Rows L2 LamX
theorem law_at {w : World} {K : PySem.W.Frag} {mg : Str → Option Value} {h : Heap} {f : Addr} (X : K.In h) (G : h.Ns mainGlobals mg) (hfa : mg ("law" : Str) = some (.ref f)) (c : He.SaysX fa fn [] tf exB w h K) :
    LawAtS PySem.Challenge.rw_sealroot_k34_whole_strange_slices w K (L2.CX PR w) 50 63 "_law_script" mg f h := by
  obtain ⟨fd, F⟩ := c.t.d.def_ 54 (d := d_law) rfl
  have e := hfa.symm.trans (He.glo_ok X G (c.t.d.fact 42 (f := .glo "law") rfl))
  cases e
  have b := FunD.bindsA (ps := ["_law_script"]) F fun _ _ _ _ _ _ us hl => match us, hl with | [_], _ => rfl
  have hp : (("_law_digest", none) : He.Defn) ∈ tf := List.mem_cons_self
  have m1 : ∀ p ∈ [He.cT K ("_law_digest", none)], p = He.cT K ("_law_digest", none) := fun p hp => List.mem_singleton.mp hp
  refine ⟨fd, [He.cT K ("_law_digest", none)], spLaw K, fun p hq => ?_, fun p hq => ?_, fun p hq => ?_, fun s v => b s [v] rfl, fun H a ns hl _ hcs hS => ?_, fun base kin ns htab => ?_⟩
  · rw [m1 p hq]
    exact c.empty _ hp
  · rw [m1 p hq]
    exact c.out _ hp
  · rw [m1 p hq]
    exact PySem.W.codeHd_of_K X (c.hd _ hp)
  · exact ⟨a, ns, rfl, hS, hl, hcs _ List.mem_cons_self, fun _ => rfl⟩
  · exact law_fn ⟨kin, ns, c.t, c.more, c.hd _ hp, htab _ List.mem_cons_self⟩ F
end Seal
open PySem PySem.W PySem.Calls PyProof.Rows
theorem PySem.Challenge.cw_sealroot_k34_whole_strange_slices_holds : PySem.Challenge.rw_sealroot_k34_whole_strange_slices.Holds := by
  w_on; o_law
  refine HandSHeadRun.head_any (r := OpenLaw.row PySem.Challenge.rw_sealroot_k34_whole_strange_slices) (q := Seal.qv) (H := Seal.hk) (ob := Seal.ob) (M := 6000) (loose := Seal.loose) (d := HandSHeadRun.topDef (OpenLaw.row PySem.Challenge.rw_sealroot_k34_whole_strange_slices).prog 63) (kwd := []) Seal.ob_eq
    (by kernel_rfl) (fun s => by kernel_rfl) Seal.run (by kernel_rfl) (by kernel_rfl) (by kernel_rfl) (by rfl) (by first | assumption | decide +kernel) (by decide +kernel) ⟨rfl, rfl, rfl, rfl, rfl, by decide +kernel⟩ ?hw ?hc
  case hw => w_witness2
  case hc =>
    refine LamX.walk_ofTsE (l := PySem.Challenge.rw_sealroot_k34_whole_strange_slices) (n := 63) (k := 50) (x := "_law_script") (CX := fun w => L2.CX Seal.PR w) rfl (by decide) (by kernel_rfl) ⟨rfl, by decide, by decide⟩ ?F (fun w H s e s' z => ?cx)
    case F =>
      intro w mg fa h Y G hmg0
      obtain ⟨K, KX, c⟩ := Y
      have hmg : mg ("law" : PySem.Str) = some (.ref fa) := by
        have e : (HandSHeadRun.topDef (OpenLaw.row PySem.Challenge.rw_sealroot_k34_whole_strange_slices).prog 63).name = ("law" : PySem.Str) := by kernel_rfl
        rw [← e]
        exact hmg0
      exact ⟨K, KX, Seal.law_at KX G hmg c⟩
    case cx =>
      obtain ⟨_, _, _, _, _, _, _, _, _, _, _, _, z⟩ := z
      exact z.elim
