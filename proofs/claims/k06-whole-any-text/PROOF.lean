import PyProof.Rows.All
import Wide.All
import OpenK.AllK
import Wide.FinOn
import PySem.PyData
import PySem.Str
import HandS.ForMost
import HandS.ForExc
import HandS.IsInst
import HandS.TupAny
import HandS.WideBits
import HandS.Flow
import HandS.StrMore
import HandS.More
import HandS.EndBits
import HandS.Deep
import HandS.TryMany
import HandS.ExcField
import HandS.ExcIs
import HandS.RaiseMore
import HandS.Conv
import KE.GoesRaise
import HandS.ExcInit
import HandS.WrittenGet
import KE.KDictSum
import PyProof.NeKinds
import PyProof.EqAt
import PyProof.EqKinds
import HandS.Evl
import HandS.Codes
import HandS.Walk
import KE.IntTextLaws
import HandS.TryOnly
import KE.OsScanText
import HandS.Dict
import PyProof.StrOps2
import KE.KIsAll
import KE.KExcIs
import PyProof.ReprRoads
import PySem.Challenge.RW_hedgewright_k06_whole_any_text
section Sec_P1
set_option Elab.async false
set_option maxHeartbeats 4000000
set_option linter.all false
/-! K06, plain part 1: texts as lists of codes, words, figures, the reference reader. -/
namespace K06
open PySem
abbrev Tx := List Nat

/-! ### words -/
inductive Word where
  | none | coin | give | both | either | later | once | «until» | any | scale | by | price | time | most | least
  deriving DecidableEq
inductive Kind where
  | deal | amount | sign | share | figure
  deriving DecidableEq
inductive Mk where
  | plus | minus | times | below | upto
  deriving DecidableEq
def Word.tx : Word → Tx
  | .none => [110,111,110,101] | .coin => [99,111,105,110] | .give => [103,105,118,101] | .both => [98,111,116,104] | .either => [101,105,116,104,101,114]
  | .later => [108,97,116,101,114] | .once => [111,110,99,101] | .until => [117,110,116,105,108] | .any => [97,110,121] | .scale => [115,99,97,108,101] | .by => [98,121]
  | .price => [112,114,105,99,101] | .time => [116,105,109,101] | .most => [109,111,115,116] | .least => [108,101,97,115,116]
def Mk.tx : Mk → Tx
  | .plus => [32,43,32] | .minus => [32,45,32] | .times => [32,42,32] | .below => [32,60,32] | .upto => [32,60,61,32]
def Mk.nm : Mk → Tx
  | .plus => [112,108,117,115] | .minus => [109,105,110,117,115] | .times => [116,105,109,101,115] | .below => [98,101,108,111,119] | .upto => [117,112,116,111]
def forms : List Word := [.none, .coin, .give, .both, .either, .later, .once, .until, .any, .scale, .by]
def numbers : List Word := [.price, .time, .most, .least]
def pairs : List Mk := [.plus, .minus, .times]
def signs : List Mk := [.below, .upto]
def Word.kinds : Word → List Kind
  | .none => [] | .coin => [.amount] | .give => [.deal] | .both => [.deal, .deal] | .either => [.deal, .deal] | .later => [.figure, .deal]
  | .once => [.sign, .deal] | .until => [.sign, .deal] | .any => [.deal] | .scale => [.amount, .deal] | .by => [.share, .deal]
  | .price => [] | .time => [] | .most => [.amount, .amount] | .least => [.amount, .amount]
theorem Word.tx_inj : ∀ a b : Word, a.tx = b.tx → a = b := by
  intro a b; cases a <;> cases b <;> first | (intro _; rfl) | (intro h; exact absurd h (by decide))
theorem Mk.tx_inj : ∀ a b : Mk, a.tx = b.tx → a = b := by
  intro a b; cases a <;> cases b <;> first | (intro _; rfl) | (intro h; exact absurd h (by decide))

/-! ### how far two texts are alike -/
def lcp : Tx → Tx → Nat
  | a :: x, b :: y => if a = b then lcp x y + 1 else 0
  | _, _ => 0
def pre : Tx → Tx → Bool
  | [], _ => true
  | _ :: _, [] => false
  | a :: x, b :: y => decide (a = b) && pre x y
theorem lcp_le : ∀ x y : Tx, lcp x y ≤ x.length ∧ lcp x y ≤ y.length
  | [], _ => by simp [lcp]
  | _ :: _, [] => by simp [lcp]
  | a :: x, b :: y => by
    have := lcp_le x y
    unfold lcp; split <;> simp <;> omega
theorem pre_iff : ∀ x y : Tx, pre x y = true ↔ lcp x y = x.length
  | [], _ => by simp [pre, lcp]
  | _ :: _, [] => by simp [pre, lcp]
  | a :: x, b :: y => by
    have ih := pre_iff x y
    unfold pre lcp
    by_cases h : a = b
    · simp [h, ih]
    · simp [h]
theorem pre_take : ∀ x y : Tx, pre x y = true ↔ y.take x.length = x
  | [], _ => by simp [pre]
  | _ :: _, [] => by simp [pre]
  | a :: x, b :: y => by
    have ih := pre_take x y
    simp only [pre, List.length_cons, List.take_succ_cons, Bool.and_eq_true, decide_eq_true_eq, List.cons.injEq, ih]
    constructor
    · rintro ⟨h1, h2⟩; exact ⟨h1.symm, h2⟩
    · rintro ⟨h1, h2⟩; exact ⟨h1.symm, h2⟩
theorem pre_app {x y : Tx} (h : pre x y = true) : y = x ++ y.drop x.length := by
  have e := (pre_take x y).mp h
  have q := List.take_append_drop x.length y
  rw [e] at q
  exact q.symm
theorem pre_self (x y : Tx) : pre x (x ++ y) = true := (pre_take _ _).mpr (List.take_left' rfl)
/-- lcp by its places -/
theorem lcp_ge : ∀ (x y : Tx) (n : Nat), n ≤ x.length → (n ≤ lcp x y ↔ y.take n = x.take n)
  | x, y, 0, _ => by simp
  | [], _, n + 1, h => by simp at h
  | a :: x, [], n + 1, _ => by simp [lcp]
  | a :: x, b :: y, n + 1, h => by
    have ih := lcp_ge x y n (by simpa using h)
    unfold lcp
    by_cases e : a = b
    · simp [e, ih]
    · simp [e]; exact fun q => absurd q.symm e
/-- the farthest -/
def far (ws : List Tx) (r : Tx) : Nat := ws.foldl (fun m w => max m (lcp w r)) 0
theorem foldl_max_ge (f : Tx → Nat) : ∀ (ws : List Tx) (m : Nat), m ≤ ws.foldl (fun m w => max m (f w)) m
  | [], m => Nat.le_refl m
  | w :: ws, m => Nat.le_trans (Nat.le_max_left m (f w)) (foldl_max_ge f ws _)
theorem foldl_max_mem (f : Tx → Nat) : ∀ (ws : List Tx) (m : Nat) (w : Tx), w ∈ ws → f w ≤ ws.foldl (fun m w => max m (f w)) m
  | v :: ws, m, w, h => by
    rcases List.mem_cons.mp h with rfl | h
    · exact Nat.le_trans (Nat.le_max_right m (f w)) (foldl_max_ge f ws _)
    · exact foldl_max_mem f ws _ w h
theorem foldl_max_le (f : Tx → Nat) : ∀ (ws : List Tx) (m k : Nat), m ≤ k → (∀ w ∈ ws, f w ≤ k) → ws.foldl (fun m w => max m (f w)) m ≤ k
  | [], m, k, h, _ => h
  | v :: ws, m, k, h, q => foldl_max_le f ws _ k (Nat.max_le.mpr ⟨h, q v List.mem_cons_self⟩) fun w hw => q w (List.mem_cons_of_mem _ hw)
theorem lcp_far {ws : List Tx} {w r : Tx} (h : w ∈ ws) : lcp w r ≤ far ws r := foldl_max_mem (fun w => lcp w r) ws 0 w h
theorem far_le {ws : List Tx} {r : Tx} {k : Nat} (h : ∀ w ∈ ws, lcp w r ≤ k) : far ws r ≤ k := foldl_max_le (fun w => lcp w r) ws 0 k (Nat.zero_le _) h
theorem far_len (ws : List Tx) (r : Tx) : far ws r ≤ r.length := far_le fun w _ => (lcp_le w r).2
/-- none begins another -/
def Apart (ws : List Tx) : Prop := ∀ a ∈ ws, ∀ b ∈ ws, pre a b = true → a = b
/-- two prefixes of one text: one of them begins the other -/
theorem pre_two : ∀ (a b r : Tx), pre a r = true → pre b r = true → pre a b = true ∨ pre b a = true
  | [], _, _, _, _ => .inl rfl
  | _ :: _, [], _, _, _ => .inr rfl
  | x :: a, y :: b, [], h, _ => by simp [pre] at h
  | x :: a, y :: b, z :: r, h, q => by
    simp only [pre, Bool.and_eq_true, decide_eq_true_eq] at h q ⊢
    obtain ⟨rfl, h⟩ := h
    obtain ⟨rfl, q⟩ := q
    rcases pre_two a b r h q with k | k
    · exact .inl ⟨rfl, k⟩
    · exact .inr ⟨rfl, k⟩
theorem Apart.one {ws : List Tx} (A : Apart ws) {a b r : Tx} (ha : a ∈ ws) (hb : b ∈ ws) (h : pre a r = true) (q : pre b r = true) : a = b := by
  rcases pre_two a b r h q with k | k
  · exact A a ha b hb k
  · exact (A b hb a ha k).symm

/-! ### figures -/
def digit (c : Nat) : Bool := decide (48 ≤ c) && decide (c ≤ 57)
def figs (most : Nat) : Tx → Tx
  | [] => []
  | c :: r => if digit c = true then (if c = 48 then [48] else c :: (r.takeWhile digit).take (most - 1)) else []
theorem figs_cons (most c : Nat) (r : Tx) : figs most (c :: r) = if digit c = true then (if c = 48 then [48] else c :: (r.takeWhile digit).take (most - 1)) else [] := rfl
/-- figures as a number's text has them -/
def Canon (most : Nat) (ds : Tx) : Prop := ds ≠ [] ∧ ds.length ≤ most ∧ (∀ c ∈ ds, digit c = true) ∧ (ds.head? = some 48 → ds = [48])
theorem takeWhile_pre (p : Nat → Bool) : ∀ (r : Tx) (k : Nat), (r.takeWhile p).take k = r.take ((r.takeWhile p).take k).length
  | [], k => by simp
  | c :: r, 0 => by simp
  | c :: r, k + 1 => by
    by_cases h : p c = true
    · rw [List.takeWhile_cons_of_pos h, List.take_succ_cons, List.length_cons, List.take_succ_cons, ← takeWhile_pre p r k]
    · rw [List.takeWhile_cons_of_neg h]; simp
theorem figs_pre (most : Nat) (r : Tx) : r = figs most r ++ r.drop (figs most r).length := by
  cases r with
  | nil => simp [figs]
  | cons c r =>
    rw [figs_cons]
    split
    · split
      · rename_i h; subst h; simp
      · simp only [List.length_cons, List.drop_succ_cons, List.cons_append]
        congr 1
        have e := takeWhile_pre digit r (most - 1)
        conv => lhs; rw [← List.take_append_drop ((r.takeWhile digit).take (most - 1)).length r, ← e]
    · simp
theorem takeWhile_all (p : Nat → Bool) : ∀ (r : Tx) (c : Nat), c ∈ r.takeWhile p → p c = true
  | [], c, h => by simp at h
  | d :: r, c, h => by
    by_cases q : p d = true
    · rw [List.takeWhile_cons_of_pos q] at h
      rcases List.mem_cons.mp h with rfl | h
      · exact q
      · exact takeWhile_all p r c h
    · rw [List.takeWhile_cons_of_neg q] at h; simp at h
theorem figs_canon {most : Nat} {r : Tx} (h0 : 0 < most) (h : figs most r ≠ []) : Canon most (figs most r) := by
  cases r with
  | nil => simp [figs] at h
  | cons c r =>
    rw [figs_cons] at h ⊢
    by_cases hd : digit c = true
    · rw [if_pos hd] at h ⊢
      by_cases hc : c = 48
      · rw [if_pos hc]
        exact ⟨by simp, by simp; omega, fun d hd' => by simp at hd'; subst hd'; decide, fun _ => rfl⟩
      · rw [if_neg hc]
        refine ⟨by simp, ?_, fun d hd' => ?_, fun q => absurd (Option.some.inj q) hc⟩
        · rw [List.length_cons, List.length_take]; omega
        · rcases List.mem_cons.mp hd' with rfl | hd'
          · exact hd
          · exact takeWhile_all digit r d (List.mem_of_mem_take hd')
    · rw [if_neg hd] at h; exact absurd rfl h
theorem figs_one (r : Tx) : (figs 1 r).length ≤ 1 := by
  cases r with
  | nil => simp [figs]
  | cons c r => rw [figs_cons]; split <;> (try split) <;> simp
end K06
end Sec_P1
section Sec_P2
set_option Elab.async false
set_option maxHeartbeats 4000000
set_option linter.all false
/-! K06, plain part 2: trees, their texts and data, the reference reader, the law's machine, the program's machine. -/
namespace K06
open PySem
/-! ### trees -/
inductive Amt where
  | num (ds : Tx) | price | time | most (a b : Amt) | least (a b : Amt) | pr (k : Mk) (a b : Amt)
structure Sgn where
  k : Mk
  a : Amt
  b : Amt
structure Shr where
  neg : Bool
  n : Tx
  d : Option Tx
inductive Deal where
  | none | coin (a : Amt) | one (w : Word) (d : Deal) | two (w : Word) (d e : Deal) | later (f : Tx) (d : Deal) | «when» (w : Word) (s : Sgn) (d : Deal) | scale (a : Amt) (d : Deal) | by (q : Shr) (d : Deal)
def Amt.wf : Amt → Prop
  | .num ds => Canon 10 ds
  | .price => True
  | .time => True
  | .most a b => a.wf ∧ b.wf
  | .least a b => a.wf ∧ b.wf
  | .pr k a b => k ∈ pairs ∧ a.wf ∧ b.wf
def Sgn.wf (s : Sgn) : Prop := s.k ∈ signs ∧ s.a.wf ∧ s.b.wf
def Shr.wf (q : Shr) : Prop := Canon 30 q.n ∧ ∀ e, q.d = some e → Canon 30 e
def Deal.wf : Deal → Prop
  | .none => True
  | .coin a => a.wf
  | .one w d => (w = .give ∨ w = .any) ∧ d.wf
  | .two w d e => (w = .both ∨ w = .either) ∧ d.wf ∧ e.wf
  | .later f d => Canon 1 f ∧ d.wf
  | .when w s d => (w = .once ∨ w = .until) ∧ s.wf ∧ d.wf
  | .scale a d => a.wf ∧ d.wf
  | .by q d => q.wf ∧ d.wf
/-! ### their texts -/
def tOpen : Tx := [40]
def tClose : Tx := [41]
def tComma : Tx := [44,32]
def Amt.txt : Amt → Tx
  | .num ds => ds
  | .price => Word.price.tx
  | .time => Word.time.tx
  | .most a b => Word.most.tx ++ (tOpen ++ (a.txt ++ (tComma ++ (b.txt ++ tClose))))
  | .least a b => Word.least.tx ++ (tOpen ++ (a.txt ++ (tComma ++ (b.txt ++ tClose))))
  | .pr k a b => tOpen ++ (a.txt ++ (k.tx ++ (b.txt ++ tClose)))
def Sgn.txt (s : Sgn) : Tx := s.a.txt ++ (s.k.tx ++ s.b.txt)
def Shr.txt (q : Shr) : Tx := (if q.neg = true then [45] else []) ++ (q.n ++ (match q.d with | none => [] | some e => 47 :: e))
def Deal.txt : Deal → Tx
  | .none => Word.none.tx
  | .coin a => Word.coin.tx ++ (tOpen ++ (a.txt ++ tClose))
  | .one w d => w.tx ++ (tOpen ++ (d.txt ++ tClose))
  | .two w d e => w.tx ++ (tOpen ++ (d.txt ++ (tComma ++ (e.txt ++ tClose))))
  | .later f d => Word.later.tx ++ (tOpen ++ (f ++ (tComma ++ (d.txt ++ tClose))))
  | .when w s d => w.tx ++ (tOpen ++ (s.txt ++ (tComma ++ (d.txt ++ tClose))))
  | .scale a d => Word.scale.tx ++ (tOpen ++ (a.txt ++ (tComma ++ (d.txt ++ tClose))))
  | .by q d => Word.by.tx ++ (tOpen ++ (q.txt ++ (tComma ++ (d.txt ++ tClose))))
/-! ### their data -/
def st (t : Tx) : PyData := .str ⟨t.toArray⟩
def natV (ds : Tx) : Nat := ds.foldl (fun n c => n * 10 + (c - 48)) 0
def numV (ds : Tx) : Int := (natV ds : Int)
def tNumber : Tx := [110,117,109,98,101,114]
def Amt.pd : Amt → PyData
  | .num ds => .tuple [st tNumber, .int (numV ds)]
  | .price => .tuple [st Word.price.tx]
  | .time => .tuple [st Word.time.tx]
  | .most a b => .tuple [st Word.most.tx, a.pd, b.pd]
  | .least a b => .tuple [st Word.least.tx, a.pd, b.pd]
  | .pr k a b => .tuple [st k.nm, a.pd, b.pd]
def Sgn.pd (s : Sgn) : PyData := .tuple [st s.k.nm, s.a.pd, s.b.pd]
/-- the fraction's numbers: with the sign; below -/
def Shr.nV (q : Shr) : Int := if q.neg = true then 0 - numV q.n else numV q.n
def Shr.dV (q : Shr) : Int := match q.d with | none => 1 | some e => numV e
/-- what share_of tells a fraction -/
def Shr.good (q : Shr) : Bool := decide (q.dV ≠ 0) && !(q.d.isSome && decide (q.dV = 1)) && !(q.neg && decide (numV q.n = 0)) && decide (Int.gcd (numV q.n) q.dV = 1)
def Shr.pd (q : Shr) : PyData := if q.good = true then .tuple [.int q.nV, .int q.dV] else .none
/-- the law's -/
def Shr.ld (q : Shr) : PyData := if ((q.neg && decide (q.n = [48])) || decide (q.d = some [49])) = true then .tuple [.int 0, .int 0] else .tuple [.int q.nV, .int q.dV]
def Deal.dat (f : Shr → PyData) : Deal → PyData
  | .none => .tuple [st Word.none.tx]
  | .coin a => .tuple [st Word.coin.tx, a.pd]
  | .one w d => .tuple [st w.tx, d.dat f]
  | .two w d e => .tuple [st w.tx, d.dat f, e.dat f]
  | .later g d => .tuple [st Word.later.tx, .int (numV g), d.dat f]
  | .when w s d => .tuple [st w.tx, s.pd, d.dat f]
  | .scale a d => .tuple [st Word.scale.tx, a.pd, d.dat f]
  | .by q d => .tuple [st Word.by.tx, f q, d.dat f]
/-! ### the reference reader: from a place and what follows -/
def pL (s : Tx) (i : Nat) (r : Tx) : Except Nat (Nat × Tx) := if pre s r = true then .ok (i + s.length, r.drop s.length) else .error (i + lcp s r)
def pW (ws : List Word) (i : Nat) (r : Tx) : Except Nat (Word × Nat × Tx) := match ws.find? (fun w => pre w.tx r) with
  | some w => .ok (w, i + w.tx.length, r.drop w.tx.length)
  | none => .error (i + far (ws.map Word.tx) r)
def pM (ws : List Mk) (i : Nat) (r : Tx) : Except Nat (Mk × Nat × Tx) := match ws.find? (fun w => pre w.tx r) with
  | some w => .ok (w, i + w.tx.length, r.drop w.tx.length)
  | none => .error (i + far (ws.map Mk.tx) r)
def pF (most : Nat) (i : Nat) (r : Tx) : Except Nat (Tx × Nat × Tx) := if figs most r = [] then .error i else .ok (figs most r, i + (figs most r).length, r.drop (figs most r).length)
def isMinus (r : Tx) : Bool := decide (r.head? = some 45)
def isStroke (r : Tx) : Bool := decide (r.head? = some 47)
def isOpen (r : Tx) : Bool := decide (r.head? = some 40)
def isDig (r : Tx) : Bool := match r with | [] => false | c :: _ => digit c
def pQ (i : Nat) (r : Tx) : Except Nat (Shr × Nat × Tx) :=
  match pF 30 (i + (if isMinus r = true then 1 else 0)) (r.drop (if isMinus r = true then 1 else 0)) with
  | .error p => .error p
  | .ok (n, i2, r2) => if isStroke r2 = true then
      (match pF 30 (i2 + 1) (r2.drop 1) with
      | .error p => .error p
      | .ok (d, i3, r3) => .ok (⟨isMinus r, n, some d⟩, i3, r3))
    else .ok (⟨isMinus r, n, none⟩, i2, r2)
abbrev RD (α : Type) := Except Nat (α × Nat × Tx)
/-- read a, go on -/
def andT {α β : Type} (x : RD α) (f : α → Nat → Tx → RD β) : RD β := match x with | .error p => .error p | .ok (a, i, r) => f a i r
def andL {β : Type} (x : Except Nat (Nat × Tx)) (f : Nat → Tx → RD β) : RD β := match x with | .error p => .error p | .ok (i, r) => f i r
def two (n : Nat) (pa : Nat → Tx → RD Amt) (mk : Amt → Amt → Amt) (i : Nat) (r : Tx) : RD Amt :=
  andL (pL tOpen i r) fun i r => andT (pa i r) fun a i r => andL (pL tComma i r) fun i r => andT (pa i r) fun b i r => andL (pL tClose i r) fun i r => .ok (mk a b, i, r)
def pA : Nat → Nat → Tx → RD Amt
  | 0, i, _ => .error i
  | n + 1, i, r =>
    if isDig r = true then andT (pF 10 i r) fun ds i r => .ok (.num ds, i, r)
    else if isOpen r = true then andT (pA n (i + 1) (r.drop 1)) fun a i r => andT (pM pairs i r) fun k i r => andT (pA n i r) fun b i r => andL (pL tClose i r) fun i r => .ok (.pr k a b, i, r)
    else andT (pW numbers i r) fun w i r => match w with
      | .price => .ok (.price, i, r)
      | .time => .ok (.time, i, r)
      | .most => two n (pA n) .most i r
      | _ => two n (pA n) .least i r
def pS (n : Nat) (i : Nat) (r : Tx) : RD Sgn := andT (pA n i r) fun a i r => andT (pM signs i r) fun k i r => andT (pA n i r) fun b i r => .ok (⟨k, a, b⟩, i, r)
/-- (x, D) -/
def arg2 {α : Type} (px : Nat → Tx → RD α) (pd : Nat → Tx → RD Deal) (mk : α → Deal → Deal) (i : Nat) (r : Tx) : RD Deal :=
  andL (pL tOpen i r) fun i r => andT (px i r) fun a i r => andL (pL tComma i r) fun i r => andT (pd i r) fun b i r => andL (pL tClose i r) fun i r => .ok (mk a b, i, r)
def arg1 {α : Type} (px : Nat → Tx → RD α) (mk : α → Deal) (i : Nat) (r : Tx) : RD Deal :=
  andL (pL tOpen i r) fun i r => andT (px i r) fun a i r => andL (pL tClose i r) fun i r => .ok (mk a, i, r)
def pD : Nat → Nat → Tx → RD Deal
  | 0, i, _ => .error i
  | n + 1, i, r => andT (pW forms i r) fun w i r => match w with
    | .none => .ok (.none, i, r)
    | .coin => arg1 (pA n) .coin i r
    | .give => arg1 (pD n) (.one .give) i r
    | .any => arg1 (pD n) (.one .any) i r
    | .both => arg2 (pD n) (pD n) (.two .both) i r
    | .either => arg2 (pD n) (pD n) (.two .either) i r
    | .later => arg2 (pF 1) (pD n) .later i r
    | .once => arg2 (pS n) (pD n) (.when .once) i r
    | .until => arg2 (pS n) (pD n) (.when .until) i r
    | .scale => arg2 (pA n) (pD n) .scale i r
    | _ => arg2 pQ (pD n) .by i r
/-! ### the law's machine -/
inductive Item where
  | deal | amount | sign | pair | share | f1 | f10 | close | comma
  deriving DecidableEq
def Item.tx : Item → Tx
  | .deal => [100,101,97,108] | .amount => [97,109,111,117,110,116] | .sign => [115,105,103,110] | .pair => [112,97,105,114] | .share => [115,104,97,114,101] | .f1 => [49] | .f10 => [49,48] | .close => [41] | .comma => [44,32]
/-- the words that may come, each with what is wanted behind it (the next one first) -/
def nextL : Item → List (Tx × List Item)
  | .deal => [(Word.none.tx, []), (Word.coin.tx ++ tOpen, [.amount, .close]), (Word.give.tx ++ tOpen, [.deal, .close]), (Word.any.tx ++ tOpen, [.deal, .close]),
      (Word.both.tx ++ tOpen, [.deal, .comma, .deal, .close]), (Word.either.tx ++ tOpen, [.deal, .comma, .deal, .close]),
      (Word.once.tx ++ tOpen, [.amount, .sign, .amount, .comma, .deal, .close]), (Word.by.tx ++ tOpen, [.share, .comma, .deal, .close]),
      (Word.until.tx ++ tOpen, [.amount, .sign, .amount, .comma, .deal, .close]), (Word.later.tx ++ tOpen, [.f1, .comma, .deal, .close]), (Word.scale.tx ++ tOpen, [.amount, .comma, .deal, .close])]
  | .amount => [(Word.price.tx, []), (Word.time.tx, []), (Word.most.tx ++ tOpen, [.amount, .comma, .amount, .close]), ([], [.f10]), (Word.least.tx ++ tOpen, [.amount, .comma, .amount, .close]), (tOpen, [.amount, .pair, .amount, .close])]
  | .sign => [(Mk.below.tx, []), (Mk.upto.tx, [])]
  | _ => [(Mk.plus.tx, []), (Mk.minus.tx, []), (Mk.times.tx, [])]
def lw (r : Tx) : List (Tx × List Item) → Nat → Nat × Option (List Item)
  | [], m => (m, none)
  | (w, p) :: ws, m => if w = [] then (if isDig r = true then (0, some p) else lw r ws m) else if lcp w r = w.length then (w.length, some p) else lw r ws (max m (lcp w r))
def lawF : Nat → Nat → Tx → List Item → Option Int
  | 0, _, _, _ => none
  | _ + 1, i, r, [] => some (if r = [] then -1 else (i : Int))
  | n + 1, i, r, .share :: pile => (match pQ i r with | .ok (_, i', r') => lawF n i' r' pile | .error p => some (p : Int))
  | n + 1, i, r, .f1 :: pile => (match pF 1 i r with | .ok (_, i', r') => lawF n i' r' pile | .error p => some (p : Int))
  | n + 1, i, r, .f10 :: pile => (match pF 10 i r with | .ok (_, i', r') => lawF n i' r' pile | .error p => some (p : Int))
  | n + 1, i, r, .close :: pile => (match pL tClose i r with | .ok (i', r') => lawF n i' r' pile | .error p => some (p : Int))
  | n + 1, i, r, .comma :: pile => (match pL tComma i r with | .ok (i', r') => lawF n i' r' pile | .error p => some (p : Int))
  | n + 1, i, r, top :: pile => (match lw r (nextL top) 0 with | (k, some p) => lawF n (i + k) (r.drop k) (p ++ pile) | (k, none) => some ((i + k : Nat) : Int))
/-! ### the program's machine -/
inductive Lit where
  | «open» | comma | close
  deriving DecidableEq
def Lit.tx : Lit → Tx
  | .open => tOpen | .comma => tComma | .close => tClose
inductive Task where
  | text (s : Lit) | part (k : Kind) | mark (ps : Bool) | pair | make (w : Word) (n : Nat)
def wantForm (w : Word) : List Task := match w.kinds with
  | [] => [.make w 0]
  | [a] => [.text .open, .part a, .text .close, .make w 1]
  | [a, b] => [.text .open, .part a, .text .comma, .part b, .text .close, .make w 2]
  | _ => []
/-- one task: the place, what follows, what is wanted, what was made (the last one first) -/
def stepP (i : Nat) (r : Tx) (t : Task) (W : List Task) (ms : List PyData) : Except Nat (Nat × Tx × List Task × List PyData) := match t with
  | .text s => (match pL s.tx i r with | .ok (i', r') => .ok (i', r', W, ms) | .error p => .error p)
  | .part .deal => (match pW forms i r with | .ok (w, i', r') => .ok (i', r', wantForm w ++ W, ms) | .error p => .error p)
  | .part .amount => if isDig r = true then (match pF 10 i r with | .ok (ds, i', r') => .ok (i', r', W, .tuple [st tNumber, .int (numV ds)] :: ms) | .error p => .error p)
      else if isOpen r = true then .ok (i + 1, r.drop 1, [.part .amount, .mark true, .part .amount, .text .close, .pair] ++ W, ms)
      else (match pW numbers i r with | .ok (w, i', r') => .ok (i', r', wantForm w ++ W, ms) | .error p => .error p)
  | .part .sign => .ok (i, r, [.part .amount, .mark false, .part .amount, .pair] ++ W, ms)
  | .part .share => (match pQ i r with | .ok (q, i', r') => .ok (i', r', W, q.pd :: ms) | .error p => .error p)
  | .part .figure => (match pF 1 i r with | .ok (ds, i', r') => .ok (i', r', W, .int (numV ds) :: ms) | .error p => .error p)
  | .mark ps => (match pM (if ps = true then pairs else signs) i r with | .ok (k, i', r') => .ok (i', r', W, st k.nm :: ms) | .error p => .error p)
  | .pair => (match ms with | b :: k :: a :: ms' => .ok (i, r, W, .tuple [k, a, b] :: ms') | _ => .error i)
  | .make w n => .ok (i, r, W, .tuple (st w.tx :: (ms.take n).reverse) :: ms.drop n)
def progF : Nat → Nat → Tx → List Task → List PyData → Option (Except Nat (Nat × Tx × List PyData))
  | 0, _, _, _, _ => none
  | _ + 1, i, r, [], ms => some (.ok (i, r, ms))
  | n + 1, i, r, t :: W, ms => (match stepP i r t W ms with | .ok (i', r', W', ms') => progF n i' r' W' ms' | .error p => some (.error p))
end K06
end Sec_P2
section Sec_P3
set_option Elab.async false
set_option maxHeartbeats 4000000
set_option linter.all false
/-! K06, plain part 3: what the reader reads is a tree's text. -/
namespace K06
open PySem
theorem andT_ok {α β : Type} {x : RD α} {f : α → Nat → Tx → RD β} {y : β × Nat × Tx} (h : andT x f = .ok y) : ∃ a i r, x = .ok (a, i, r) ∧ f a i r = .ok y := by
  cases x with
  | error p => cases h
  | ok z => obtain ⟨a, i, r⟩ := z; exact ⟨a, i, r, rfl, h⟩
theorem andL_ok {β : Type} {x : Except Nat (Nat × Tx)} {f : Nat → Tx → RD β} {y : β × Nat × Tx} (h : andL x f = .ok y) : ∃ i r, x = .ok (i, r) ∧ f i r = .ok y := by
  cases x with
  | error p => cases h
  | ok z => obtain ⟨i, r⟩ := z; exact ⟨i, r, rfl, h⟩
theorem andT_err {α β : Type} {x : RD α} {f : α → Nat → Tx → RD β} {p : Nat} (h : andT x f = .error p) : x = .error p ∨ ∃ a i r, x = .ok (a, i, r) ∧ f a i r = .error p := by
  cases x with
  | error q =>
    left
    have : (Except.error q : RD β) = .error p := h
    cases this; rfl
  | ok z => obtain ⟨a, i, r⟩ := z; exact .inr ⟨a, i, r, rfl, h⟩
theorem andL_err {β : Type} {x : Except Nat (Nat × Tx)} {f : Nat → Tx → RD β} {p : Nat} (h : andL x f = .error p) : x = .error p ∨ ∃ i r, x = .ok (i, r) ∧ f i r = .error p := by
  cases x with
  | error q =>
    left
    have : (Except.error q : RD β) = .error p := h
    cases this; rfl
  | ok z => obtain ⟨i, r⟩ := z; exact .inr ⟨i, r, rfl, h⟩
/-- t was read -/
structure Rd (t : Tx) (i : Nat) (r : Tx) (i' : Nat) (r' : Tx) : Prop where
  tx : r = t ++ r'
  at' : i' = i + t.length
theorem Rd.cat {t u : Tx} {i j k : Nat} {r s v : Tx} (a : Rd t i r j s) (b : Rd u j s k v) : Rd (t ++ u) i r k v :=
  ⟨by rw [a.tx, b.tx, List.append_assoc], by rw [b.at', a.at', List.length_append]; omega⟩
theorem Rd.nil {i : Nat} {r : Tx} : Rd [] i r i r := ⟨rfl, rfl⟩
theorem Rd.len {t : Tx} {i j : Nat} {r s : Tx} (a : Rd t i r j s) : r.length = t.length + s.length := by rw [a.tx, List.length_append]
theorem pL_ok {s : Tx} {i i' : Nat} {r r' : Tx} (h : pL s i r = .ok (i', r')) : Rd s i r i' r' := by
  unfold pL at h
  split at h
  · rename_i hp
    cases h
    exact ⟨pre_app hp, rfl⟩
  · cases h
theorem pW_ok {ws : List Word} {w : Word} {i i' : Nat} {r r' : Tx} (h : pW ws i r = .ok (w, i', r')) : w ∈ ws ∧ pre w.tx r = true ∧ Rd w.tx i r i' r' := by
  unfold pW at h
  split at h
  · rename_i v hv
    cases h
    have hp := List.find?_some hv
    exact ⟨List.mem_of_find?_eq_some hv, hp, pre_app hp, rfl⟩
  · cases h
theorem pM_ok {ws : List Mk} {w : Mk} {i i' : Nat} {r r' : Tx} (h : pM ws i r = .ok (w, i', r')) : w ∈ ws ∧ pre w.tx r = true ∧ Rd w.tx i r i' r' := by
  unfold pM at h
  split at h
  · rename_i v hv
    cases h
    have hp := List.find?_some hv
    exact ⟨List.mem_of_find?_eq_some hv, hp, pre_app hp, rfl⟩
  · cases h
theorem pF_ok {most : Nat} {ds : Tx} {i i' : Nat} {r r' : Tx} (h0 : 0 < most) (h : pF most i r = .ok (ds, i', r')) : Canon most ds ∧ Rd ds i r i' r' := by
  unfold pF at h
  split at h
  · cases h
  · rename_i hn
    cases h
    exact ⟨figs_canon h0 hn, figs_pre most r, rfl⟩
theorem head_drop {c : Nat} {r : Tx} (h : r.head? = some c) : r = [c] ++ r.drop 1 := by
  cases r with
  | nil => cases h
  | cons d r => simp at h; subst h; rfl
theorem pQ_ok {q : Shr} {i i' : Nat} {r r' : Tx} (h : pQ i r = .ok (q, i', r')) : q.wf ∧ Rd q.txt i r i' r' := by
  have h1 : Rd (if isMinus r = true then [45] else []) i r (i + (if isMinus r = true then 1 else 0)) (r.drop (if isMinus r = true then 1 else 0)) := by
    by_cases hm : isMinus r = true
    · rw [if_pos hm, if_pos hm]
      exact ⟨head_drop (of_decide_eq_true hm), rfl⟩
    · rw [if_neg hm, if_neg hm]
      exact ⟨rfl, rfl⟩
  unfold pQ at h
  split at h
  · cases h
  · rename_i n i2 r2 e2
    obtain ⟨c2, d2⟩ := pF_ok (by decide) e2
    split at h
    · rename_i hs
      split at h
      · cases h
      · rename_i d i3 r3 e3
        obtain ⟨c3, d3⟩ := pF_ok (by decide) e3
        cases h
        refine ⟨⟨c2, fun e he => by cases he; exact c3⟩, ?_⟩
        have hr2 : Rd [47] i2 r2 (i2 + 1) (r2.drop 1) := ⟨head_drop (of_decide_eq_true hs), rfl⟩
        exact h1.cat (d2.cat (hr2.cat d3))
    · cases h
      refine ⟨⟨c2, fun e he => by cases he⟩, ?_⟩
      have := h1.cat (d2.cat Rd.nil)
      exact this
theorem pA_ok : ∀ {n i : Nat} {r : Tx} {a : Amt} {i' : Nat} {r' : Tx}, pA n i r = .ok (a, i', r') → a.wf ∧ Rd a.txt i r i' r'
  | 0, _, _, _, _, _, h => by cases h
  | n + 1, i, r, a, i', r', h => by
    unfold pA at h
    split at h
    · obtain ⟨ds, i1, r1, h1, h2⟩ := andT_ok h
      cases h2
      obtain ⟨c, d⟩ := pF_ok (by decide) h1
      exact ⟨c, d⟩
    · split at h
      · rename_i ho
        obtain ⟨a1, i1, r1, h1, h⟩ := andT_ok h
        obtain ⟨k, i2, r2, h2, h⟩ := andT_ok h
        obtain ⟨b, i3, r3, h3, h⟩ := andT_ok h
        obtain ⟨i4, r4, h4, h⟩ := andL_ok h
        cases h
        obtain ⟨w1, d1⟩ := pA_ok h1
        obtain ⟨m2, _, d2⟩ := pM_ok h2
        obtain ⟨w3, d3⟩ := pA_ok h3
        have d0 : Rd tOpen i r (i + 1) (r.drop 1) := ⟨head_drop (of_decide_eq_true ho), rfl⟩
        exact ⟨⟨m2, w1, w3⟩, d0.cat (d1.cat (d2.cat (d3.cat (pL_ok h4))))⟩
      · obtain ⟨w, i1, r1, h1, h⟩ := andT_ok h
        obtain ⟨hw, _, d1⟩ := pW_ok h1
        have tw : ∀ {mk : Amt → Amt → Amt} {a : Amt}, two n (pA n) mk i1 r1 = .ok (a, i', r') → ∃ x y, a = mk x y ∧ x.wf ∧ y.wf ∧ Rd (tOpen ++ (x.txt ++ (tComma ++ (y.txt ++ tClose)))) i1 r1 i' r' := by
          intro mk a h
          unfold two at h
          obtain ⟨i2, r2, h2, h⟩ := andL_ok h
          obtain ⟨a1, i3, r3, h3, h⟩ := andT_ok h
          obtain ⟨i4, r4, h4, h⟩ := andL_ok h
          obtain ⟨b, i5, r5, h5, h⟩ := andT_ok h
          obtain ⟨i6, r6, h6, h⟩ := andL_ok h
          cases h
          obtain ⟨w3, d3⟩ := pA_ok h3
          obtain ⟨w5, d5⟩ := pA_ok h5
          exact ⟨a1, b, rfl, w3, w5, (pL_ok h2).cat (d3.cat ((pL_ok h4).cat (d5.cat (pL_ok h6))))⟩
        cases w <;> first | (exact absurd hw (by decide)) | skip
        · cases h; exact ⟨trivial, d1⟩
        · cases h; exact ⟨trivial, d1⟩
        · obtain ⟨x, y, rfl, wx, wy, d⟩ := tw h
          exact ⟨⟨wx, wy⟩, d1.cat d⟩
        · obtain ⟨x, y, rfl, wx, wy, d⟩ := tw h
          exact ⟨⟨wx, wy⟩, d1.cat d⟩
theorem pS_ok {n i : Nat} {r : Tx} {s : Sgn} {i' : Nat} {r' : Tx} (h : pS n i r = .ok (s, i', r')) : s.wf ∧ Rd s.txt i r i' r' := by
  unfold pS at h
  obtain ⟨a1, i1, r1, h1, h⟩ := andT_ok h
  obtain ⟨k, i2, r2, h2, h⟩ := andT_ok h
  obtain ⟨b, i3, r3, h3, h⟩ := andT_ok h
  cases h
  obtain ⟨w1, d1⟩ := pA_ok h1
  obtain ⟨m2, _, d2⟩ := pM_ok h2
  obtain ⟨w3, d3⟩ := pA_ok h3
  exact ⟨⟨m2, w1, w3⟩, d1.cat (d2.cat d3)⟩
theorem arg2_ok {α : Type} {px : Nat → Tx → RD α} {pd : Nat → Tx → RD Deal} {mk : α → Deal → Deal} {wx : α → Prop} {tx : α → Tx} {i i' : Nat} {r r' : Tx} {d : Deal}
    (hx : ∀ {i r a i' r'}, px i r = .ok (a, i', r') → wx a ∧ Rd (tx a) i r i' r') (hd : ∀ {i r a i' r'}, pd i r = .ok (a, i', r') → a.wf ∧ Rd a.txt i r i' r')
    (h : arg2 px pd mk i r = .ok (d, i', r')) : ∃ x y, d = mk x y ∧ wx x ∧ y.wf ∧ Rd (tOpen ++ (tx x ++ (tComma ++ (y.txt ++ tClose)))) i r i' r' := by
  unfold arg2 at h
  obtain ⟨i2, r2, h2, h⟩ := andL_ok h
  obtain ⟨a1, i3, r3, h3, h⟩ := andT_ok h
  obtain ⟨i4, r4, h4, h⟩ := andL_ok h
  obtain ⟨b, i5, r5, h5, h⟩ := andT_ok h
  obtain ⟨i6, r6, h6, h⟩ := andL_ok h
  cases h
  obtain ⟨w3, d3⟩ := hx h3
  obtain ⟨w5, d5⟩ := hd h5
  exact ⟨a1, b, rfl, w3, w5, (pL_ok h2).cat (d3.cat ((pL_ok h4).cat (d5.cat (pL_ok h6))))⟩
theorem arg1_ok {α : Type} {px : Nat → Tx → RD α} {mk : α → Deal} {wx : α → Prop} {tx : α → Tx} {i i' : Nat} {r r' : Tx} {d : Deal}
    (hx : ∀ {i r a i' r'}, px i r = .ok (a, i', r') → wx a ∧ Rd (tx a) i r i' r') (h : arg1 px mk i r = .ok (d, i', r')) : ∃ x, d = mk x ∧ wx x ∧ Rd (tOpen ++ (tx x ++ tClose)) i r i' r' := by
  unfold arg1 at h
  obtain ⟨i2, r2, h2, h⟩ := andL_ok h
  obtain ⟨a1, i3, r3, h3, h⟩ := andT_ok h
  obtain ⟨i6, r6, h6, h⟩ := andL_ok h
  cases h
  obtain ⟨w3, d3⟩ := hx h3
  exact ⟨a1, rfl, w3, (pL_ok h2).cat (d3.cat (pL_ok h6))⟩
theorem pD_ok : ∀ {n i : Nat} {r : Tx} {d : Deal} {i' : Nat} {r' : Tx}, pD n i r = .ok (d, i', r') → d.wf ∧ Rd d.txt i r i' r'
  | 0, _, _, _, _, _, h => by cases h
  | n + 1, i, r, d, i', r', h => by
    unfold pD at h
    obtain ⟨w, i1, r1, h1, h⟩ := andT_ok h
    obtain ⟨hw, _, d1⟩ := pW_ok h1
    have ihD : ∀ {i : Nat} {r : Tx} {d : Deal} {i' : Nat} {r' : Tx}, pD n i r = .ok (d, i', r') → d.wf ∧ Rd d.txt i r i' r' := fun h => pD_ok h
    cases w <;> first | (exact absurd hw (by decide)) | skip
    · cases h; exact ⟨trivial, d1⟩
    · obtain ⟨x, rfl, wx, e⟩ := arg1_ok (wx := Amt.wf) (tx := Amt.txt) (fun h => pA_ok h) h
      exact ⟨wx, d1.cat e⟩
    · obtain ⟨x, rfl, wx, e⟩ := arg1_ok (wx := Deal.wf) (tx := Deal.txt) ihD h
      exact ⟨⟨.inl rfl, wx⟩, d1.cat e⟩
    · obtain ⟨x, y, rfl, wx, wy, e⟩ := arg2_ok (wx := Deal.wf) (tx := Deal.txt) ihD ihD h
      exact ⟨⟨.inl rfl, wx, wy⟩, d1.cat e⟩
    · obtain ⟨x, y, rfl, wx, wy, e⟩ := arg2_ok (wx := Deal.wf) (tx := Deal.txt) ihD ihD h
      exact ⟨⟨.inr rfl, wx, wy⟩, d1.cat e⟩
    · obtain ⟨x, y, rfl, wx, wy, e⟩ := arg2_ok (wx := Canon 1) (tx := id) (fun h => pF_ok (by decide) h) ihD h
      exact ⟨⟨wx, wy⟩, d1.cat e⟩
    · obtain ⟨x, y, rfl, wx, wy, e⟩ := arg2_ok (wx := Sgn.wf) (tx := Sgn.txt) (fun h => pS_ok h) ihD h
      exact ⟨⟨.inl rfl, wx, wy⟩, d1.cat e⟩
    · obtain ⟨x, y, rfl, wx, wy, e⟩ := arg2_ok (wx := Sgn.wf) (tx := Sgn.txt) (fun h => pS_ok h) ihD h
      exact ⟨⟨.inr rfl, wx, wy⟩, d1.cat e⟩
    · obtain ⟨x, rfl, wx, e⟩ := arg1_ok (wx := Deal.wf) (tx := Deal.txt) ihD h
      exact ⟨⟨.inr rfl, wx⟩, d1.cat e⟩
    · obtain ⟨x, y, rfl, wx, wy, e⟩ := arg2_ok (wx := Amt.wf) (tx := Amt.txt) (fun h => pA_ok h) ihD h
      exact ⟨⟨wx, wy⟩, d1.cat e⟩
    · obtain ⟨x, y, rfl, wx, wy, e⟩ := arg2_ok (wx := Shr.wf) (tx := Shr.txt) (fun h => pQ_ok h) ihD h
      exact ⟨⟨wx, wy⟩, d1.cat e⟩
end K06
end Sec_P3
section Sec_P4a
set_option Elab.async false
set_option maxHeartbeats 4000000
set_option linter.all false
namespace K06
open PySem
/-! ### bounds of amounts -/
def Amt.parts : Amt → Nat
  | .num _ => 1
  | .price => 1
  | .time => 1
  | .most a b => 1 + a.parts + b.parts
  | .least a b => 1 + a.parts + b.parts
  | .pr _ a b => 1 + a.parts + b.parts
def Amt.okN : Amt → Bool
  | .num ds => decide (0 ≤ numV ds) && decide (numV ds ≤ 1000000000)
  | .price => true
  | .time => true
  | .most a b => a.okN && b.okN
  | .least a b => a.okN && b.okN
  | .pr _ a b => a.okN && b.okN
theorem Amt.parts_pos (a : Amt) : 1 ≤ a.parts := by cases a <;> simp [Amt.parts] <;> omega
/-- an amount as a tuple of a word and what stands behind it -/
inductive AView : Amt → Prop where
  | leaf {a : Amt} (x : Tx) (hx : x = Word.price.tx ∨ x = Word.time.tx) (e : a.pd = .tuple [st x]) (ep : a.parts = 1) (eo : a.okN = true) : AView a
  | num (ds : Tx) : AView (.num ds)
  | bin {a : Amt} (x : Tx) (b c : Amt) (hx : x ∈ [Mk.plus.nm, Mk.minus.nm, Mk.times.nm, Word.most.tx, Word.least.tx]) (e : a.pd = .tuple [st x, b.pd, c.pd]) (ep : a.parts = 1 + b.parts + c.parts) (eo : a.okN = (b.okN && c.okN)) (wb : b.wf) (wc : c.wf) : AView a
theorem Amt.view {a : Amt} (w : a.wf) : AView a := by
  cases a with
  | num ds => exact .num ds
  | price => exact .leaf _ (.inl rfl) rfl rfl rfl
  | time => exact .leaf _ (.inr rfl) rfl rfl rfl
  | most a b => exact .bin _ a b (by decide) rfl rfl rfl w.1 w.2
  | least a b => exact .bin _ a b (by decide) rfl rfl rfl w.1 w.2
  | pr k a b =>
    refine .bin k.nm a b ?_ rfl rfl rfl w.2.1 w.2.2
    have h := w.1
    cases k <;> first | decide | exact absurd h (by decide)
end K06
end Sec_P4a
section Sec_P5a
set_option Elab.async false
set_option maxHeartbeats 4000000
set_option linter.all false
namespace K06
open PySem
/-! ### the program's machine: bounds -/
def Task.wt : Task → Nat
  | .part .sign => 5
  | _ => 1
def wtL : List Task → Nat
  | [] => 0
  | t :: W => t.wt + wtL W
theorem wt_pos (t : Task) : 1 ≤ t.wt := by unfold Task.wt; split <;> omega
theorem wtL_len : ∀ W : List Task, W.length ≤ wtL W
  | [] => Nat.le_refl _
  | t :: W => by have := wtL_len W; have := wt_pos t; rw [List.length_cons, wtL]; omega
theorem wtL_app : ∀ a b : List Task, wtL (a ++ b) = wtL a + wtL b
  | [], b => by simp [wtL]
  | t :: a, b => by rw [List.cons_append, wtL, wtL, wtL_app a b]; omega
theorem wt_form (w : Word) : wtL (wantForm w) ≤ 10 := by cases w <;> decide
theorem tx_two (w : Word) : 2 ≤ w.tx.length := by cases w <;> decide
/-- what is made is what is needed -/
def okS : List Task → Nat → Prop
  | [], n => n = 1
  | .text _ :: W, n => okS W n
  | .part _ :: W, n => okS W (n + 1)
  | .mark _ :: W, n => okS W (n + 1)
  | .pair :: W, n => 3 ≤ n ∧ okS W (n - 2)
  | .make _ k :: W, n => k ≤ n ∧ okS W (n - k + 1)
theorem okS_form (w : Word) (W : List Task) (n : Nat) (h : okS W (n + 1)) : okS (wantForm w ++ W) n := by
  cases w <;> simp [wantForm, Word.kinds, okS] <;> exact h
theorem stepP_ok {i : Nat} {r : Tx} {t : Task} {W : List Task} {ms : List PyData} {i' : Nat} {r' : Tx} {W' : List Task} {ms' : List PyData} (h : stepP i r t W ms = .ok (i', r', W', ms')) (ok : okS (t :: W) ms.length) :
    okS W' ms'.length ∧ wtL W' + ms'.length + 10 * i ≤ wtL (t :: W) + ms.length + 10 * i' ∧ ∃ tx, Rd tx i r i' r' := by
  unfold stepP at h
  cases t with
  | text s =>
    cases e : pL s.tx i r with
    | error p => simp only [e] at h; cases h
    | ok y =>
      obtain ⟨j, q⟩ := y
      simp only [e] at h
      cases h
      have rd := pL_ok e
      have := rd.at'
      exact ⟨ok, by simp only [wtL]; omega, _, rd⟩
  | part k =>
    have ok : okS W (ms.length + 1) := ok
    cases k with
    | deal =>
      cases e : pW forms i r with
      | error p => simp only [e] at h; cases h
      | ok y =>
        obtain ⟨w, j, q⟩ := y
        simp only [e] at h
        cases h
        have rd := (pW_ok e).2.2
        have := rd.at'
        have := tx_two w
        have := wt_form w
        exact ⟨okS_form w W _ ok, by rw [wtL_app]; simp only [wtL, Task.wt]; omega, _, rd⟩
    | amount =>
      simp only at h
      split at h
      · cases e : pF 10 i r with
        | error p => simp only [e] at h; cases h
        | ok y =>
          obtain ⟨w, j, q⟩ := y
          simp only [e] at h
          cases h
          have rd := (pF_ok (by decide) e).2
          have := rd.at'
          exact ⟨ok, by simp only [wtL, Task.wt, List.length_cons]; omega, _, rd⟩
      · split at h
        · rename_i ho
          cases h
          exact ⟨by simp [okS]; exact ok, by simp only [List.cons_append, List.nil_append, wtL, Task.wt]; omega, [40], head_drop (of_decide_eq_true ho), rfl⟩
        · cases e : pW numbers i r with
          | error p => simp only [e] at h; cases h
          | ok y =>
            obtain ⟨w, j, q⟩ := y
            simp only [e] at h
            cases h
            have rd := (pW_ok e).2.2
            have := rd.at'
            have := tx_two w
            have := wt_form w
            exact ⟨okS_form w W _ ok, by rw [wtL_app]; simp only [wtL, Task.wt]; omega, _, rd⟩
    | sign =>
      cases h
      exact ⟨by simp [okS]; exact ok, by simp only [List.cons_append, List.nil_append, wtL, Task.wt]; omega, [], Rd.nil⟩
    | share =>
      cases e : pQ i r with
      | error p => simp only [e] at h; cases h
      | ok y =>
        obtain ⟨w, j, q⟩ := y
        simp only [e] at h
        cases h
        have rd := (pQ_ok e).2
        have := rd.at'
        exact ⟨ok, by simp only [wtL, Task.wt, List.length_cons]; omega, _, rd⟩
    | figure =>
      cases e : pF 1 i r with
      | error p => simp only [e] at h; cases h
      | ok y =>
        obtain ⟨w, j, q⟩ := y
        simp only [e] at h
        cases h
        have rd := (pF_ok (by decide) e).2
        have := rd.at'
        exact ⟨ok, by simp only [wtL, Task.wt, List.length_cons]; omega, _, rd⟩
  | mark ps =>
    cases e : pM (if ps = true then pairs else signs) i r with
    | error p => simp only [e] at h; cases h
    | ok y =>
      obtain ⟨w, j, q⟩ := y
      simp only [e] at h
      cases h
      have rd := (pM_ok e).2.2
      have := rd.at'
      exact ⟨ok, by simp only [wtL, Task.wt, List.length_cons]; omega, _, rd⟩
  | pair =>
    obtain ⟨h3, ok⟩ : 3 ≤ ms.length ∧ okS W (ms.length - 2) := ok
    cases ms with
    | nil => cases h
    | cons b ms =>
      cases ms with
      | nil => cases h
      | cons k ms =>
        cases ms with
        | nil => cases h
        | cons a ms =>
          cases h
          exact ⟨by simpa using ok, by simp only [wtL, Task.wt, List.length_cons]; omega, [], Rd.nil⟩
  | make w n =>
    obtain ⟨h3, ok⟩ : n ≤ ms.length ∧ okS W (ms.length - n + 1) := ok
    cases h
    exact ⟨by simpa using ok, by simp only [wtL, Task.wt, List.length_cons, List.length_drop]; omega, [], Rd.nil⟩
end K06
end Sec_P5a
section Sec_P7
set_option Elab.async false
set_option maxHeartbeats 4000000
set_option linter.all false
namespace K06
open PySem
/-! ### what is a deal, plainly -/
def Amt.ok10 (a : Amt) : Bool := a.okN && decide (a.parts ≤ 10)
@[irreducible] def GR : Int := 1000000000000000000000000000000
theorem GR_eq : GR = 1000000000000000000000000000000 := by unfold GR; rfl
/-- a fraction of few figures -/
def Shr.ok (q : Shr) : Bool := q.good && decide (q.nV.natAbs < GR) && decide (q.dV < GR)
def ownN : Deal → Option Nat
  | .none => some 1
  | .coin a => if a.ok10 = true then some (1 + a.parts) else none
  | .one _ _ => some 1
  | .two _ _ _ => some 1
  | .later f _ => if (decide (0 ≤ numV f) && decide (numV f ≤ 9)) = true then some 1 else none
  | .when _ s _ => if (s.a.ok10 && s.b.ok10) = true then some (2 + s.a.parts + s.b.parts) else none
  | .scale a _ => if a.ok10 = true then some (1 + a.parts) else none
  | .by q _ => if q.ok = true then some 1 else none
def Deal.sub : Deal → List Deal
  | .none => []
  | .coin _ => []
  | .one _ d => [d]
  | .two _ d e => [d, e]
  | .later _ d => [d]
  | .when _ _ d => [d]
  | .scale _ d => [d]
  | .by _ d => [d]
def Deal.isSc : Deal → Bool
  | .scale _ _ => true
  | .by _ _ => true
  | _ => false
def scN (d : Deal) (sc : Nat) : Nat := sc + (if d.isSc = true then 1 else 0)
/-- a node's answer from those of its deals -/
def comb (o : Option Nat) (deep sc : Nat) (rs : List (Option Nat)) : Option Nat := match o with
  | none => none
  | some n => if 12 < deep then none else if 3 < sc then none else if (rs.all (·.isSome)) = true then some (n + (rs.map (·.getD 0)).sum) else none
/-- how many parts, none where it is no deal -/
def nW : Deal → Nat → Nat → Option Nat
  | .none, deep, sc => comb (ownN .none) deep sc []
  | .coin a, deep, sc => comb (ownN (.coin a)) deep sc []
  | .one w d, deep, sc => comb (ownN (.one w d)) deep sc [nW d (deep + 1) sc]
  | .two w d e, deep, sc => comb (ownN (.two w d e)) deep sc [nW d (deep + 1) sc, nW e (deep + 1) sc]
  | .later f d, deep, sc => comb (ownN (.later f d)) deep sc [nW d (deep + 1) sc]
  | .when w s d, deep, sc => comb (ownN (.when w s d)) deep sc [nW d (deep + 1) sc]
  | .scale a d, deep, sc => comb (ownN (.scale a d)) deep (sc + 1) [nW d (deep + 1) (sc + 1)]
  | .by q d, deep, sc => comb (ownN (.by q d)) deep (sc + 1) [nW d (deep + 1) (sc + 1)]
theorem nW_eq (d : Deal) (deep sc : Nat) : nW d deep sc = comb (ownN d) deep (scN d sc) (d.sub.map fun e => nW e (deep + 1) (scN d sc)) := by cases d <;> rfl
/-- how many words of some kinds stand in a datum -/
def isWd : PyData → Bool
  | .tuple (.str _ :: _) => true
  | _ => false
mutual
def cntD (ws : List Str) : PyData → Nat
  | .tuple ds => (match ds with | .str x :: _ => (if x ∈ ws then 1 else 0) + cntL ws ds | _ => 0)
  | _ => 0
def cntL (ws : List Str) : List PyData → Nat
  | [] => 0
  | d :: ds => cntD ws d + cntL ws ds
end
mutual
def dpt : PyData → Nat
  | .tuple ds => 1 + dptL ds
  | _ => 0
def dptL : List PyData → Nat
  | [] => 0
  | d :: ds => max (dpt d) (dptL ds)
end
mutual
/-- no empty tuple within -/
def full : PyData → Bool
  | .tuple ds => !ds.isEmpty && fullL ds
  | _ => true
def fullL : List PyData → Bool
  | [] => true
  | d :: ds => full d && fullL ds
end
def wEither : List Str := ["either", "any"]
def wAny : List Str := ["any"]
/-- whether a tree's datum is a deal -/
def goodP (d : Deal) : Bool := match nW d 1 0 with
  | none => false
  | some n => decide (n ≤ 40) && decide (cntD wEither (d.dat Shr.pd) ≤ 4) && decide (cntD wAny (d.dat Shr.pd) ≤ 2)
end K06
end Sec_P7
section Sec_P5
set_option Elab.async false
set_option maxHeartbeats 4000000
set_option linter.all false
namespace K06
open PySem
/-! ### the program's machine follows the reader -/
def Runs (i : Nat) (r : Tx) (W : List Task) (ms : List PyData) (i' : Nat) (r' : Tx) (W' : List Task) (ms' : List PyData) : Prop := ∃ k, ∀ m, progF (m + k) i r W ms = progF m i' r' W' ms'
def Fails (i : Nat) (r : Tx) (W : List Task) (ms : List PyData) (p : Nat) : Prop := ∃ k, ∀ m, progF (m + k) i r W ms = some (.error p)
theorem Runs.refl {i : Nat} {r : Tx} {W : List Task} {ms : List PyData} : Runs i r W ms i r W ms := ⟨0, fun _ => rfl⟩
theorem Runs.trans {i j k : Nat} {r s t : Tx} {W V U : List Task} {ms ns os : List PyData} (a : Runs i r W ms j s V ns) (b : Runs j s V ns k t U os) : Runs i r W ms k t U os := by
  obtain ⟨x, hx⟩ := a
  obtain ⟨y, hy⟩ := b
  exact ⟨y + x, fun m => by rw [← Nat.add_assoc, hx, hy]⟩
theorem Runs.fails {i j : Nat} {r s : Tx} {W V : List Task} {ms ns : List PyData} {p : Nat} (a : Runs i r W ms j s V ns) (b : Fails j s V ns p) : Fails i r W ms p := by
  obtain ⟨x, hx⟩ := a
  obtain ⟨y, hy⟩ := b
  exact ⟨y + x, fun m => by rw [← Nat.add_assoc, hx, hy]⟩
theorem Runs.one {i : Nat} {r : Tx} {t : Task} {W : List Task} {ms : List PyData} {i' : Nat} {r' : Tx} {W' : List Task} {ms' : List PyData} (h : stepP i r t W ms = .ok (i', r', W', ms')) : Runs i r (t :: W) ms i' r' W' ms' :=
  ⟨1, fun m => by show (match stepP i r t W ms with | .ok (i', r', W', ms') => progF m i' r' W' ms' | .error p => some (.error p)) = _; rw [h]⟩
theorem Fails.one {i : Nat} {r : Tx} {t : Task} {W : List Task} {ms : List PyData} {p : Nat} (h : stepP i r t W ms = .error p) : Fails i r (t :: W) ms p :=
  ⟨1, fun m => by show (match stepP i r t W ms with | .ok (i', r', W', ms') => progF m i' r' W' ms' | .error p => some (.error p)) = _; rw [h]⟩
def Sim {β : Type} (i : Nat) (r : Tx) (W : List Task) (ms : List PyData) (x : RD β) (W2 : List Task) (ms2 : β → List PyData) : Prop := match x with
  | .ok (b, i', r') => Runs i r W ms i' r' W2 (ms2 b)
  | .error p => Fails i r W ms p
theorem Sim.andT {α β : Type} {i : Nat} {r : Tx} {W W1 W2 : List Task} {ms : List PyData} {x : RD α} {f : α → Nat → Tx → RD β} {ms1 : α → List PyData} {ms2 : β → List PyData} (hx : Sim i r W ms x W1 ms1)
    (hf : ∀ a i1 r1, x = .ok (a, i1, r1) → Sim i1 r1 W1 (ms1 a) (f a i1 r1) W2 ms2) : Sim i r W ms (K06.andT x f) W2 ms2 := by
  cases x with
  | error p => exact hx
  | ok y =>
    obtain ⟨a, i1, r1⟩ := y
    have h := hf a i1 r1 rfl
    have hx : Runs i r W ms i1 r1 W1 (ms1 a) := hx
    show Sim i r W ms (f a i1 r1) W2 ms2
    cases hy : f a i1 r1 with
    | error p => rw [hy] at h; exact hx.fails h
    | ok z => rw [hy] at h; exact hx.trans h
theorem Sim.lit {β : Type} {i : Nat} {r : Tx} {s : Lit} {W W2 : List Task} {ms : List PyData} {f : Nat → Tx → RD β} {ms2 : β → List PyData} (hf : ∀ i1 r1, pL s.tx i r = .ok (i1, r1) → Sim i1 r1 W ms (f i1 r1) W2 ms2) :
    Sim i r (.text s :: W) ms (andL (pL s.tx i r) f) W2 ms2 := by
  cases e : pL s.tx i r with
  | error p => exact Fails.one (by show (match pL s.tx i r with | .ok (i', r') => Except.ok (i', r', W, ms) | .error p => .error p) = _; rw [e])
  | ok y =>
    obtain ⟨i1, r1⟩ := y
    have h1 : Runs i r (.text s :: W) ms i1 r1 W ms := Runs.one (by show (match pL s.tx i r with | .ok (i', r') => Except.ok (i', r', W, ms) | .error p => .error p) = _; rw [e])
    have h := hf i1 r1 e
    show Sim i r (.text s :: W) ms (f i1 r1) W2 ms2
    cases hy : f i1 r1 with
    | error p => rw [hy] at h; exact h1.fails h
    | ok z => rw [hy] at h; exact h1.trans h
theorem Sim.pre {β : Type} {i j : Nat} {r s : Tx} {W V : List Task} {ms ns : List PyData} {x : RD β} {W2 : List Task} {ms2 : β → List PyData} (a : Runs i r W ms j s V ns) (h : Sim j s V ns x W2 ms2) : Sim i r W ms x W2 ms2 := by
  cases x with
  | error p => exact a.fails h
  | ok y => exact a.trans h
theorem Sim.fin {β : Type} {i : Nat} {r : Tx} {W W2 : List Task} {ms : List PyData} {b : β} {ms2 : β → List PyData} (h : Runs i r W ms i r W2 (ms2 b)) : Sim i r W ms (.ok (b, i, r)) W2 ms2 := h
theorem run_make {i : Nat} {r : Tx} {w : Word} {n : Nat} {W : List Task} {ms : List PyData} : Runs i r (.make w n :: W) ms i r W (.tuple (st w.tx :: (ms.take n).reverse) :: ms.drop n) := .one rfl
/-- marks -/
theorem sim_mark {i : Nat} {r : Tx} {ps : Bool} {W : List Task} {ms : List PyData} : Sim i r (.mark ps :: W) ms (pM (if ps = true then pairs else signs) i r) W (fun k => st k.nm :: ms) := by
  cases e : pM (if ps = true then pairs else signs) i r with
  | error p => exact Fails.one (by simp only [stepP, e])
  | ok y => exact Runs.one (by simp only [stepP, e])
theorem sim_share {i : Nat} {r : Tx} {W : List Task} {ms : List PyData} : Sim i r (.part .share :: W) ms (pQ i r) W (fun q => q.pd :: ms) := by
  cases e : pQ i r with
  | error p => exact Fails.one (by simp only [stepP, e])
  | ok y => exact Runs.one (by simp only [stepP, e])
theorem sim_figure {i : Nat} {r : Tx} {W : List Task} {ms : List PyData} : Sim i r (.part .figure :: W) ms (pF 1 i r) W (fun ds => .int (numV ds) :: ms) := by
  cases e : pF 1 i r with
  | error p => exact Fails.one (by simp only [stepP, e])
  | ok y => exact Runs.one (by simp only [stepP, e])
theorem pL_len {s : Tx} {i i' : Nat} {r r' : Tx} (h : pL s i r = .ok (i', r')) : r'.length + s.length = r.length := by have := (pL_ok h).len; omega
theorem pA_len {n i i' : Nat} {r r' : Tx} {a : Amt} (h : pA n i r = .ok (a, i', r')) : r'.length ≤ r.length := by have := (pA_ok h).2.len; omega
theorem pD_len {n i i' : Nat} {r r' : Tx} {a : Deal} (h : pD n i r = .ok (a, i', r')) : r'.length ≤ r.length := by have := (pD_ok h).2.len; omega
theorem pM_len {ws : List Mk} {i i' : Nat} {r r' : Tx} {a : Mk} (h : pM ws i r = .ok (a, i', r')) : r'.length ≤ r.length := by have := (pM_ok h).2.2.len; omega
theorem pW_len {ws : List Word} {i i' : Nat} {r r' : Tx} {a : Word} (h : pW ws i r = .ok (a, i', r')) : r'.length + 2 ≤ r.length := by have := (pW_ok h).2.2.len; have := tx_two a; omega
theorem sim_two {n : Nat} (ih : ∀ i r W ms, r.length < n → Sim i r (.part .amount :: W) ms (pA n i r) W (fun a => a.pd :: ms)) {w : Word} {mk : Amt → Amt → Amt} (hmk : ∀ a b, (mk a b).pd = .tuple [st w.tx, a.pd, b.pd]) {i : Nat} {r : Tx} {W : List Task} {ms : List PyData} (hr : r.length < n) :
    Sim i r (.text .open :: .part .amount :: .text .comma :: .part .amount :: .text .close :: .make w 2 :: W) ms (two n (pA n) mk i r) W (fun a => a.pd :: ms) := by
  unfold two
  refine Sim.lit (s := .open) fun i1 r1 h1 => ?_
  have l1 := pL_len h1
  refine (ih i1 r1 _ ms (by omega)).andT fun a i2 r2 h2 => ?_
  have l2 := pA_len h2
  refine Sim.lit (s := .comma) fun i3 r3 h3 => ?_
  have l3 := pL_len h3
  refine (ih i3 r3 _ _ (by omega)).andT fun b i4 r4 h4 => ?_
  refine Sim.lit (s := .close) fun i5 r5 h5 => ?_
  refine Sim.fin ?_
  have := run_make (i := i5) (r := r5) (w := w) (n := 2) (W := W) (ms := b.pd :: a.pd :: ms)
  rw [hmk]
  exact this
theorem simA : ∀ (n : Nat) (i : Nat) (r : Tx) (W : List Task) (ms : List PyData), r.length < n → Sim i r (.part .amount :: W) ms (pA n i r) W (fun a => a.pd :: ms)
  | 0, _, _, _, _, h => absurd h (Nat.not_lt_zero _)
  | n + 1, i, r, W, ms, h => by
    unfold pA
    by_cases hd : isDig r = true
    · rw [if_pos hd]
      cases e : pF 10 i r with
      | error p => exact Fails.one (by simp only [stepP, hd, if_true, e])
      | ok y => obtain ⟨ds, i', r'⟩ := y; exact Runs.one (by simp only [stepP, hd, if_true, e]; rfl)
    · rw [if_neg hd]
      have hd : isDig r = false := by cases hq : isDig r; rfl; exact absurd hq hd
      by_cases ho : isOpen r = true
      · rw [if_pos ho]
        have h1 := head_drop (of_decide_eq_true (show decide (r.head? = some 40) = true from ho))
        have l0 : (r.drop 1).length < n := by
          have := congrArg List.length h1
          rw [List.length_append, List.length_singleton] at this
          omega
        refine Sim.pre (Runs.one (by simp only [stepP, hd, ho, if_true]; rfl)) ?_
        show Sim (i + 1) (r.drop 1) (.part .amount :: .mark true :: .part .amount :: .text .close :: .pair :: W) ms _ W _
        refine (simA n (i + 1) (r.drop 1) _ ms l0).andT fun a i2 r2 h2 => ?_
        have l2 := pA_len h2
        refine (sim_mark (ps := true)).andT fun k i3 r3 h3 => ?_
        have l3 := pM_len h3
        refine (simA n i3 r3 _ _ (by omega)).andT fun b i4 r4 h4 => ?_
        refine Sim.lit (s := .close) fun i5 r5 h5 => ?_
        exact Sim.fin (Runs.one rfl)
      · rw [if_neg ho]
        have ho : isOpen r = false := by cases hq : isOpen r; rfl; exact absurd hq ho
        cases e : pW numbers i r with
        | error p => exact Fails.one (by simp only [stepP, hd, ho, e]; rfl)
        | ok y =>
          obtain ⟨w, i', r'⟩ := y
          have l1 := pW_len e
          have hm := (pW_ok e).1
          refine Sim.pre (Runs.one (by simp only [stepP, hd, ho, e]; rfl)) ?_
          show Sim i' r' (wantForm w ++ W) ms (match w with | .price => .ok (.price, i', r') | .time => .ok (.time, i', r') | .most => two n (pA n) .most i' r' | _ => two n (pA n) .least i' r') W _
          cases w <;> first | (exact absurd hm (by decide)) | skip
          · exact Sim.fin (by have := run_make (i := i') (r := r') (w := .price) (n := 0) (W := W) (ms := ms); exact this)
          · exact Sim.fin (by have := run_make (i := i') (r := r') (w := .time) (n := 0) (W := W) (ms := ms); exact this)
          · exact sim_two (w := .most) (simA n) (fun _ _ => rfl) (by omega)
          · exact sim_two (w := .least) (simA n) (fun _ _ => rfl) (by omega)
theorem simS (n : Nat) (i : Nat) (r : Tx) (W : List Task) (ms : List PyData) (h : r.length < n) : Sim i r (.part .sign :: W) ms (pS n i r) W (fun s => s.pd :: ms) := by
  unfold pS
  refine Sim.pre (Runs.one rfl) ?_
  show Sim i r (.part .amount :: .mark false :: .part .amount :: .pair :: W) ms _ W _
  refine (simA n i r _ ms h).andT fun a i2 r2 h2 => ?_
  have l2 := pA_len h2
  refine (sim_mark (ps := false)).andT fun k i3 r3 h3 => ?_
  have l3 := pM_len h3
  refine (simA n i3 r3 _ _ (by omega)).andT fun b i4 r4 h4 => ?_
  exact Sim.fin (Runs.one rfl)
theorem sim_arg2 {α : Type} {n : Nat} {px : Nat → Tx → RD α} {pd : Nat → Tx → RD Deal} {mk : α → Deal → Deal} {w : Word} {k : Kind} {dx : α → PyData} (hx : ∀ i r W ms, r.length < n → Sim i r (.part k :: W) ms (px i r) W (fun a => dx a :: ms))
    (lx : ∀ {i r a i' r'}, px i r = .ok (a, i', r') → r'.length ≤ r.length) (hd : ∀ i r W ms, r.length < n → Sim i r (.part .deal :: W) ms (pd i r) W (fun a => a.dat Shr.pd :: ms)) (hmk : ∀ a b, (mk a b).dat Shr.pd = .tuple [st w.tx, dx a, b.dat Shr.pd])
    {i : Nat} {r : Tx} {W : List Task} {ms : List PyData} (hr : r.length < n) : Sim i r (.text .open :: .part k :: .text .comma :: .part .deal :: .text .close :: .make w 2 :: W) ms (arg2 px pd mk i r) W (fun a => a.dat Shr.pd :: ms) := by
  unfold arg2
  refine Sim.lit (s := .open) fun i1 r1 h1 => ?_
  have l1 := pL_len h1
  refine (hx i1 r1 _ ms (by omega)).andT fun a i2 r2 h2 => ?_
  have l2 := lx h2
  refine Sim.lit (s := .comma) fun i3 r3 h3 => ?_
  have l3 := pL_len h3
  refine (hd i3 r3 _ _ (by omega)).andT fun b i4 r4 h4 => ?_
  refine Sim.lit (s := .close) fun i5 r5 h5 => ?_
  refine Sim.fin ?_
  have := run_make (i := i5) (r := r5) (w := w) (n := 2) (W := W) (ms := b.dat Shr.pd :: dx a :: ms)
  rw [hmk]
  exact this
theorem sim_arg1 {α : Type} {n : Nat} {px : Nat → Tx → RD α} {mk : α → Deal} {w : Word} {k : Kind} {dx : α → PyData} (hx : ∀ i r W ms, r.length < n → Sim i r (.part k :: W) ms (px i r) W (fun a => dx a :: ms)) (hmk : ∀ a, (mk a).dat Shr.pd = .tuple [st w.tx, dx a])
    {i : Nat} {r : Tx} {W : List Task} {ms : List PyData} (hr : r.length < n) : Sim i r (.text .open :: .part k :: .text .close :: .make w 1 :: W) ms (arg1 px mk i r) W (fun a => a.dat Shr.pd :: ms) := by
  unfold arg1
  refine Sim.lit (s := .open) fun i1 r1 h1 => ?_
  have l1 := pL_len h1
  refine (hx i1 r1 _ ms (by omega)).andT fun a i2 r2 h2 => ?_
  refine Sim.lit (s := .close) fun i5 r5 h5 => ?_
  refine Sim.fin ?_
  have := run_make (i := i5) (r := r5) (w := w) (n := 1) (W := W) (ms := dx a :: ms)
  rw [hmk]
  exact this
theorem simD : ∀ (n : Nat) (i : Nat) (r : Tx) (W : List Task) (ms : List PyData), r.length < n → Sim i r (.part .deal :: W) ms (pD n i r) W (fun a => a.dat Shr.pd :: ms)
  | 0, _, _, _, _, h => absurd h (Nat.not_lt_zero _)
  | n + 1, i, r, W, ms, h => by
    unfold pD
    cases e : pW forms i r with
    | error p => exact Fails.one (by simp only [stepP, e])
    | ok y =>
      obtain ⟨w, i', r'⟩ := y
      have l1 := pW_len e
      have hm := (pW_ok e).1
      have hr : r'.length < n := by omega
      refine Sim.pre (Runs.one (by simp only [stepP, e]; rfl)) ?_
      have d := simD n
      have la : ∀ {i r a i' r'}, pA n i r = .ok (a, i', r') → r'.length ≤ r.length := fun h => pA_len h
      have ld : ∀ {i r a i' r'}, pD n i r = .ok (a, i', r') → r'.length ≤ r.length := fun h => pD_len h
      have ls : ∀ {i r a i' r'}, pS n i r = .ok (a, i', r') → r'.length ≤ r.length := fun h => by have := (pS_ok h).2.len; omega
      have lf : ∀ {i r a i' r'}, pF 1 i r = .ok (a, i', r') → r'.length ≤ r.length := fun h => by have := (pF_ok (by decide) h).2.len; omega
      have lq : ∀ {i r a i' r'}, pQ i r = .ok (a, i', r') → r'.length ≤ r.length := fun h => by have := (pQ_ok h).2.len; omega
      cases w <;> first | (exact absurd hm (by decide)) | skip
      · exact Sim.fin (by have := run_make (i := i') (r := r') (w := .none) (n := 0) (W := W) (ms := ms); exact this)
      · exact sim_arg1 (w := .coin) (dx := Amt.pd) (simA n) (fun _ => rfl) hr
      · exact sim_arg1 (w := .give) (dx := fun d => d.dat Shr.pd) d (fun _ => rfl) hr
      · exact sim_arg2 (w := .both) (dx := fun d => d.dat Shr.pd) d ld d (fun _ _ => rfl) hr
      · exact sim_arg2 (w := .either) (dx := fun d => d.dat Shr.pd) d ld d (fun _ _ => rfl) hr
      · exact sim_arg2 (w := .later) (dx := fun f => .int (numV f)) (fun i r W ms _ => sim_figure) lf d (fun _ _ => rfl) hr
      · exact sim_arg2 (w := .once) (dx := Sgn.pd) (simS n) ls d (fun _ _ => rfl) hr
      · exact sim_arg2 (w := .until) (dx := Sgn.pd) (simS n) ls d (fun _ _ => rfl) hr
      · exact sim_arg1 (w := .any) (dx := fun d => d.dat Shr.pd) d (fun _ => rfl) hr
      · exact sim_arg2 (w := .scale) (dx := Amt.pd) (simA n) la d (fun _ _ => rfl) hr
      · exact sim_arg2 (w := .by) (dx := Shr.pd) (fun i r W ms _ => sim_share) lq d (fun _ _ => rfl) hr
/-- the whole reading -/
theorem prog_all (z : Tx) : ∃ n, progF n 0 z [.part .deal] [] = some (match pD (z.length + 1) 0 z with | .error p => .error p | .ok (d, i, r) => .ok (i, r, [d.dat Shr.pd])) := by
  have h := simD (z.length + 1) 0 z [] [] (Nat.lt_succ_self _)
  cases e : pD (z.length + 1) 0 z with
  | error p =>
    rw [e] at h
    obtain ⟨k, hk⟩ := h
    exact ⟨0 + k, hk 0⟩
  | ok y =>
    obtain ⟨d, i, r⟩ := y
    rw [e] at h
    obtain ⟨k, hk⟩ := h
    exact ⟨1 + k, hk 1⟩
end K06
end Sec_P5
section Sec_P4
set_option Elab.async false
set_option maxHeartbeats 4000000
set_option maxRecDepth 100000
set_option linter.all false
namespace K06
open PySem
/-! ### the law's machine follows the reader -/
theorem lcp_pre {w r : Tx} : lcp w r = w.length ↔ pre w r = true := (pre_iff w r).symm
/-- words of a list, none begins another -/
structure Nice (ws : List (Tx × List Item)) : Prop where
  ne : ∀ x ∈ ws, x.1 ≠ []
  ap : ∀ x ∈ ws, ∀ y ∈ ws, pre x.1 y.1 = true → x = y
theorem Nice.tail {x : Tx × List Item} {ws : List (Tx × List Item)} (h : Nice (x :: ws)) : Nice ws := ⟨fun y hy => h.ne y (List.mem_cons_of_mem _ hy), fun y hy z hz => h.ap y (List.mem_cons_of_mem _ hy) z (List.mem_cons_of_mem _ hz)⟩
theorem lw_hit {r : Tx} {x : Tx × List Item} : ∀ {ws : List (Tx × List Item)} {m : Nat}, Nice ws → x ∈ ws → pre x.1 r = true → lw r ws m = (x.1.length, some x.2)
  | (w, p) :: ws, m, N, hx, hp => by
    have hw : w ≠ [] := N.ne (w, p) List.mem_cons_self
    unfold lw
    rw [if_neg hw]
    by_cases h : lcp w r = w.length
    · rw [if_pos h]
      have h1 := lcp_pre.mp h
      have e : (w, p) = x := by
        rcases pre_two w x.1 r h1 hp with k | k
        · exact N.ap (w, p) List.mem_cons_self x hx k
        · exact (N.ap x hx (w, p) List.mem_cons_self k).symm
      rw [← e]
    · rw [if_neg h]
      rcases List.mem_cons.mp hx with e | hx
      · rw [e] at hp; exact absurd (lcp_pre.mpr hp) h
      · exact lw_hit N.tail hx hp
theorem lw_miss {r : Tx} : ∀ {ws : List (Tx × List Item)} {m : Nat}, (∀ x ∈ ws, x.1 ≠ []) → (∀ x ∈ ws, ¬ pre x.1 r = true) → lw r ws m = ((ws.map (·.1)).foldl (fun m w => max m (lcp w r)) m, none)
  | [], m, _, _ => rfl
  | (w, p) :: ws, m, N, h => by
    have hw : w ≠ [] := N (w, p) List.mem_cons_self
    unfold lw
    rw [if_neg hw, if_neg (fun e => h (w, p) List.mem_cons_self (lcp_pre.mp e))]
    rw [lw_miss (fun y hy => N y (List.mem_cons_of_mem _ hy)) (fun y hy => h y (List.mem_cons_of_mem _ hy))]
    rfl
theorem lw_skip {r : Tx} {p : List Item} (hd : isDig r = false) {b : List (Tx × List Item)} : ∀ (a : List (Tx × List Item)) (m : Nat), lw r (a ++ ([], p) :: b) m = lw r (a ++ b) m
  | [], m => by
    show lw r (([], p) :: b) m = lw r b m
    conv => lhs; unfold lw
    rw [if_pos rfl, if_neg (by rw [hd]; exact Bool.false_ne_true)]
  | (w, q) :: a, m => by
    rw [List.cons_append, List.cons_append]
    unfold lw
    rw [lw_skip hd a m, lw_skip hd a (max m (lcp w r))]
theorem fold_is {ws : List Tx} {r : Tx} {m k : Nat} (hm : m ≤ k) (h : ∀ w ∈ ws, lcp w r ≤ k) (e : k = m ∨ ∃ w ∈ ws, lcp w r = k) : ws.foldl (fun m w => max m (lcp w r)) m = k := by
  have h1 := foldl_max_le (fun w => lcp w r) ws m k hm h
  have h2 : k ≤ ws.foldl (fun m w => max m (lcp w r)) m := by
    rcases e with e | ⟨w, hw, e⟩
    · rw [e]; exact foldl_max_ge (fun w => lcp w r) ws m
    · rw [← e]; exact foldl_max_mem (fun w => lcp w r) ws m w hw
  exact Nat.le_antisymm h1 h2
theorem fold_at (f : Tx → Nat) : ∀ (ws : List Tx) (m : Nat), ws.foldl (fun m w => max m (f w)) m = m ∨ ∃ w ∈ ws, f w = ws.foldl (fun m w => max m (f w)) m
  | [], m => .inl rfl
  | w :: ws, m => by
    show ws.foldl _ (max m (f w)) = m ∨ ∃ v ∈ w :: ws, f v = ws.foldl _ (max m (f w))
    rcases fold_at f ws (max m (f w)) with h | ⟨v, hv, h⟩
    · rw [h]
      rcases Nat.le_total m (f w) with q | q
      · exact .inr ⟨w, List.mem_cons_self, (Nat.max_eq_right q).symm⟩
      · exact .inl (Nat.max_eq_left q)
    · exact .inr ⟨v, List.mem_cons_of_mem _ hv, h⟩
theorem far_at (ws : List Tx) (r : Tx) : far ws r = 0 ∨ ∃ w ∈ ws, lcp w r = far ws r := fold_at (fun w => lcp w r) ws 0
theorem lcp_app {w v r : Tx} : ¬ pre w r = true → lcp (w ++ v) r = lcp w r := by
  induction w generalizing r with
  | nil => intro h; exact absurd rfl h
  | cons a w ih =>
    intro h
    cases r with
    | nil => simp [lcp]
    | cons b r =>
      show (if a = b then lcp (w ++ v) r + 1 else 0) = (if a = b then lcp w r + 1 else 0)
      by_cases e : a = b
      · rw [if_pos e, if_pos e, ih (fun q => h (by simp [pre, e, q]))]
      · rw [if_neg e, if_neg e]
theorem lcp_app2 {w v r : Tx} : pre w r = true → lcp (w ++ v) r = w.length + lcp v (r.drop w.length) := by
  induction w generalizing r with
  | nil => intro _; simp
  | cons a w ih =>
    intro h
    cases r with
    | nil => simp [pre] at h
    | cons b r =>
      simp only [pre, Bool.and_eq_true, decide_eq_true_eq] at h
      show (if a = b then lcp (w ++ v) r + 1 else 0) = _
      rw [if_pos h.1, ih h.2, List.length_cons, List.drop_succ_cons]
      omega
theorem pre_app2 {w v r : Tx} : pre (w ++ v) r = true ↔ pre w r = true ∧ pre v (r.drop w.length) = true := by
  rw [pre_iff, List.length_append]
  by_cases h : pre w r = true
  · rw [lcp_app2 h, pre_iff v]
    exact ⟨fun e => ⟨h, by omega⟩, fun e => by omega⟩
  · rw [lcp_app h]
    have := (lcp_le w r).1
    have h2 : ¬ lcp w r = w.length := fun e => h ((pre_iff w r).mpr e)
    exact ⟨fun e => by omega, fun e => absurd e.1 h⟩
/-- the others do not reach beyond the word that is there -/
theorem lcp_other {a b r : Tx} (ha : pre a r = true) (n : pre a b = true → a = b) (hn : b ≠ a) : lcp b r ≤ a.length := by
  apply Classical.byContradiction
  intro h
  have h1 : a.length ≤ lcp b r := by omega
  have hb := (lcp_le b r).1
  have e := (lcp_ge b r a.length (by omega)).mp h1
  have e2 := (pre_take a r).mp ha
  rw [e2] at e
  exact hn (n ((pre_take a b).mpr e.symm)).symm
/-- a word with its bracket -/
def vw (w : Word) : Tx := if w.kinds = [] then w.tx else w.tx ++ tOpen
/-- words that may come, with what is wanted behind them -/
structure WordsL (fs : List Word) (ws : List (Tx × List Item)) (it : Word → List Item) : Prop where
  to : ∀ w ∈ fs, (vw w, it w) ∈ ws
  of : ∀ x ∈ ws, ∃ w ∈ fs, x = (vw w, it w)
  ap : ∀ a ∈ fs, ∀ b ∈ fs, pre a.tx b.tx = true → a = b
theorem vw_pre {w : Word} {r : Tx} (h : pre (vw w) r = true) : pre w.tx r = true := by
  unfold vw at h
  split at h
  · exact h
  · exact (pre_app2.mp h).1
theorem vw_lcp {w : Word} {r : Tx} (h : ¬ pre w.tx r = true) : lcp (vw w) r = lcp w.tx r := by
  unfold vw
  split
  · rfl
  · exact lcp_app h
theorem WordsL.one {fs : List Word} {ws : List (Tx × List Item)} {it : Word → List Item} (W : WordsL fs ws it) {a b : Word} {r : Tx} (ha : a ∈ fs) (hb : b ∈ fs) (h : pre a.tx r = true) (q : pre b.tx r = true) : a = b := by
  rcases pre_two a.tx b.tx r h q with k | k
  · exact W.ap a ha b hb k
  · exact (W.ap b hb a ha k).symm
theorem WordsL.nice {fs : List Word} {ws : List (Tx × List Item)} {it : Word → List Item} (W : WordsL fs ws it) : Nice ws := by
  refine ⟨fun x hx => ?_, fun x hx y hy h => ?_⟩
  · obtain ⟨w, _, rfl⟩ := W.of x hx
    have := tx_two w
    show vw w ≠ []
    unfold vw
    split
    · intro e; rw [e] at this; simp at this
    · simp [tOpen]
  · obtain ⟨a, ha, rfl⟩ := W.of x hx
    obtain ⟨b, hb, rfl⟩ := W.of y hy
    have h1 : pre a.tx (vw b) = true := vw_pre h
    have h2 : pre b.tx (vw b) = true := by
      unfold vw
      split
      · have := pre_self b.tx []; rwa [List.append_nil] at this
      · exact pre_self _ _
    rw [W.one ha hb h1 h2]
/-- the word is there, and its bracket -/
theorem WordsL.hit {fs : List Word} {ws : List (Tx × List Item)} {it : Word → List Item} (W : WordsL fs ws it) {w : Word} {r : Tx} (hw : w ∈ fs) (h : pre (vw w) r = true) : lw r ws 0 = ((vw w).length, some (it w)) := lw_hit W.nice (W.to w hw) h
/-- the word is there, the bracket is not -/
theorem WordsL.half {fs : List Word} {ws : List (Tx × List Item)} {it : Word → List Item} (W : WordsL fs ws it) {w : Word} {r : Tx} (hw : w ∈ fs) (h : pre w.tx r = true) (n : ¬ pre (vw w) r = true) (ex : List (Tx × List Item)) (he : ∀ x ∈ ex, x.1 ≠ [] ∧ lcp x.1 r = 0) (hb : ¬ pre tOpen (r.drop w.tx.length) = true) : lw r (ws ++ ex) 0 = (w.tx.length, none) := by
  have nb : ∀ x ∈ ws ++ ex, ¬ pre x.1 r = true := fun x hx hp => by
    rcases List.mem_append.mp hx with hx | hx
    · obtain ⟨v, hv, rfl⟩ := W.of x hx
      have e := W.one hv hw (vw_pre hp) h
      rw [e] at hp
      exact n hp
    · have h1 := lcp_pre.mpr hp
      rw [(he x hx).2] at h1
      exact (he x hx).1 (List.length_eq_zero_iff.mp h1.symm)
  rw [lw_miss (fun x hx => by
    rcases List.mem_append.mp hx with hx | hx
    · exact W.nice.ne x hx
    · exact (he x hx).1) nb]
  have hk : w.kinds ≠ [] := fun e => n (by unfold vw; rw [if_pos e]; exact h)
  have hl : lcp (vw w) r = w.tx.length := by
    unfold vw
    rw [if_neg hk, lcp_app2 h]
    have : lcp tOpen (r.drop w.tx.length) = 0 := by
      have h1 := (lcp_le tOpen (r.drop w.tx.length)).1
      have h2 : ¬ lcp tOpen (r.drop w.tx.length) = tOpen.length := fun e => hb (lcp_pre.mp e)
      simp [tOpen] at h1 h2 ⊢
      omega
    omega
  congr 1
  refine fold_is (Nat.zero_le _) (fun v hv => ?_) (.inr ⟨vw w, List.mem_map.mpr ⟨_, List.mem_append_left _ (W.to w hw), rfl⟩, hl⟩)
  obtain ⟨x, hx, rfl⟩ := List.mem_map.mp hv
  rcases List.mem_append.mp hx with hx | hx
  · obtain ⟨u, hu, rfl⟩ := W.of x hx
    by_cases e : u = w
    · rw [e, hl]; exact Nat.le_refl _
    · have nu : ¬ pre u.tx r = true := fun q => e (W.one hu hw q h)
      show lcp (vw u) r ≤ _
      rw [vw_lcp nu]
      exact lcp_other h (fun q => by rw [W.ap w hw u hu q]) (fun q => e (Word.tx_inj _ _ q))
  · rw [(he x hx).2]; exact Nat.zero_le _
/-- no word is there -/
theorem WordsL.no {fs : List Word} {ws : List (Tx × List Item)} {it : Word → List Item} (W : WordsL fs ws it) {r : Tx} (n : ∀ w ∈ fs, ¬ pre w.tx r = true) (ex : List (Tx × List Item)) (he : ∀ x ∈ ex, x.1 ≠ [] ∧ lcp x.1 r = 0) : lw r (ws ++ ex) 0 = (far (fs.map Word.tx) r, none) := by
  rw [lw_miss (fun x hx => by
    rcases List.mem_append.mp hx with hx | hx
    · exact W.nice.ne x hx
    · exact (he x hx).1) (fun x hx hp => by
    rcases List.mem_append.mp hx with hx | hx
    · obtain ⟨v, hv, rfl⟩ := W.of x hx
      exact n v hv (vw_pre hp)
    · have h1 := lcp_pre.mpr hp
      rw [(he x hx).2] at h1
      exact (he x hx).1 (List.length_eq_zero_iff.mp h1.symm))]
  congr 1
  refine fold_is (Nat.zero_le _) (fun v hv => ?_) ?_
  · obtain ⟨x, hx, rfl⟩ := List.mem_map.mp hv
    rcases List.mem_append.mp hx with hx | hx
    · obtain ⟨u, hu, rfl⟩ := W.of x hx
      show lcp (vw u) r ≤ _
      rw [vw_lcp (n u hu)]
      exact lcp_far (List.mem_map.mpr ⟨u, hu, rfl⟩)
    · rw [(he x hx).2]; exact Nat.zero_le _
  · rcases far_at (fs.map Word.tx) r with e | ⟨v, hv, e⟩
    · exact .inl e
    · obtain ⟨u, hu, rfl⟩ := List.mem_map.mp hv
      exact .inr ⟨vw u, List.mem_map.mpr ⟨_, List.mem_append_left _ (W.to u hu), rfl⟩, by rw [vw_lcp (n u hu), e]⟩
def itmD : Word → List Item
  | .none => [] | .coin => [.amount, .close] | .give => [.deal, .close] | .any => [.deal, .close] | .both => [.deal, .comma, .deal, .close] | .either => [.deal, .comma, .deal, .close]
  | .once => [.amount, .sign, .amount, .comma, .deal, .close] | .by => [.share, .comma, .deal, .close] | .until => [.amount, .sign, .amount, .comma, .deal, .close] | .later => [.f1, .comma, .deal, .close] | .scale => [.amount, .comma, .deal, .close]
  | .most => [.amount, .comma, .amount, .close] | .least => [.amount, .comma, .amount, .close] | _ => []
theorem wordsD : WordsL forms (nextL .deal) itmD := by
  refine ⟨by decide +kernel, fun x hx => ?_, by decide +kernel⟩
  simp only [nextL, List.mem_cons, List.not_mem_nil, or_false] at hx
  rcases hx with rfl | rfl | rfl | rfl | rfl | rfl | rfl | rfl | rfl | rfl | rfl
  · exact ⟨.none, by decide, rfl⟩
  · exact ⟨.coin, by decide, rfl⟩
  · exact ⟨.give, by decide, rfl⟩
  · exact ⟨.any, by decide, rfl⟩
  · exact ⟨.both, by decide, rfl⟩
  · exact ⟨.either, by decide, rfl⟩
  · exact ⟨.once, by decide, rfl⟩
  · exact ⟨.by, by decide, rfl⟩
  · exact ⟨.until, by decide, rfl⟩
  · exact ⟨.later, by decide, rfl⟩
  · exact ⟨.scale, by decide, rfl⟩
def numL : List (Tx × List Item) := [(Word.price.tx, []), (Word.time.tx, []), (Word.most.tx ++ tOpen, [.amount, .comma, .amount, .close]), (Word.least.tx ++ tOpen, [.amount, .comma, .amount, .close])]
theorem wordsA : WordsL numbers numL itmD := by
  refine ⟨by decide +kernel, fun x hx => ?_, by decide +kernel⟩
  simp only [numL, List.mem_cons, List.not_mem_nil, or_false] at hx
  rcases hx with rfl | rfl | rfl | rfl
  · exact ⟨.price, by decide, rfl⟩
  · exact ⟨.time, by decide, rfl⟩
  · exact ⟨.most, by decide, rfl⟩
  · exact ⟨.least, by decide, rfl⟩
end K06
end Sec_P4
section Sec_P4b
set_option Elab.async false
set_option maxHeartbeats 4000000
set_option maxRecDepth 100000
set_option linter.all false
namespace K06
open PySem
def RunsL (i : Nat) (r : Tx) (W : List Item) (i' : Nat) (r' : Tx) (W' : List Item) : Prop := ∃ k, ∀ m, lawF (m + k) i r W = lawF m i' r' W'
def FailsL (i : Nat) (r : Tx) (W : List Item) (p : Nat) : Prop := ∃ k, ∀ m, lawF (m + k) i r W = some (p : Int)
theorem RunsL.refl {i : Nat} {r : Tx} {W : List Item} : RunsL i r W i r W := ⟨0, fun _ => rfl⟩
theorem RunsL.trans {i j k : Nat} {r s t : Tx} {W V U : List Item} (a : RunsL i r W j s V) (b : RunsL j s V k t U) : RunsL i r W k t U := by
  obtain ⟨x, hx⟩ := a
  obtain ⟨y, hy⟩ := b
  exact ⟨y + x, fun m => by rw [← Nat.add_assoc, hx, hy]⟩
theorem RunsL.fails {i j : Nat} {r s : Tx} {W V : List Item} {p : Nat} (a : RunsL i r W j s V) (b : FailsL j s V p) : FailsL i r W p := by
  obtain ⟨x, hx⟩ := a
  obtain ⟨y, hy⟩ := b
  exact ⟨y + x, fun m => by rw [← Nat.add_assoc, hx, hy]⟩
def SimL {β : Type} (i : Nat) (r : Tx) (W : List Item) (x : RD β) (W2 : List Item) : Prop := match x with
  | .ok (_, i', r') => RunsL i r W i' r' W2
  | .error p => FailsL i r W p
theorem SimL.andT {α β : Type} {i : Nat} {r : Tx} {W W1 W2 : List Item} {x : RD α} {f : α → Nat → Tx → RD β} (hx : SimL i r W x W1)
    (hf : ∀ a i1 r1, x = .ok (a, i1, r1) → SimL i1 r1 W1 (f a i1 r1) W2) : SimL i r W (K06.andT x f) W2 := by
  cases x with
  | error p => exact hx
  | ok y =>
    obtain ⟨a, i1, r1⟩ := y
    have h := hf a i1 r1 rfl
    have hx : RunsL i r W i1 r1 W1 := hx
    show SimL i r W (f a i1 r1) W2
    cases hy : f a i1 r1 with
    | error p => rw [hy] at h; exact hx.fails h
    | ok z => rw [hy] at h; exact hx.trans h
theorem SimL.pre {β : Type} {i j : Nat} {r s : Tx} {W V W2 : List Item} {x : RD β} (a : RunsL i r W j s V) (h : SimL j s V x W2) : SimL i r W x W2 := by
  cases x with
  | error p => exact a.fails h
  | ok y => exact a.trans h
theorem SimL.close {β : Type} {i : Nat} {r : Tx} {W W2 : List Item} {f : Nat → Tx → RD β} (hf : ∀ i1 r1, pL tClose i r = .ok (i1, r1) → SimL i1 r1 W (f i1 r1) W2) : SimL i r (.close :: W) (andL (pL tClose i r) f) W2 := by
  cases e : pL tClose i r with
  | error p => exact ⟨1, fun m => by show (match pL tClose i r with | .ok (i', r') => lawF m i' r' W | .error p => some (p : Int)) = _; rw [e]⟩
  | ok y =>
    obtain ⟨i1, r1⟩ := y
    have h1 : RunsL i r (.close :: W) i1 r1 W := ⟨1, fun m => by show (match pL tClose i r with | .ok (i', r') => lawF m i' r' W | .error p => some (p : Int)) = _; rw [e]⟩
    exact SimL.pre (x := f i1 r1) h1 (hf i1 r1 e)
theorem SimL.comma {β : Type} {i : Nat} {r : Tx} {W W2 : List Item} {f : Nat → Tx → RD β} (hf : ∀ i1 r1, pL tComma i r = .ok (i1, r1) → SimL i1 r1 W (f i1 r1) W2) : SimL i r (.comma :: W) (andL (pL tComma i r) f) W2 := by
  cases e : pL tComma i r with
  | error p => exact ⟨1, fun m => by show (match pL tComma i r with | .ok (i', r') => lawF m i' r' W | .error p => some (p : Int)) = _; rw [e]⟩
  | ok y =>
    obtain ⟨i1, r1⟩ := y
    have h1 : RunsL i r (.comma :: W) i1 r1 W := ⟨1, fun m => by show (match pL tComma i r with | .ok (i', r') => lawF m i' r' W | .error p => some (p : Int)) = _; rw [e]⟩
    exact SimL.pre (x := f i1 r1) h1 (hf i1 r1 e)
theorem simL_share {i : Nat} {r : Tx} {W : List Item} : SimL i r (.share :: W) (pQ i r) W := by
  cases e : pQ i r with
  | error p => exact ⟨1, fun m => by show (match pQ i r with | .ok (_, i', r') => lawF m i' r' W | .error p => some (p : Int)) = _; rw [e]⟩
  | ok y => exact ⟨1, fun m => by show (match pQ i r with | .ok (_, i', r') => lawF m i' r' W | .error p => some (p : Int)) = _; rw [e]⟩
theorem simL_f1 {i : Nat} {r : Tx} {W : List Item} : SimL i r (.f1 :: W) (pF 1 i r) W := by
  cases e : pF 1 i r with
  | error p => exact ⟨1, fun m => by show (match pF 1 i r with | .ok (_, i', r') => lawF m i' r' W | .error p => some (p : Int)) = _; rw [e]⟩
  | ok y => exact ⟨1, fun m => by show (match pF 1 i r with | .ok (_, i', r') => lawF m i' r' W | .error p => some (p : Int)) = _; rw [e]⟩
theorem simL_f10 {i : Nat} {r : Tx} {W : List Item} : SimL i r (.f10 :: W) (pF 10 i r) W := by
  cases e : pF 10 i r with
  | error p => exact ⟨1, fun m => by show (match pF 10 i r with | .ok (_, i', r') => lawF m i' r' W | .error p => some (p : Int)) = _; rw [e]⟩
  | ok y => exact ⟨1, fun m => by show (match pF 10 i r with | .ok (_, i', r') => lawF m i' r' W | .error p => some (p : Int)) = _; rw [e]⟩
/-- an item that a word answers -/
def wordy : Item → Bool
  | .deal | .amount | .sign | .pair => true
  | _ => false
theorem lawF_word {n i : Nat} {r : Tx} {t : Item} {W : List Item} (h : wordy t = true) : lawF (n + 1) i r (t :: W) = (match lw r (nextL t) 0 with | (k, some p) => lawF n (i + k) (r.drop k) (p ++ W) | (k, none) => some ((i + k : Nat) : Int)) := by
  cases t <;> first | rfl | cases h
theorem run_word {i k : Nat} {r : Tx} {t : Item} {W p : List Item} (h : wordy t = true) (e : lw r (nextL t) 0 = (k, some p)) : RunsL i r (t :: W) (i + k) (r.drop k) (p ++ W) := ⟨1, fun m => by rw [lawF_word h, e]⟩
theorem fail_word {i k : Nat} {r : Tx} {t : Item} {W : List Item} (h : wordy t = true) (e : lw r (nextL t) 0 = (k, none)) : FailsL i r (t :: W) (i + k) := ⟨1, fun m => by rw [lawF_word h, e]⟩
/-- marks -/
theorem marks_hit {r : Tx} {ms : List Mk} {k : Mk} (ap : Apart (ms.map Mk.tx)) (hk : k ∈ ms) (h : pre k.tx r = true) : lw r (ms.map fun m => (m.tx, ([] : List Item))) 0 = (k.tx.length, some []) := by
  refine lw_hit (x := (k.tx, [])) ⟨fun x hx => ?_, fun x hx y hy h => ?_⟩ (List.mem_map.mpr ⟨k, hk, rfl⟩) h
  · obtain ⟨m, _, rfl⟩ := List.mem_map.mp hx
    cases m <;> decide
  · obtain ⟨m, hm, rfl⟩ := List.mem_map.mp hx
    obtain ⟨m', hm', rfl⟩ := List.mem_map.mp hy
    have := ap m.tx (List.mem_map.mpr ⟨m, hm, rfl⟩) m'.tx (List.mem_map.mpr ⟨m', hm', rfl⟩) h
    show (m.tx, ([] : List Item)) = (m'.tx, [])
    rw [this]
theorem marks_no {r : Tx} {ms : List Mk} (n : ∀ k ∈ ms, ¬ pre k.tx r = true) : lw r (ms.map fun m => (m.tx, ([] : List Item))) 0 = (far (ms.map Mk.tx) r, none) := by
  rw [lw_miss]
  · rw [List.map_map]; rfl
  · intro x hx
    obtain ⟨m, _, rfl⟩ := List.mem_map.mp hx
    cases m <;> decide
  · intro x hx
    obtain ⟨m, hm, rfl⟩ := List.mem_map.mp hx
    exact n m hm
theorem simL_mark {i : Nat} {r : Tx} {W : List Item} {t : Item} {ms : List Mk} (hw : wordy t = true) (ap : Apart (ms.map Mk.tx)) (hn : nextL t = ms.map fun m => (m.tx, ([] : List Item))) : SimL i r (t :: W) (pM ms i r) W := by
  unfold pM
  cases hf : ms.find? (fun w => pre w.tx r) with
  | none =>
    rw [List.find?_eq_none] at hf
    exact fail_word hw (by rw [hn]; exact marks_no fun k hk => hf k hk)
  | some k =>
    exact run_word hw (by rw [hn]; exact marks_hit ap (List.mem_of_find?_eq_some hf) (List.find?_some (p := fun w : Mk => pre w.tx r) hf))
theorem apP : Apart (pairs.map Mk.tx) := by unfold Apart; decide +kernel
theorem apS : Apart (signs.map Mk.tx) := by unfold Apart; decide +kernel
/-- a word, then what stands behind it -/
theorem word_none {fs : List Word} {i : Nat} {r : Tx} {p : Nat} (h : pW fs i r = .error p) : (∀ w ∈ fs, ¬ pre w.tx r = true) ∧ p = i + far (fs.map Word.tx) r := by
  unfold pW at h
  cases hf : fs.find? (fun w => pre w.tx r) with
  | none =>
    rw [hf] at h
    cases h
    rw [List.find?_eq_none] at hf
    exact ⟨fun w hw => hf w hw, rfl⟩
  | some w => rw [hf] at h; cases h
theorem word_some {fs : List Word} {i : Nat} {r : Tx} {w : Word} {i' : Nat} {r' : Tx} (h : pW fs i r = .ok (w, i', r')) : w ∈ fs ∧ pre w.tx r = true ∧ i' = i + w.tx.length ∧ r' = r.drop w.tx.length := by
  unfold pW at h
  cases hf : fs.find? (fun w => pre w.tx r) with
  | none => rw [hf] at h; cases h
  | some v =>
    rw [hf] at h
    cases h
    exact ⟨List.mem_of_find?_eq_some hf, List.find?_some (p := fun w : Word => pre w.tx r) hf, rfl, rfl⟩
/-- an open bracket behind the word -/
theorem simL_open {β : Type} {fs : List Word} {ws ex : List (Tx × List Item)} {t : Item} (hw : wordy t = true) (Wd : WordsL fs ws itmD) (nice : Nice (ws ++ ex)) (hl : ∀ (r : Tx), isDig r = false → lw r (nextL t) 0 = lw r (ws ++ ex) 0) {i : Nat} {r : Tx} {w : Word} {i' : Nat} {r' : Tx} (he : ∀ x ∈ ex, x.1 ≠ [] ∧ lcp x.1 r = 0)
    (hd : isDig r = false) (h : pW fs i r = .ok (w, i', r')) (hk : w.kinds ≠ []) {W W2 : List Item} {f : Nat → Tx → RD β} (hf : ∀ i1 r1, pL tOpen i' r' = .ok (i1, r1) → SimL i1 r1 (itmD w ++ W) (f i1 r1) W2) : SimL i r (t :: W) (andL (pL tOpen i' r') f) W2 := by
  obtain ⟨hm, hp, rfl, rfl⟩ := word_some h
  have hv : vw w = w.tx ++ tOpen := by unfold vw; rw [if_neg hk]
  by_cases hb : pre tOpen (r.drop w.tx.length) = true
  · have e : pL tOpen (i + w.tx.length) (r.drop w.tx.length) = .ok (i + w.tx.length + 1, (r.drop w.tx.length).drop 1) := by unfold pL; rw [if_pos hb]; rfl
    have hv2 : pre (vw w) r = true := by rw [hv]; exact pre_app2.mpr ⟨hp, hb⟩
    have hlw : lw r (nextL t) 0 = ((vw w).length, some (itmD w)) := by
      rw [hl r hd]
      exact lw_hit nice (List.mem_append_left _ (Wd.to w hm)) hv2
    have hr := run_word (i := i) (W := W) hw hlw
    rw [hv, List.length_append] at hr
    have hlen : tOpen.length = 1 := rfl
    rw [hlen, ← List.drop_drop, ← Nat.add_assoc] at hr
    have := hf _ _ e
    rw [e]
    exact SimL.pre hr this
  · have e : pL tOpen (i + w.tx.length) (r.drop w.tx.length) = .error (i + w.tx.length) := by
      unfold pL
      rw [if_neg hb]
      have h1 := (lcp_le tOpen (r.drop w.tx.length)).1
      have h2 : ¬ lcp tOpen (r.drop w.tx.length) = tOpen.length := fun e => hb (lcp_pre.mp e)
      have : lcp tOpen (r.drop w.tx.length) = 0 := by simp [tOpen] at h1 h2 ⊢; omega
      rw [this]; rfl
    rw [e]
    refine fail_word hw ?_
    rw [hl r hd]
    exact Wd.half hm hp (fun q => hb (by rw [hv] at q; exact (pre_app2.mp q).2)) ex he hb
def exA : List (Tx × List Item) := [(tOpen, [.amount, .pair, .amount, .close])]
theorem niceA : Nice (numL ++ exA) := ⟨by decide +kernel, by decide +kernel⟩
theorem niceD : Nice (nextL .deal ++ []) := by rw [List.append_nil]; exact wordsD.nice
theorem next_amount {r : Tx} (hd : isDig r = false) : lw r (nextL .amount) 0 = lw r (numL ++ exA) 0 := lw_skip hd [(Word.price.tx, []), (Word.time.tx, []), (Word.most.tx ++ tOpen, [.amount, .comma, .amount, .close])] 0
theorem exA_no {r : Tx} (ho : isOpen r = false) : ∀ x ∈ exA, x.1 ≠ [] ∧ lcp x.1 r = 0 := by
  intro x hx
  have e : x = (tOpen, [.amount, .pair, .amount, .close]) := by simpa [exA] using hx
  subst e
  refine ⟨by decide, ?_⟩
  cases r with
  | nil => rfl
  | cons c r =>
    show (if 40 = c then lcp [] r + 1 else 0) = 0
    have : ¬ (c = 40) := by simpa [isOpen] using ho
    rw [if_neg (fun z => this z.symm)]
theorem simL_two {n : Nat} (ih : ∀ i r W, r.length < n → SimL i r (.amount :: W) (pA n i r) W) {i1 : Nat} {r1 : Tx} {W : List Item} {mk : Amt → Amt → Amt} (hr : r1.length < n) :
    SimL i1 r1 (.amount :: .comma :: .amount :: .close :: W) (andT (pA n i1 r1) fun a i r => andL (pL tComma i r) fun i r => andT (pA n i r) fun b i r => andL (pL tClose i r) fun i r => .ok (mk a b, i, r)) W := by
  refine (ih i1 r1 _ hr).andT fun a i2 r2 h2 => ?_
  have l2 := pA_len h2
  refine SimL.comma fun i3 r3 h3 => ?_
  have l3 := pL_len h3
  refine (ih i3 r3 _ (by omega)).andT fun b i4 r4 h4 => ?_
  exact SimL.close fun i5 r5 h5 => RunsL.refl
theorem simLA : ∀ (n : Nat) (i : Nat) (r : Tx) (W : List Item), r.length < n → SimL i r (.amount :: W) (pA n i r) W
  | 0, _, _, _, h => absurd h (Nat.not_lt_zero _)
  | n + 1, i, r, W, h => by
    unfold pA
    by_cases hd : isDig r = true
    · rw [if_pos hd]
      have e : lw r (nextL .amount) 0 = (0, some [.f10]) := by
        have hp : ∀ w : Tx, (∀ c t, w = c :: t → digit c = false) → w ≠ [] → lcp w r = 0 ∧ ¬ lcp w r = w.length := by
          intro w hc hn
          cases w with
          | nil => exact absurd rfl hn
          | cons c t =>
            cases r with
            | nil => cases hd
            | cons d s =>
              have h1 := hc c t rfl
              have : ¬ c = d := fun e => by rw [e] at h1; have h2 : digit d = true := hd; rw [h1] at h2; cases h2
              have e : lcp (c :: t) (d :: s) = 0 := by show (if c = d then _ else 0) = 0; rw [if_neg this]
              rw [e]
              exact ⟨rfl, by simp⟩
        have p1 := hp Word.price.tx (fun c t e => by cases e; rfl) (by decide)
        have p2 := hp Word.time.tx (fun c t e => by cases e; rfl) (by decide)
        have p3 := hp (Word.most.tx ++ tOpen) (fun c t e => by cases e; rfl) (by decide)
        show lw r ((Word.price.tx, []) :: (Word.time.tx, []) :: (Word.most.tx ++ tOpen, _) :: ([], [.f10]) :: _) 0 = _
        unfold lw
        rw [if_neg (by decide), if_neg p1.2, p1.1]
        unfold lw
        rw [if_neg (by decide), if_neg p2.2, p2.1]
        unfold lw
        rw [if_neg (by decide), if_neg p3.2, p3.1]
        unfold lw
        rw [if_pos rfl, if_pos hd]
      have h1 := run_word (i := i) (W := W) (t := .amount) rfl e
      refine SimL.pre h1 ?_
      show SimL i (r.drop 0) (.f10 :: W) _ W
      rw [List.drop_zero]
      exact simL_f10.andT fun ds i' r' _ => RunsL.refl
    · rw [if_neg hd]
      have hd : isDig r = false := by cases hq : isDig r; rfl; exact absurd hq hd
      by_cases ho : isOpen r = true
      · rw [if_pos ho]
        have h1 := head_drop (of_decide_eq_true (show decide (r.head? = some 40) = true from ho))
        have l0 : (r.drop 1).length < n := by
          have := congrArg List.length h1
          rw [List.length_append, List.length_singleton] at this
          omega
        have hp : pre tOpen r = true := by rw [h1]; exact pre_self _ _
        have e : lw r (nextL .amount) 0 = (1, some [.amount, .pair, .amount, .close]) := by
          rw [next_amount hd]
          exact lw_hit (x := (tOpen, [.amount, .pair, .amount, .close])) niceA (List.mem_append_right _ (by decide)) hp
        refine SimL.pre (run_word (i := i) (W := W) (t := .amount) rfl e) ?_
        show SimL (i + 1) (r.drop 1) (.amount :: .pair :: .amount :: .close :: W) _ W
        refine (simLA n (i + 1) (r.drop 1) _ l0).andT fun a i2 r2 h2 => ?_
        have l2 := pA_len h2
        refine (simL_mark (ms := pairs) (t := .pair) rfl apP rfl).andT fun k i3 r3 h3 => ?_
        have l3 := pM_len h3
        refine (simLA n i3 r3 _ (by omega)).andT fun b i4 r4 h4 => ?_
        exact SimL.close fun i5 r5 h5 => RunsL.refl
      · rw [if_neg ho]
        have ho : isOpen r = false := by cases hq : isOpen r; rfl; exact absurd hq ho
        cases e : pW numbers i r with
        | error p =>
          obtain ⟨hn, rfl⟩ := word_none e
          exact fail_word (t := .amount) rfl (by rw [next_amount hd]; exact wordsA.no hn exA (exA_no ho))
        | ok y =>
          obtain ⟨w, i', r'⟩ := y
          have l1 := pW_len e
          obtain ⟨hm, hp, rfl, rfl⟩ := word_some e
          show SimL i r (.amount :: W) (match w with | .price => .ok (.price, _, _) | .time => .ok (.time, _, _) | .most => two n (pA n) .most _ _ | _ => two n (pA n) .least _ _) W
          have plain : w.kinds = [] → RunsL i r (.amount :: W) (i + w.tx.length) (r.drop w.tx.length) W := fun hk => by
            have hv : vw w = w.tx := by unfold vw; rw [if_pos hk]
            have hlw : lw r (nextL .amount) 0 = ((vw w).length, some (itmD w)) := by
              rw [next_amount hd]
              exact lw_hit niceA (List.mem_append_left _ (wordsA.to w hm)) (by rw [hv]; exact hp)
            have hr := run_word (i := i) (W := W) (t := .amount) rfl hlw
            rw [hv] at hr
            have hi : itmD w = [] := by cases w <;> first | rfl | (exact absurd hk (by decide)) | (exact absurd hm (by decide))
            rw [hi] at hr
            exact hr
          have br : ∀ mk : Amt → Amt → Amt, w.kinds ≠ [] → itmD w = [.amount, .comma, .amount, .close] → SimL i r (.amount :: W) (two n (pA n) mk (i + w.tx.length) (r.drop w.tx.length)) W := fun mk hk hi => by
            unfold two
            refine simL_open (t := .amount) (ex := exA) rfl wordsA niceA (fun r hd => next_amount hd) (exA_no ho) hd e hk fun i1 r1 h1 => ?_
            have l2 := pL_len h1
            rw [hi]
            exact simL_two (simLA n) (by omega)
          cases w <;> first | (exact absurd hm (by decide)) | skip
          · exact plain rfl
          · exact plain rfl
          · exact br _ (by decide) rfl
          · exact br _ (by decide) rfl
theorem simLS (n : Nat) (i : Nat) (r : Tx) (W : List Item) (h : r.length < n) : SimL i r (.amount :: .sign :: .amount :: W) (pS n i r) W := by
  unfold pS
  refine (simLA n i r _ h).andT fun a i2 r2 h2 => ?_
  have l2 := pA_len h2
  refine (simL_mark (ms := signs) (t := .sign) rfl apS rfl).andT fun k i3 r3 h3 => ?_
  have l3 := pM_len h3
  exact (simLA n i3 r3 _ (by omega)).andT fun b i4 r4 h4 => RunsL.refl
theorem simLD : ∀ (n : Nat) (i : Nat) (r : Tx) (W : List Item), r.length < n → SimL i r (.deal :: W) (pD n i r) W
  | 0, _, _, _, h => absurd h (Nat.not_lt_zero _)
  | n + 1, i, r, W, h => by
    unfold pD
    have nd : ∀ r : Tx, lw r (nextL .deal) 0 = lw r (nextL .deal ++ []) 0 := fun r => by rw [List.append_nil]
    have noex : ∀ x ∈ ([] : List (Tx × List Item)), x.1 ≠ [] ∧ lcp x.1 r = 0 := fun x hx => by cases hx
    cases e : pW forms i r with
    | error p =>
      have hh := word_none e
      have ep := hh.2
      have hl : lw r (nextL .deal) 0 = (far (forms.map Word.tx) r, none) := by rw [nd]; exact wordsD.no hh.1 [] noex
      have hf := fail_word (i := i) (W := W) (t := .deal) rfl hl
      rw [← ep] at hf
      exact hf
    | ok y =>
      obtain ⟨w, i', r'⟩ := y
      have l1 := pW_len e
      have hm := (word_some e).1
      have open_ : ∀ {β : Type} {f : Nat → Tx → RD β}, w.kinds ≠ [] → (∀ i1 r1, r1.length < n → SimL i1 r1 (itmD w ++ W) (f i1 r1) W) → SimL i r (.deal :: W) (andL (pL tOpen i' r') f) W := fun hk hf => by
        by_cases hd : isDig r = true
        · obtain ⟨_, hp, rfl, rfl⟩ := word_some e
          exfalso
          cases w <;> first | (exact absurd hm (by decide)) | skip
          all_goals
            cases r with
            | nil => cases hd
            | cons c t =>
              simp only [Word.tx, pre, Bool.and_eq_true, decide_eq_true_eq] at hp
              have h2 : digit c = true := hd
              rw [← hp.1] at h2
              exact absurd h2 (by decide)
        · have hd : isDig r = false := by cases hq : isDig r; rfl; exact absurd hq hd
          refine simL_open (t := .deal) (ex := []) rfl wordsD niceD (fun r _ => nd r) noex hd e hk fun i1 r1 h1 => ?_
          have l2 := pL_len h1
          exact hf i1 r1 (by omega)
      have d := simLD n
      have a1 : ∀ {α : Type} {px : Nat → Tx → RD α} {mk : α → Deal} {it : List Item}, w.kinds ≠ [] → itmD w = it ++ [.close] → (∀ i r W, r.length < n → SimL i r (it ++ W) (px i r) W) → SimL i r (.deal :: W) (arg1 px mk i' r') W := fun hk hi hx => by
        unfold arg1
        refine open_ hk fun i1 r1 l => ?_
        rw [hi, List.append_assoc]
        refine (hx i1 r1 _ l).andT fun a i2 r2 h2 => ?_
        exact SimL.close fun i5 r5 h5 => RunsL.refl
      have a2 : ∀ {α : Type} {px : Nat → Tx → RD α} {mk : α → Deal → Deal} {it : List Item}, w.kinds ≠ [] → itmD w = it ++ [.comma, .deal, .close] → (∀ i r W, r.length < n → SimL i r (it ++ W) (px i r) W) → (∀ {i r a i' r'}, px i r = .ok (a, i', r') → r'.length ≤ r.length) → SimL i r (.deal :: W) (arg2 px (pD n) mk i' r') W := fun hk hi hx lx => by
        unfold arg2
        refine open_ hk fun i1 r1 l => ?_
        rw [hi, List.append_assoc]
        refine (hx i1 r1 _ l).andT fun a i2 r2 h2 => ?_
        have l2 := lx h2
        refine SimL.comma fun i3 r3 h3 => ?_
        have l3 := pL_len h3
        refine (d i3 r3 _ (by omega)).andT fun b i4 r4 h4 => ?_
        exact SimL.close fun i5 r5 h5 => RunsL.refl
      have la : ∀ {i r a i' r'}, pA n i r = .ok (a, i', r') → r'.length ≤ r.length := fun h => pA_len h
      have ld : ∀ {i r a i' r'}, pD n i r = .ok (a, i', r') → r'.length ≤ r.length := fun h => pD_len h
      have ls : ∀ {i r a i' r'}, pS n i r = .ok (a, i', r') → r'.length ≤ r.length := fun h => by have := (pS_ok h).2.len; omega
      have lf : ∀ {i r a i' r'}, pF 1 i r = .ok (a, i', r') → r'.length ≤ r.length := fun h => by have := (pF_ok (by decide) h).2.len; omega
      have lq : ∀ {i r a i' r'}, pQ i r = .ok (a, i', r') → r'.length ≤ r.length := fun h => by have := (pQ_ok h).2.len; omega
      cases w <;> first | (exact absurd hm (by decide)) | skip
      · obtain ⟨_, hp, rfl, rfl⟩ := word_some e
        have hr := run_word (i := i) (W := W) (t := .deal) rfl (wordsD.hit hm (r := r) hp)
        exact hr
      · exact a1 (it := [.amount]) (by decide) rfl (simLA n)
      · exact a1 (it := [.deal]) (by decide) rfl d
      · exact a2 (it := [.deal]) (by decide) rfl d ld
      · exact a2 (it := [.deal]) (by decide) rfl d ld
      · exact a2 (it := [.f1]) (by decide) rfl (fun i r W _ => simL_f1) lf
      · exact a2 (it := [.amount, .sign, .amount]) (by decide) rfl (simLS n) ls
      · exact a2 (it := [.amount, .sign, .amount]) (by decide) rfl (simLS n) ls
      · exact a1 (it := [.deal]) (by decide) rfl d
      · exact a2 (it := [.amount]) (by decide) rfl (simLA n) la
      · exact a2 (it := [.share]) (by decide) rfl (fun i r W _ => simL_share) lq
/-- the whole reading -/
def lawAns (z : Tx) : Int := match pD (z.length + 1) 0 z with
  | .error p => p
  | .ok (_, i, r) => if r = [] then -1 else i
theorem law_all (z : Tx) : ∃ n, lawF n 0 z [.deal] = some (lawAns z) := by
  have h := simLD (z.length + 1) 0 z [] (Nat.lt_succ_self _)
  unfold lawAns
  cases e : pD (z.length + 1) 0 z with
  | error p =>
    rw [e] at h
    obtain ⟨k, hk⟩ := h
    exact ⟨0 + k, hk 0⟩
  | ok y =>
    obtain ⟨d, i, r⟩ := y
    rw [e] at h
    obtain ⟨k, hk⟩ := h
    exact ⟨1 + k, hk 1⟩
end K06
end Sec_P4b
section Sec_P13
set_option Elab.async false
set_option maxHeartbeats 4000000
set_option linter.all false
namespace K06
open PySem
/-! ### the reader's place stays within the text -/
def Bd {α : Type} (x : RD α) (n : Nat) : Prop := match x with | .error p => p ≤ n | .ok (_, i, r) => i + r.length = n
def BdL (x : Except Nat (Nat × Tx)) (n : Nat) : Prop := match x with | .error p => p ≤ n | .ok (i, r) => i + r.length = n
theorem bd_andT {α β : Type} {x : RD α} {f : α → Nat → Tx → RD β} {n : Nat} (hx : Bd x n) (hf : ∀ a i r, i + r.length = n → Bd (f a i r) n) : Bd (andT x f) n := by
  cases x with
  | error p => exact hx
  | ok y => obtain ⟨a, i, r⟩ := y; exact hf a i r hx
theorem bd_andL {β : Type} {x : Except Nat (Nat × Tx)} {f : Nat → Tx → RD β} {n : Nat} (hx : BdL x n) (hf : ∀ i r, i + r.length = n → Bd (f i r) n) : Bd (andL x f) n := by
  cases x with
  | error p => exact hx
  | ok y => obtain ⟨i, r⟩ := y; exact hf i r hx
theorem bd_pL {s : Tx} {i : Nat} {r : Tx} {n : Nat} (h : i + r.length = n) : BdL (pL s i r) n := by
  unfold pL
  split
  · rename_i c
    have := congrArg List.length (pre_app c)
    rw [List.length_append] at this
    show i + s.length + (r.drop s.length).length = n
    omega
  · have := (lcp_le s r).2
    show i + lcp s r ≤ n
    omega
theorem bd_pW {ws : List Word} {i : Nat} {r : Tx} {n : Nat} (h : i + r.length = n) : Bd (pW ws i r) n := by
  unfold pW
  cases hf : ws.find? (fun w => pre w.tx r) with
  | some w =>
    have c := List.find?_some hf
    have := congrArg List.length (pre_app c)
    rw [List.length_append] at this
    show i + w.tx.length + (r.drop w.tx.length).length = n
    omega
  | none =>
    have := far_len (ws.map Word.tx) r
    show i + far (ws.map Word.tx) r ≤ n
    omega
theorem bd_pM {ws : List Mk} {i : Nat} {r : Tx} {n : Nat} (h : i + r.length = n) : Bd (pM ws i r) n := by
  unfold pM
  cases hf : ws.find? (fun w => pre w.tx r) with
  | some w =>
    have c := List.find?_some hf
    have := congrArg List.length (pre_app c)
    rw [List.length_append] at this
    show i + w.tx.length + (r.drop w.tx.length).length = n
    omega
  | none =>
    have := far_len (ws.map Mk.tx) r
    show i + far (ws.map Mk.tx) r ≤ n
    omega
theorem bd_pF {m i : Nat} {r : Tx} {n : Nat} (h : i + r.length = n) : Bd (pF m i r) n := by
  unfold pF
  split
  · show i ≤ n; omega
  · have := congrArg List.length (figs_pre m r)
    rw [List.length_append] at this
    show i + (figs m r).length + (r.drop (figs m r).length).length = n
    omega
theorem head_one {c : Nat} {r : Tx} (h : decide (r.head? = some c) = true) : (r.drop 1).length + 1 = r.length := by
  have h := of_decide_eq_true h
  cases r with
  | nil => cases h
  | cons a r => rfl
theorem bd_pQ {i : Nat} {r : Tx} {n : Nat} (h : i + r.length = n) : Bd (pQ i r) n := by
  have b1 : Bd (pF 30 (i + (if isMinus r = true then 1 else 0)) (r.drop (if isMinus r = true then 1 else 0))) n := by
    refine bd_pF ?_
    split
    · rename_i c
      have := head_one c
      omega
    · simpa using h
  unfold pQ
  cases h1 : pF 30 (i + (if isMinus r = true then 1 else 0)) (r.drop (if isMinus r = true then 1 else 0)) with
  | error p => rw [h1] at b1; exact b1
  | ok y =>
    obtain ⟨m, i2, r2⟩ := y
    rw [h1] at b1
    have b1 : i2 + r2.length = n := b1
    show Bd (if isStroke r2 = true then _ else _) n
    split
    · rename_i c
      have := head_one c
      have b2 := bd_pF (m := 30) (i := i2 + 1) (r := r2.drop 1) (n := n) (by omega)
      cases h2 : pF 30 (i2 + 1) (r2.drop 1) with
      | error p => rw [h2] at b2; exact b2
      | ok y => obtain ⟨d, i3, r3⟩ := y; rw [h2] at b2; exact b2
    · exact b1
theorem bd_two {n k : Nat} {pa : Nat → Tx → RD Amt} {mk : Amt → Amt → Amt} (hp : ∀ i r, i + r.length = n → Bd (pa i r) n) {i : Nat} {r : Tx} (h : i + r.length = n) : Bd (two k pa mk i r) n :=
  bd_andL (bd_pL h) fun i r h => bd_andT (hp i r h) fun a i r h => bd_andL (bd_pL h) fun i r h => bd_andT (hp i r h) fun b i r h => bd_andL (bd_pL h) fun i r h => h
theorem bd_pA {n : Nat} : ∀ (k : Nat) (i : Nat) (r : Tx), i + r.length = n → Bd (pA k i r) n
  | 0, i, r, h => by show i ≤ n; omega
  | k + 1, i, r, h => by
    unfold pA
    split
    · exact bd_andT (bd_pF h) fun ds i r h => h
    · split
      · rename_i c
        have := head_one c
        exact bd_andT (bd_pA k _ _ (by omega)) fun a i r h => bd_andT (bd_pM h) fun m i r h => bd_andT (bd_pA k i r h) fun b i r h => bd_andL (bd_pL h) fun i r h => h
      · refine bd_andT (bd_pW h) fun w i r h => ?_
        cases w <;> first | exact h | exact bd_two (bd_pA k) h
theorem bd_pS {n k i : Nat} {r : Tx} (h : i + r.length = n) : Bd (pS k i r) n :=
  bd_andT (bd_pA k i r h) fun a i r h => bd_andT (bd_pM h) fun m i r h => bd_andT (bd_pA k i r h) fun b i r h => h
theorem bd_arg2 {α : Type} {n : Nat} {px : Nat → Tx → RD α} {pd : Nat → Tx → RD Deal} {mk : α → Deal → Deal} (hx : ∀ i r, i + r.length = n → Bd (px i r) n) (hd : ∀ i r, i + r.length = n → Bd (pd i r) n) {i : Nat} {r : Tx} (h : i + r.length = n) : Bd (arg2 px pd mk i r) n :=
  bd_andL (bd_pL h) fun i r h => bd_andT (hx i r h) fun a i r h => bd_andL (bd_pL h) fun i r h => bd_andT (hd i r h) fun b i r h => bd_andL (bd_pL h) fun i r h => h
theorem bd_arg1 {α : Type} {n : Nat} {px : Nat → Tx → RD α} {mk : α → Deal} (hx : ∀ i r, i + r.length = n → Bd (px i r) n) {i : Nat} {r : Tx} (h : i + r.length = n) : Bd (arg1 px mk i r) n :=
  bd_andL (bd_pL h) fun i r h => bd_andT (hx i r h) fun a i r h => bd_andL (bd_pL h) fun i r h => h
theorem bd_pD {n : Nat} : ∀ (k : Nat) (i : Nat) (r : Tx), i + r.length = n → Bd (pD k i r) n
  | 0, i, r, h => by show i ≤ n; omega
  | k + 1, i, r, h => by
    unfold pD
    refine bd_andT (bd_pW h) fun w i r h => ?_
    cases w <;> first
      | exact h
      | exact bd_arg1 (bd_pA k) h
      | exact bd_arg1 (bd_pD k) h
      | exact bd_arg2 (bd_pD k) (bd_pD k) h
      | exact bd_arg2 (fun i r h => bd_pF h) (bd_pD k) h
      | exact bd_arg2 (fun i r h => bd_pS h) (bd_pD k) h
      | exact bd_arg2 (bd_pA k) (bd_pD k) h
      | exact bd_arg2 (fun i r h => bd_pQ h) (bd_pD k) h
end K06
end Sec_P13
section Sec_P6
set_option Elab.async false
set_option maxHeartbeats 4000000
set_option maxRecDepth 100000
set_option linter.all false
namespace K06
open PySem
/-! ### splitting at the top level -/
def stp1 (n : Int) (c : Nat) : Int := n + (if c = 40 then 1 else 0) - (if c = 41 then 1 else 0)
def nst : Int → Tx → Int
  | n, [] => n
  | n, c :: t => nst (stp1 n c) t
/-- no sign h where the nest is closed -/
def okZ (h : Nat) : Int → Tx → Prop
  | _, [] => True
  | n, c :: t => (stp1 n c = 0 → c ≠ h) ∧ okZ h (stp1 n c) t
/-- the parts: the nest, how many signs to pass over, what follows, the part so far -/
def spl (m : Tx) : Int → Nat → Tx → Tx → List Tx
  | _, _, [], cur => [cur]
  | n, k + 1, _ :: r, cur => spl m n k r cur
  | n, 0, c :: r, cur => if stp1 n c = 0 ∧ pre m (c :: r) = true then cur :: spl m (stp1 n c) (m.length - 1) r [] else spl m (stp1 n c) 0 r (cur ++ [c])
theorem nst_app : ∀ (a b : Tx) (n : Int), nst n (a ++ b) = nst (nst n a) b
  | [], _, _ => rfl
  | c :: a, b, n => nst_app a b (stp1 n c)
theorem okZ_app {h : Nat} : ∀ {a b : Tx} {n : Int}, okZ h n a → okZ h (nst n a) b → okZ h n (a ++ b)
  | [], _, _, _, hb => hb
  | c :: a, b, n, ha, hb => ⟨ha.1, okZ_app ha.2 hb⟩
theorem spl_thru {h : Nat} {m : Tx} : ∀ {t : Tx} {n : Int} {r cur : Tx}, okZ h n t → spl (h :: m) n 0 (t ++ r) cur = spl (h :: m) (nst n t) 0 r (cur ++ t)
  | [], n, r, cur, _ => by simp [nst]
  | c :: t, n, r, cur, ok => by
    have no : ¬ (stp1 n c = 0 ∧ pre (h :: m) (c :: (t ++ r)) = true) := fun ⟨h1, h2⟩ => by
      simp only [pre, Bool.and_eq_true, decide_eq_true_eq] at h2
      exact ok.1 h1 h2.1.symm
    show (if stp1 n c = 0 ∧ pre (h :: m) (c :: (t ++ r)) = true then _ else spl (h :: m) (stp1 n c) 0 (t ++ r) (cur ++ [c])) = _
    rw [if_neg no, spl_thru ok.2]
    show spl (h :: m) (nst (stp1 n c) t) 0 r (cur ++ [c] ++ t) = spl (h :: m) (nst (stp1 n c) t) 0 r (cur ++ c :: t)
    rw [List.append_assoc]
    rfl
theorem spl_skip {m : Tx} : ∀ (t r cur : Tx) (n : Int), spl m n t.length (t ++ r) cur = spl m n 0 r cur
  | [], _, _, _ => rfl
  | c :: t, r, cur, n => spl_skip t r cur n
theorem spl_mark {h : Nat} {m r cur : Tx} (h40 : h ≠ 40) (h41 : h ≠ 41) : spl (h :: m) 0 0 (h :: m ++ r) cur = cur :: spl (h :: m) 0 0 r [] := by
  have e : stp1 0 h = 0 := by unfold stp1; rw [if_neg h40, if_neg h41]; rfl
  show (if stp1 0 h = 0 ∧ pre (h :: m) (h :: (m ++ r)) = true then cur :: spl (h :: m) (stp1 0 h) ((h :: m).length - 1) (m ++ r) [] else _) = _
  rw [if_pos ⟨e, pre_self (h :: m) r⟩, e]
  congr 1
  exact spl_skip m r [] 0
theorem spl_no {m r cur : Tx} {c : Nat} (h40 : c ≠ 40) (h41 : c ≠ 41) (h : ¬ pre m (c :: r) = true) : spl m 0 0 (c :: r) cur = spl m 0 0 r (cur ++ [c]) := by
  have e : stp1 0 c = 0 := by unfold stp1; rw [if_neg h40, if_neg h41]; rfl
  show (if stp1 0 c = 0 ∧ pre m (c :: r) = true then _ else spl m (stp1 0 c) 0 r (cur ++ [c])) = _
  rw [if_neg (fun z => h z.2), e]
theorem spl_end {m cur : Tx} {n : Int} : spl m n 0 [] cur = [cur] := by cases m <;> rfl
/-- plain signs: no brackets, not h -/
def Pln (h : Nat) (t : Tx) : Prop := ∀ c ∈ t, c ≠ 40 ∧ c ≠ 41 ∧ c ≠ h
theorem Pln.ok {h : Nat} : ∀ {t : Tx} {n : Int}, Pln h t → okZ h n t ∧ nst n t = n
  | [], n, _ => ⟨trivial, rfl⟩
  | c :: t, n, p => by
    have pc := p c List.mem_cons_self
    have e : stp1 n c = n := by unfold stp1; rw [if_neg pc.1, if_neg pc.2.1]; omega
    have ih := Pln.ok (t := t) (n := n) fun d hd => p d (List.mem_cons_of_mem _ hd)
    show ((stp1 n c = 0 → c ≠ h) ∧ okZ h (stp1 n c) t) ∧ nst (stp1 n c) t = n
    rw [e]
    exact ⟨⟨fun _ => pc.2.2, ih.1⟩, ih.2⟩
/-- a text that closes what it opens, fit for splitting at h -/
def Fit (h : Nat) (t : Tx) : Prop := ∀ n : Int, 0 ≤ n → okZ h n t ∧ nst n t = n
theorem Pln.fit {h : Nat} {t : Tx} (p : Pln h t) : Fit h t := fun n _ => p.ok
theorem Fit.app {h : Nat} {a b : Tx} (x : Fit h a) (y : Fit h b) : Fit h (a ++ b) := fun n hn => by
  have p := x n hn
  have q := y n hn
  exact ⟨okZ_app p.1 (by rw [p.2]; exact q.1), by rw [nst_app, p.2]; exact q.2⟩
/-- within brackets anything that is well nested -/
def Nst (t : Tx) : Prop := ∀ n : Int, 1 ≤ n → (∀ h, okZ h n t) ∧ nst n t = n
theorem Fit.nst {h : Nat} {t : Tx} (x : ∀ h, h = 44 ∨ h = 32 → Fit h t) : True := trivial
theorem nst_plain : ∀ {t : Tx}, (∀ c ∈ t, c ≠ 40 ∧ c ≠ 41) → Nst t
  | [], _ => fun n _ => ⟨fun _ => trivial, rfl⟩
  | c :: t, p => fun n hn => by
    have pc := p c List.mem_cons_self
    have e : stp1 n c = n := by unfold stp1; rw [if_neg pc.1, if_neg pc.2]; omega
    have ih := nst_plain (t := t) (fun d hd => p d (List.mem_cons_of_mem _ hd)) n hn
    refine ⟨fun h => ?_, ?_⟩
    · show (stp1 n c = 0 → c ≠ h) ∧ okZ h (stp1 n c) t
      rw [e]
      exact ⟨fun z => by omega, ih.1 h⟩
    · show nst (stp1 n c) t = n
      rw [e]; exact ih.2
theorem Nst.app {a b : Tx} (x : Nst a) (y : Nst b) : Nst (a ++ b) := fun n hn => by
  have p := x n hn
  have q := y n hn
  exact ⟨fun h => okZ_app (p.1 h) (by rw [p.2]; exact q.1 h), by rw [nst_app, p.2]; exact q.2⟩
/-- ( .. ) -/
theorem Nst.fit {h : Nat} {t : Tx} (x : Nst t) (hh : h ≠ 41) : Fit h (tOpen ++ (t ++ tClose)) := fun n hn => by
  have e1 : stp1 n 40 = n + 1 := by unfold stp1; rw [if_pos rfl, if_neg (by decide)]; omega
  have e2 : stp1 (n + 1) 41 = n := by unfold stp1; rw [if_neg (by decide), if_pos rfl]; omega
  have p := x (n + 1) (by omega)
  refine ⟨?_, ?_⟩
  · show (stp1 n 40 = 0 → 40 ≠ h) ∧ okZ h (stp1 n 40) (t ++ tClose)
    rw [e1]
    refine ⟨fun z => by omega, okZ_app (p.1 h) ?_⟩
    rw [p.2]
    show (stp1 (n + 1) 41 = 0 → 41 ≠ h) ∧ okZ h (stp1 (n + 1) 41) []
    exact ⟨fun _ e => hh e.symm, trivial⟩
  · show nst (stp1 n 40) (t ++ tClose) = n
    rw [e1, nst_app, p.2]
    show stp1 (n + 1) 41 = n
    exact e2
theorem Nst.br {t : Tx} (x : Nst t) : Nst (tOpen ++ (t ++ tClose)) := fun n hn => by
  have e1 : stp1 n 40 = n + 1 := by unfold stp1; rw [if_pos rfl, if_neg (by decide)]; omega
  have e2 : stp1 (n + 1) 41 = n := by unfold stp1; rw [if_neg (by decide), if_pos rfl]; omega
  have p := x (n + 1) (by omega)
  refine ⟨fun h => ?_, ?_⟩
  · show (stp1 n 40 = 0 → 40 ≠ h) ∧ okZ h (stp1 n 40) (t ++ tClose)
    rw [e1]
    refine ⟨fun z => by omega, okZ_app (p.1 h) ?_⟩
    rw [p.2]
    show (stp1 (n + 1) 41 = 0 → 41 ≠ h) ∧ okZ h (stp1 (n + 1) 41) []
    rw [e2]
    exact ⟨fun z => by omega, trivial⟩
  · show nst (stp1 n 40) (t ++ tClose) = n
    rw [e1, nst_app, p.2]
    exact e2
theorem word_plain (w : Word) : ∀ c ∈ w.tx, 97 ≤ c := by cases w <;> decide
theorem mark_plain (k : Mk) : ∀ c ∈ k.tx, c ≠ 40 ∧ c ≠ 41 ∧ c ≠ 44 := by cases k <;> decide
theorem Canon.pl {m : Nat} {ds : Tx} (h : Canon m ds) : ∀ c ∈ ds, 48 ≤ c ∧ c ≤ 57 := fun c hc => by
  have := h.2.2.1 c hc
  unfold K06.digit at this
  simp only [Bool.and_eq_true, decide_eq_true_eq] at this
  exact this
theorem comma_nst : Nst tComma := nst_plain (by decide)
theorem Amt.nstT : ∀ {a : Amt}, a.wf → Nst a.txt
  | .num ds, w => nst_plain fun c hc => by have := w.pl c hc; omega
  | .price, _ => nst_plain fun c hc => by have := word_plain .price c hc; omega
  | .time, _ => nst_plain fun c hc => by have := word_plain .time c hc; omega
  | .most a b, w => (nst_plain fun c hc => by have := word_plain .most c hc; omega).app (by
      have := ((Amt.nstT w.1).app (comma_nst.app (Amt.nstT w.2))).br
      rwa [List.append_assoc, List.append_assoc] at this)
  | .least a b, w => (nst_plain fun c hc => by have := word_plain .least c hc; omega).app (by
      have := ((Amt.nstT w.1).app (comma_nst.app (Amt.nstT w.2))).br
      rwa [List.append_assoc, List.append_assoc] at this)
  | .pr k a b, w => by
      have := ((Amt.nstT w.2.1).app ((nst_plain fun c hc => by have := mark_plain k c hc; omega).app (Amt.nstT w.2.2)) : Nst (a.txt ++ (k.tx ++ b.txt))).br
      rwa [List.append_assoc, List.append_assoc] at this
theorem Amt.fitT {h : Nat} (hh : h = 44 ∨ h = 32) {a : Amt} (w : a.wf) : Fit h a.txt := by
  have pw : ∀ v : Word, Fit h v.tx := fun v => Pln.fit fun c hc => by have := word_plain v c hc; omega
  cases a with
  | num ds => exact Pln.fit fun c hc => by have := (show Canon 10 ds from w).pl c hc; omega
  | price => exact pw _
  | time => exact pw _
  | most a b =>
    have := ((Amt.nstT w.1).app (comma_nst.app (Amt.nstT w.2))).fit (h := h) (by omega)
    rw [List.append_assoc, List.append_assoc] at this
    exact (pw _).app this
  | least a b =>
    have := ((Amt.nstT w.1).app (comma_nst.app (Amt.nstT w.2))).fit (h := h) (by omega)
    rw [List.append_assoc, List.append_assoc] at this
    exact (pw _).app this
  | pr k a b =>
    have := ((Amt.nstT w.2.1).app ((nst_plain fun c hc => by have := mark_plain k c hc; omega).app (Amt.nstT w.2.2)) : Nst (a.txt ++ (k.tx ++ b.txt))).fit (h := h) (by omega)
    rwa [List.append_assoc, List.append_assoc] at this
theorem Sgn.nstT {s : Sgn} (w : s.wf) : Nst s.txt := (Amt.nstT w.2.1).app ((nst_plain fun c hc => by have := mark_plain s.k c hc; omega).app (Amt.nstT w.2.2))
theorem Sgn.fitT {s : Sgn} (w : s.wf) : Fit 44 s.txt := (Amt.fitT (.inl rfl) w.2.1).app ((Pln.fit fun c hc => mark_plain s.k c hc).app (Amt.fitT (.inl rfl) w.2.2))
theorem Shr.plT {q : Shr} (w : q.wf) : ∀ c ∈ q.txt, 45 ≤ c ∧ c ≤ 57 := by
  intro c hc
  unfold Shr.txt at hc
  rw [List.mem_append, List.mem_append] at hc
  rcases hc with hc | hc | hc
  · split at hc <;> simp at hc; omega
  · have := w.1.pl c hc; omega
  · cases hd : q.d with
    | none => rw [hd] at hc; cases hc
    | some e =>
      rw [hd] at hc
      rcases List.mem_cons.mp hc with hc | hc
      · omega
      · have := (w.2 e hd).pl c hc; omega
theorem Shr.fitT {q : Shr} (w : q.wf) : Fit 44 q.txt := Pln.fit fun c hc => by have := Shr.plT w c hc; omega
theorem Shr.nstT {q : Shr} (w : q.wf) : Nst q.txt := nst_plain fun c hc => by have := Shr.plT w c hc; omega
theorem nst_args {x y : Tx} (a : Nst x) (b : Nst y) : Nst (tOpen ++ (x ++ (tComma ++ (y ++ tClose)))) := by
  have := (a.app (comma_nst.app b)).br
  rwa [List.append_assoc, List.append_assoc] at this
theorem fit_args {x y : Tx} (a : Nst x) (b : Nst y) : Fit 44 (tOpen ++ (x ++ (tComma ++ (y ++ tClose)))) := by
  have := (a.app (comma_nst.app b)).fit (h := 44) (by decide)
  rwa [List.append_assoc, List.append_assoc] at this
theorem word_nst (w : Word) : Nst w.tx := nst_plain fun c hc => by have := word_plain w c hc; omega
theorem word_fit (w : Word) : Fit 44 w.tx := Pln.fit fun c hc => by have := word_plain w c hc; omega
theorem fig_nst {m : Nat} {f : Tx} (h : Canon m f) : Nst f := nst_plain fun c hc => by have := h.pl c hc; omega
theorem fig_fit {m : Nat} {f : Tx} (h : Canon m f) : Fit 44 f := Pln.fit fun c hc => by have := h.pl c hc; omega
theorem Deal.nstT : ∀ {d : Deal}, d.wf → Nst d.txt
  | .none, _ => word_nst _
  | .coin a, w => (word_nst _).app (Amt.nstT w).br
  | .one v d, w => (word_nst _).app (Deal.nstT w.2).br
  | .two v d e, w => (word_nst _).app (nst_args (Deal.nstT w.2.1) (Deal.nstT w.2.2))
  | .later f d, w => (word_nst _).app (nst_args (fig_nst w.1) (Deal.nstT w.2))
  | .when v s d, w => (word_nst _).app (nst_args (Sgn.nstT w.2.1) (Deal.nstT w.2.2))
  | .scale a d, w => (word_nst _).app (nst_args (Amt.nstT w.1) (Deal.nstT w.2))
  | .by q d, w => (word_nst _).app (nst_args (Shr.nstT w.1) (Deal.nstT w.2))
theorem Deal.fitT {d : Deal} (w : d.wf) : Fit 44 d.txt := by
  cases d with
  | none => exact word_fit _
  | coin a => exact (word_fit _).app ((Amt.nstT w).fit (by decide))
  | one v d => exact (word_fit _).app ((Deal.nstT w.2).fit (by decide))
  | two v d e => exact (word_fit _).app (fit_args (Deal.nstT w.2.1) (Deal.nstT w.2.2))
  | later f d => exact (word_fit _).app (fit_args (fig_nst w.1) (Deal.nstT w.2))
  | when v s d => exact (word_fit _).app (fit_args (Sgn.nstT w.2.1) (Deal.nstT w.2.2))
  | scale a d => exact (word_fit _).app (fit_args (Amt.nstT w.1) (Deal.nstT w.2))
  | «by» q d => exact (word_fit _).app (fit_args (Shr.nstT w.1) (Deal.nstT w.2))
/-- what the splits give -/
theorem spl_one {h : Nat} {m t : Tx} (f : Fit h t) : spl (h :: m) 0 0 t [] = [t] := by
  have e := spl_thru (h := h) (m := m) (r := []) (cur := []) (f 0 (Int.le_refl _)).1
  rw [List.append_nil] at e
  rw [e, spl_end]
  rfl
theorem spl_two {h : Nat} {m a b : Tx} (h40 : h ≠ 40) (h41 : h ≠ 41) (x : Fit h a) (y : Fit h b) : spl (h :: m) 0 0 (a ++ (h :: m ++ b)) [] = [a, b] := by
  rw [spl_thru (x 0 (Int.le_refl _)).1, (x 0 (Int.le_refl _)).2, spl_mark h40 h41, spl_one y]
  rfl
/-- another mark is no mark -/
theorem amt_head {a : Amt} (w : a.wf) : ∃ c t, a.txt = c :: t ∧ (c = 40 ∨ 48 ≤ c ∧ c ≤ 57 ∨ 97 ≤ c) := by
  cases a with
  | num ds =>
    cases ds with
    | nil => exact absurd rfl (show Canon 10 [] from w).1
    | cons c t => exact ⟨c, t, rfl, .inr (.inl ((show Canon 10 (c :: t) from w).pl c List.mem_cons_self))⟩
  | price => exact ⟨_, _, rfl, .inr (.inr (by decide))⟩
  | time => exact ⟨_, _, rfl, .inr (.inr (by decide))⟩
  | most a b => exact ⟨_, _, rfl, .inr (.inr (by decide))⟩
  | least a b => exact ⟨_, _, rfl, .inr (.inr (by decide))⟩
  | pr k a b => exact ⟨_, _, rfl, .inl rfl⟩
theorem spl_other {a b : Amt} (wa : a.wf) (wb : b.wf) {k k' : Mk} (hk : k ≠ k') : spl k'.tx 0 0 (a.txt ++ (k.tx ++ b.txt)) [] = [a.txt ++ (k.tx ++ b.txt)] := by
  obtain ⟨c0, t0, hb, hc⟩ := amt_head wb
  have fa := Amt.fitT (h := 32) (.inr rfl) wa
  have fb := Amt.fitT (h := 32) (.inr rfl) wb
  obtain ⟨m, hm⟩ : ∃ m, k'.tx = 32 :: m := by cases k' <;> exact ⟨_, rfl⟩
  have e1 : spl k'.tx 0 0 (a.txt ++ (k.tx ++ b.txt)) [] = spl k'.tx 0 0 (k.tx ++ b.txt) a.txt := by
    rw [hm, spl_thru (fa 0 (Int.le_refl _)).1, (fa 0 (Int.le_refl _)).2]; rfl
  have e2 : ∀ cur, spl k'.tx 0 0 (k.tx ++ b.txt) cur = spl k'.tx 0 0 b.txt (cur ++ k.tx) := by
    intro cur
    rw [hb]
    have sp : ∀ cur, spl k'.tx 0 0 (32 :: c0 :: t0) cur = spl k'.tx 0 0 (c0 :: t0) (cur ++ [32]) := fun cur => by
      refine spl_no (by decide) (by decide) ?_
      cases k' <;> simp [Mk.tx, pre] <;> omega
    have gen : ∀ (x : Nat) cur, x ≠ 32 → x ≠ 40 → x ≠ 41 → ∀ r, spl k'.tx 0 0 (x :: r) cur = spl k'.tx 0 0 r (cur ++ [x]) := fun x cur h32 h40 h41 r => by
      refine spl_no h40 h41 ?_
      cases k' <;> simp [Mk.tx, pre] <;> omega
    cases k with
    | plus =>
      show spl k'.tx 0 0 (32 :: 43 :: 32 :: c0 :: t0) cur = _
      rw [spl_no (by decide) (by decide) (by cases k' <;> first | exact absurd rfl hk | (simp [Mk.tx, pre]))]
      rw [gen 43 _ (by decide) (by decide) (by decide), sp]
      simp [Mk.tx]
    | minus =>
      show spl k'.tx 0 0 (32 :: 45 :: 32 :: c0 :: t0) cur = _
      rw [spl_no (by decide) (by decide) (by cases k' <;> first | exact absurd rfl hk | (simp [Mk.tx, pre]))]
      rw [gen 45 _ (by decide) (by decide) (by decide), sp]
      simp [Mk.tx]
    | times =>
      show spl k'.tx 0 0 (32 :: 42 :: 32 :: c0 :: t0) cur = _
      rw [spl_no (by decide) (by decide) (by cases k' <;> first | exact absurd rfl hk | (simp [Mk.tx, pre]))]
      rw [gen 42 _ (by decide) (by decide) (by decide), sp]
      simp [Mk.tx]
    | below =>
      show spl k'.tx 0 0 (32 :: 60 :: 32 :: c0 :: t0) cur = _
      rw [spl_no (by decide) (by decide) (by cases k' <;> first | exact absurd rfl hk | (simp [Mk.tx, pre]))]
      rw [gen 60 _ (by decide) (by decide) (by decide), sp]
      simp [Mk.tx]
    | upto =>
      show spl k'.tx 0 0 (32 :: 60 :: 61 :: 32 :: c0 :: t0) cur = _
      rw [spl_no (by decide) (by decide) (by cases k' <;> first | exact absurd rfl hk | (simp [Mk.tx, pre]))]
      rw [gen 60 _ (by decide) (by decide) (by decide), gen 61 _ (by decide) (by decide) (by decide), sp]
      simp [Mk.tx]
  rw [e1, e2]
  have e3 := spl_thru (h := 32) (m := m) (r := []) (cur := a.txt ++ k.tx) (fb 0 (Int.le_refl _)).1
  rw [List.append_nil] at e3
  rw [hm, e3, spl_end, List.append_assoc]
theorem spl_this {a b : Amt} (wa : a.wf) (wb : b.wf) (k : Mk) : spl k.tx 0 0 (a.txt ++ (k.tx ++ b.txt)) [] = [a.txt, b.txt] := by
  obtain ⟨m, hm⟩ : ∃ m, k.tx = 32 :: m := by cases k <;> exact ⟨_, rfl⟩
  rw [hm]
  exact spl_two (by decide) (by decide) (Amt.fitT (.inr rfl) wa) (Amt.fitT (.inr rfl) wb)
theorem spl_comma {x y : Tx} (a : Fit 44 x) (b : Fit 44 y) : spl tComma 0 0 (x ++ (tComma ++ y)) [] = [x, y] := spl_two (h := 44) (m := [32]) (by decide) (by decide) a b
theorem spl_comma1 {x : Tx} (a : Fit 44 x) : spl tComma 0 0 x [] = [x] := spl_one (h := 44) (m := [32]) a
end K06
end Sec_P6
section Sec_B0
set_option Elab.async false
set_option linter.all false
set_option maxRecDepth 100000
set_option maxHeartbeats 4000000
namespace K06
open PySem PySem.Spec PyProof.Rows L2
def top (i : Nat) : Stmt := PySem.Challenge.pw_hedgewright_k06_whole_any_text.main.body.getD i (.Pass ⟨0, 0, 0, 0⟩)
/-! ### defs by name -/
/-- a def of the text as the top leaves it -/
structure Fct (K : PySem.W.Frag) (mg : Str → Option Value) (x : Str) (st : Stmt) (ps : List Str) : Prop where
  ex : ∃ (f : Addr) (fd : FuncData), L2.Fun K x x st f fd ∧ mg x = some (.ref f) ∧ Binds K fd ps []
/-- a def that keeps a promise -/
structure Cl (P : Program) (w : World) (K : PySem.W.Frag) (mg : Str → Option Value) (base : Heap) (CX : CXT) (k : Nat) (x : Str) (sp : Sp) : Prop where
  ex : ∃ (f : Addr) (fd : FuncData) (ps : List Str), FnOk P w K mg base CX k f fd ps sp ∧ mg x = some (.ref f) ∧ PySem.W.keepIn K (.ref f) = true ∧ Binds K fd ps []
section
variable {P : Program} {w : World} {K : PySem.W.Frag} {mg : Str → Option Value} {base : Heap}
theorem Fct.cl {x : Str} {st : Stmt} {N ps : List Str} {k : Nat} {sp : Sp} (D : Fct K mg x st ps) (S : FnScope N ps (defScope st)) (len : ∀ vs H Q E, sp vs H Q E → vs.length = ps.length)
    (hbody : ∀ (f : Addr) (cdv : Value) (A : Around) (outer : List Env) (s : Shared) (H : Hp) (vs : List V) (Q : VK) (E : XK), Room k (A.deeper (envOfC x (defScope st) s.heap.objs.size f cdv)) → sp vs H Q E →
      ∃ t, PSs (cxOf CX0 P w K mg base N x (defScope st) f cdv A outer s H E).nox (defBody st) t ∧ t { nx := fun _ H' => Q .non H', rt := Q } (start N vs) H) : Cl P w K mg base CX0 (k + 1) x sp := by
  obtain ⟨f, fd, F, g, b⟩ := D.ex
  exact ⟨f, fd, ps, F.ok S len fun cdv A outer s H vs Q E hr h => hbody f cdv A outer s H vs Q E hr h, g, F.kp, b⟩
theorem Fct.clX {x : Str} {st : Stmt} {N ps : List Str} {k : Nat} {sp : Sp} (D : Fct K mg x st ps) (S : FnScope N ps (defScope st)) (len : ∀ vs H Q E, sp vs H Q E → vs.length = ps.length)
    (hbody : ∀ (f : Addr) (cdv : Value) (A : Around) (outer : List Env) (s : Shared) (H : Hp) (vs : List V) (Q : VK) (E : XK), Room k (A.deeper (envOfC x (defScope st) s.heap.objs.size f cdv)) → sp vs H Q E →
      ∃ t, PSs (cxOf (L2.CX P w) P w K mg base N x (defScope st) f cdv A outer s H E) (defBody st) t ∧ t { nx := fun _ H' => Q .non H', rt := Q } (start N vs) H) : Cl P w K mg base (L2.CX P w) (k + 1) x sp := by
  obtain ⟨f, fd, F, g, b⟩ := D.ex
  exact ⟨f, fd, ps, F.okX S len fun cdv A outer s H vs Q E hr h => hbody f cdv A outer s H vs Q E hr h, g, F.kp, b⟩
theorem Cl.imp {CX : CXT} {x : Str} {k : Nat} {sp sp' : Sp} (c : Cl P w K mg base CX k x sp) (h : ∀ vs H Q E, sp' vs H Q E → sp vs H Q E) : Cl P w K mg base CX k x sp' := by
  obtain ⟨f, fd, ps, F, g, kp, b⟩ := c.ex
  exact ⟨f, fd, ps, F.imp h, g, kp, b⟩
/-- what nothing asks of is kept at any level -/
theorem Fct.none {CX : CXT} {x : Str} {st : Stmt} {ps : List Str} {k : Nat} {sp : Sp} (D : Fct K mg x st ps) (no : ∀ vs H Q E, ¬ sp vs H Q E) : Cl P w K mg base CX k x sp := by
  obtain ⟨f, fd, F, g, b⟩ := D.ex
  exact ⟨f, fd, ps, ⟨fun vs H Q E h => absurd h (no vs H Q E), fun A outer s H args us vs Q E _ _ _ _ h => absurd h (no vs H Q E)⟩, g, F.kp, b⟩
end
/-- f(e, ..), nothing raised -/
def tCl (sp : Sp) (t : TA) : TE := fun σ H Q => t σ H fun vs H1 => sp vs H1 Q E0
/-- f(e, ..) that may raise: W what is wanted then -/
def tClX (sp : Sp) (W : WX) (t : TA) : TE := fun σ H Q => t σ H fun vs H1 => sp vs H1 Q fun cls d H' => W cls d σ H'
section
variable {X : Cx} {j k : Nat} {x : Str} {sp : Sp} {e : Expr} {es : List Expr} {t : TA} {p pos : Pos} {W : WX}
theorem pcl (c : Cl X.prog X.w X.K X.mg X.base CX0 k x sp) (hr : Room j X.A) (hk : k ≤ j) (hg : Gl X x) (ha : PA X (e :: es) t) (hdb : (x == ("__debug__" : Str)) = false := by decide)
    (he : starEach (e :: es) X.env = (false, eval e X.env) :: starEach es X.env := by rfl) (hpl : (backTo pos (starEach es X.env)).any (·.1) = false := by rfl) : PE X (.Call (.Name x p) (e :: es) [] pos) (tCl sp t) := by
  obtain ⟨f, fd, ps, F, hm, kp, b⟩ := c.ex
  refine ⟨fun pins s σ H Q I h => ?_⟩
  refine (pe_call (p := p) (pos := pos) F (hr.mono hk) hg hm kp b .nil pass0 ha hdb he hpl).run pins s σ H Q I ?_
  show t σ H fun vs H1 => sp (vs ++ []) H1 Q E0
  simp only [List.append_nil]
  exact h
theorem pcl0 (c : Cl X.prog X.w X.K X.mg X.base CX0 k x sp) (hr : Room j X.A) (hk : k ≤ j) (hg : Gl X x) (hdb : (x == ("__debug__" : Str)) = false := by decide) : PE X (.Call (.Name x p) [] [] pos) (tCl sp tNil) := by
  obtain ⟨f, fd, ps, F, hm, kp, b⟩ := c.ex
  exact ⟨fun pins s σ H Q I h => (pe_call0 (p := p) (pos := pos) F (hr.mono hk) hg hm kp b .nil pass0 hdb).run pins s σ H Q I h⟩
theorem pclX (c : Cl X.prog X.w X.K X.mg X.base (L2.CX X.prog X.w) k x sp) (hr : Room j X.A) (hk : k ≤ j) (tk : Takes X W) (hg : Gl X x) (ha : PA X (e :: es) t) (hdb : (x == ("__debug__" : Str)) = false := by decide)
    (he : starEach (e :: es) X.env = (false, eval e X.env) :: starEach es X.env := by rfl) (hpl : (backTo pos (starEach es X.env)).any (·.1) = false := by rfl) : PE X (.Call (.Name x p) (e :: es) [] pos) (tClX sp W t) := by
  obtain ⟨f, fd, ps, F, hm, kp, b⟩ := c.ex
  exact ⟨fun pins s σ H Q I h => (pe_callS (p := p) (pos := pos) F (hr.mono hk) hg hm kp b (fun σ => passAt tk σ) ha hdb he hpl).run pins s σ H Q I h⟩
end
section
variable {X : Cx} {j k : Nat} {x : Str} {sp : Sp} {p pos : Pos} {W : WX}
theorem pcl0X (c : Cl X.prog X.w X.K X.mg X.base (L2.CX X.prog X.w) k x sp) (hr : Room j X.A) (hk : k ≤ j) (tk : Takes X W) (hg : Gl X x) (hdb : (x == ("__debug__" : Str)) = false := by decide) : PE X (.Call (.Name x p) [] [] pos) (tClX sp W tNil) := by
  obtain ⟨f, fd, ps, F, hm, kp, b⟩ := c.ex
  refine ⟨fun pins s σ H Q I h => ?_⟩
  refine wpAny_Call_Name_kw (ld_glob I hg hm ?_ hdb)
  exact PySem.W.callWith_K0 I.kIn kp (run_fnS (us := []) (E := WE W) F (hr.mono hk) b (passAt tk σ) I .nil h)
end
/-- a module's constant -/
def GlobV (mg : Str → Option Value) (x : Str) (v : V) : Prop := ∃ u, mg x = some u ∧ RelV v u
theorem pe_gc {X : Cx} {x : Str} {pos : Pos} {v : V} (hg : Gl X x) (h : GlobV X.mg x v) (hd : (x == ("__debug__" : Str)) = false := by decide) : PE X (.Name x pos) (tC v) := by
  obtain ⟨u, hm, r⟩ := h
  exact pe_glob hg hm r hd
/-! ### data of tuples -/
mutual
def Tp (H : Hp) : PyData → V → Prop
  | .none, v => v = .non
  | .bool b, v => v = .bl b
  | .int i, v => v = .int i
  | .str x, v => v = .str x
  | .tuple ds, v => ∃ a xs, v = .ref a ∧ H a = some (.tup xs) ∧ TpL H ds xs
  | .list _, _ => False
  | .dict _, _ => False
def TpL (H : Hp) : List PyData → List V → Prop
  | [], xs => xs = []
  | d :: ds, xs => ∃ v vs, xs = v :: vs ∧ Tp H d v ∧ TpL H ds vs
end
/-- the tuples stay -/
def Tups (H H' : Hp) : Prop := ∀ a xs, H a = some (.tup xs) → H' a = some (.tup xs)
theorem Tups.refl (H : Hp) : Tups H H := fun _ _ h => h
theorem Tups.trans {H H1 H2 : Hp} (a : Tups H H1) (b : Tups H1 H2) : Tups H H2 := fun c o h => b c o (a c o h)
theorem Tups.new {H : Hp} {p : Addr} {o : HO} (h : H p = none) : Tups H (upd H p o) := fun b o e => by rw [upd_ne (ne_of_none e h)]; exact e
theorem Tups.upd {H : Hp} {p : Addr} {o u : HO} (h : H p = some u) (n : ∀ xs, u ≠ .tup xs) : Tups H (upd H p o) := fun b xs e => by
  have : b ≠ p := fun z => by rw [z, h] at e; cases e; exact n xs rfl
  rw [upd_ne this]; exact e
end K06
namespace L2
open PySem
theorem Same.tups {H H' : Hp} (s : Same H H') : K06.Tups H H' := fun a xs h => s a _ h
theorem Same.new {H : Hp} {p : Addr} {o : HO} (h : H p = Option.none) : Same H (upd H p o) := fun b u e => by rw [upd_ne (ne_of_none e h)]; exact e
end L2
namespace K06
open PySem PySem.Spec PyProof.Rows L2
mutual
theorem Tp.up {H H' : Hp} (s : Tups H H') : ∀ {d : PyData} {v : V}, Tp H d v → Tp H' d v
  | .none, _, h => h
  | .bool _, _, h => h
  | .int _, _, h => h
  | .str _, _, h => h
  | .tuple ds, v, h => by
    obtain ⟨a, xs, rfl, e, r⟩ := h
    exact ⟨a, xs, rfl, s a xs e, TpL.up s r⟩
  | .list _, _, h => h.elim
  | .dict _, _, h => h.elim
theorem TpL.up {H H' : Hp} (s : Tups H H') : ∀ {ds : List PyData} {xs : List V}, TpL H ds xs → TpL H' ds xs
  | [], _, h => h
  | _ :: _, _, h => by
    obtain ⟨v, vs, rfl, a, b⟩ := h
    exact ⟨v, vs, rfl, Tp.up s a, TpL.up s b⟩
end
theorem TpL.length {H : Hp} : ∀ {ds : List PyData} {xs : List V}, TpL H ds xs → xs.length = ds.length
  | [], _, h => by rw [show _ = [] from h]; rfl
  | _ :: _, _, h => by
    obtain ⟨v, vs, rfl, _, b⟩ := h
    rw [List.length_cons, TpL.length b, List.length_cons]
theorem TpL.app {H : Hp} : ∀ {ds es : List PyData} {xs ys : List V}, TpL H ds xs → TpL H es ys → TpL H (ds ++ es) (xs ++ ys)
  | [], _, _, _, h, q => by rw [show _ = [] from h]; exact q
  | _ :: _, _, _, _, h, q => by
    obtain ⟨v, vs, rfl, a, b⟩ := h
    exact ⟨v, vs ++ _, rfl, a, TpL.app b q⟩
theorem TpL.drop {H : Hp} : ∀ {ds : List PyData} {xs : List V} (n : Nat), TpL H ds xs → TpL H (ds.drop n) (xs.drop n)
  | _, _, 0, h => h
  | [], _, n + 1, h => by rw [show _ = [] from h]; exact rfl
  | _ :: _, _, n + 1, h => by
    obtain ⟨v, vs, rfl, a, b⟩ := h
    exact TpL.drop n b
theorem TpL.take {H : Hp} : ∀ {ds : List PyData} {xs : List V} (n : Nat), TpL H ds xs → TpL H (ds.take n) (xs.take n)
  | _, _, 0, h => by simp [TpL]
  | [], _, n + 1, h => by rw [show _ = [] from h]; exact rfl
  | _ :: _, _, n + 1, h => by
    obtain ⟨v, vs, rfl, a, b⟩ := h
    exact ⟨v, vs.take n, rfl, a, TpL.take n b⟩
theorem TpL.rev {H : Hp} : ∀ {ds : List PyData} {xs : List V}, TpL H ds xs → TpL H ds.reverse xs.reverse
  | [], _, h => by rw [show _ = [] from h]; exact rfl
  | d :: ds, _, h => by
    obtain ⟨v, vs, rfl, a, b⟩ := h
    rw [List.reverse_cons, List.reverse_cons]
    exact TpL.app (TpL.rev b) ⟨v, [], rfl, a, rfl⟩
/-- the type's name -/
def tyN : PyData → String
  | .none => "NoneType"
  | .bool _ => "bool"
  | .int _ => "int"
  | .str _ => "str"
  | .tuple _ => "tuple"
  | .list _ => "list"
  | .dict _ => "dict"
theorem Tp.ty {K : PySem.W.Frag} {H : Hp} : ∀ {d : PyData} {v : V}, Tp H d v → TyX K H v (.type (tyN d))
  | .none, _, h => by cases h; exact .base .non
  | .bool b, _, h => by cases h; exact .base (.bl b)
  | .int i, _, h => by cases h; exact .base (.int i)
  | .str x, _, h => by cases h; exact .base (.str x)
  | .tuple ds, v, h => by
    obtain ⟨a, xs, rfl, e, r⟩ := h
    exact .base (.tup e)
  | .list _, _, h => h.elim
  | .dict _, _, h => h.elim
/-- isinstance(x, T), T a built-in class -/
theorem isi {K : PySem.W.Frag} {H : Hp} {v : V} {n T : String} {b : Bool} {Q : VK} (h : TyX K H v (.type n)) (e : kitB n T = some b) (q : Q (.bl b) H) : rIsi K [v, .ty T] H Q :=
  ⟨v, .ty T, _, _, b, rfl, .ty T, h, kit_ty e, q⟩
end K06
end Sec_B0
section Sec_B1
set_option Elab.async false
set_option linter.all false
set_option maxRecDepth 100000
set_option maxHeartbeats 4000000
namespace K06
open PySem PySem.Spec PyProof.Rows L2
abbrev s_is_whole : Stmt := top 3
abbrev N_is_whole : List Str := ["thing"]
theorem sc_is_whole : FnScope N_is_whole ["thing"] (defScope s_is_whole) := ⟨rfl, rfl, rfl, by decide +kernel, rfl, by decide +kernel, by decide +kernel⟩
abbrev s_is_among : Stmt := top 4
abbrev N_is_among : List Str := ["thing", "least", "most"]
theorem sc_is_among : FnScope N_is_among ["thing", "least", "most"] (defScope s_is_among) := ⟨rfl, rfl, rfl, by decide +kernel, rfl, by decide +kernel, by decide +kernel⟩
abbrev s_common : Stmt := top 5
abbrev N_common : List Str := ["a", "b"]
theorem sc_common : FnScope N_common ["a", "b"] (defScope s_common) := ⟨rfl, rfl, rfl, by decide +kernel, rfl, by decide +kernel, by decide +kernel⟩
abbrev s_is_share : Stmt := top 6
abbrev N_is_share : List Str := ["thing"]
theorem sc_is_share : FnScope N_is_share ["thing"] (defScope s_is_share) := ⟨rfl, rfl, rfl, by decide +kernel, rfl, by decide +kernel, by decide +kernel⟩
abbrev s_number_of : Stmt := top 7
abbrev N_number_of : List Str := ["text", "sign"]
theorem sc_number_of : FnScope N_number_of ["text"] (defScope s_number_of) := ⟨rfl, rfl, rfl, by decide +kernel, rfl, by decide +kernel, by decide +kernel⟩
abbrev s_share_of : Stmt := top 8
abbrev N_share_of : List Str := ["text", "above", "stroke", "below", "n", "d"]
theorem sc_share_of : FnScope N_share_of ["text"] (defScope s_share_of) := ⟨rfl, rfl, rfl, by decide +kernel, rfl, by decide +kernel, by decide +kernel⟩
abbrev s_BadText___init__ : Stmt := inClass (top 13) 0
abbrev N_BadText___init__ : List Str := ["self", "at"]
theorem sc_BadText___init__ : FnScope N_BadText___init__ ["self", "at"] (defScope s_BadText___init__) := ⟨rfl, rfl, rfl, by decide +kernel, rfl, by decide +kernel, by decide +kernel⟩
abbrev s_has_kind : Stmt := top 19
abbrev N_has_kind : List Str := ["thing", "kinds", "long"]
theorem sc_has_kind : FnScope N_has_kind ["thing", "kinds", "long"] (defScope s_has_kind) := ⟨rfl, rfl, rfl, by decide +kernel, rfl, by decide +kernel, by decide +kernel⟩
abbrev s_amount_parts : Stmt := top 20
abbrev N_amount_parts : List Str := ["thing", "most", "one", "other"]
theorem sc_amount_parts : FnScope N_amount_parts ["thing", "most"] (defScope s_amount_parts) := ⟨rfl, rfl, rfl, by decide +kernel, rfl, by decide +kernel, by decide +kernel⟩
abbrev s_sign_parts : Stmt := top 21
abbrev N_sign_parts : List Str := ["thing", "one", "other"]
theorem sc_sign_parts : FnScope N_sign_parts ["thing"] (defScope s_sign_parts) := ⟨rfl, rfl, rfl, by decide +kernel, rfl, by decide +kernel, by decide +kernel⟩
abbrev s_refuse : Stmt := top 30
abbrev N_refuse : List Str := []
theorem sc_refuse : FnScope N_refuse [] (defScope s_refuse) := ⟨rfl, rfl, rfl, by decide +kernel, rfl, by decide +kernel, by decide +kernel⟩
abbrev s_need_parts : Stmt := top 31
abbrev N_need_parts : List Str := ["many"]
theorem sc_need_parts : FnScope N_need_parts ["many"] (defScope s_need_parts) := ⟨rfl, rfl, rfl, by decide +kernel, rfl, by decide +kernel, by decide +kernel⟩
abbrev s_is_small : Stmt := top 32
abbrev N_is_small : List Str := ["thing"]
theorem sc_is_small : FnScope N_is_small ["thing"] (defScope s_is_small) := ⟨rfl, rfl, rfl, by decide +kernel, rfl, by decide +kernel, by decide +kernel⟩
abbrev s_own_parts : Stmt := top 33
abbrev N_own_parts : List Str := ["deal"]
theorem sc_own_parts : FnScope N_own_parts ["deal"] (defScope s_own_parts) := ⟨rfl, rfl, rfl, by decide +kernel, rfl, by decide +kernel, by decide +kernel⟩
abbrev s_need_within : Stmt := top 34
abbrev N_need_within : List Str := ["deal", "deep", "scales", "many", "inner", "one"]
theorem sc_need_within : FnScope N_need_within ["deal", "deep", "scales"] (defScope s_need_within) := ⟨rfl, rfl, rfl, by decide +kernel, rfl, by decide +kernel, by decide +kernel⟩
abbrev s_count_of : Stmt := top 35
abbrev N_count_of : List Str := ["deal", "kinds", "found", "part"]
theorem sc_count_of : FnScope N_count_of ["deal", "kinds"] (defScope s_count_of) := ⟨rfl, rfl, rfl, by decide +kernel, rfl, by decide +kernel, by decide +kernel⟩
abbrev s_choosers : Stmt := top 36
abbrev N_choosers : List Str := ["deal"]
theorem sc_choosers : FnScope N_choosers ["deal"] (defScope s_choosers) := ⟨rfl, rfl, rfl, by decide +kernel, rfl, by decide +kernel, by decide +kernel⟩
abbrev s_need_deal : Stmt := top 37
abbrev N_need_deal : List Str := ["deal"]
theorem sc_need_deal : FnScope N_need_deal ["deal"] (defScope s_need_deal) := ⟨rfl, rfl, rfl, by decide +kernel, rfl, by decide +kernel, by decide +kernel⟩
abbrev s_Reading___init__ : Stmt := inClass (top 43) 0
abbrev N_Reading___init__ : List Str := ["self", "text"]
theorem sc_Reading___init__ : FnScope N_Reading___init__ ["self", "text"] (defScope s_Reading___init__) := ⟨rfl, rfl, rfl, by decide +kernel, rfl, by decide +kernel, by decide +kernel⟩
abbrev s_Reading_refuse_sign : Stmt := inClass (top 43) 1
abbrev N_Reading_refuse_sign : List Str := ["self"]
theorem sc_Reading_refuse_sign : FnScope N_Reading_refuse_sign ["self"] (defScope s_Reading_refuse_sign) := ⟨rfl, rfl, rfl, by decide +kernel, rfl, by decide +kernel, by decide +kernel⟩
abbrev s_Reading_next_sign : Stmt := inClass (top 43) 2
abbrev N_Reading_next_sign : List Str := ["self"]
theorem sc_Reading_next_sign : FnScope N_Reading_next_sign ["self"] (defScope s_Reading_next_sign) := ⟨rfl, rfl, rfl, by decide +kernel, rfl, by decide +kernel, by decide +kernel⟩
abbrev s_Reading_take_text : Stmt := inClass (top 43) 3
abbrev N_Reading_take_text : List Str := ["self", "text", "sign"]
theorem sc_Reading_take_text : FnScope N_Reading_take_text ["self", "text"] (defScope s_Reading_take_text) := ⟨rfl, rfl, rfl, by decide +kernel, rfl, by decide +kernel, by decide +kernel⟩
abbrev s_Reading_take_word : Stmt := inClass (top 43) 4
abbrev N_Reading_take_word : List Str := ["self", "words", "first", "longer", "word"]
theorem sc_Reading_take_word : FnScope N_Reading_take_word ["self", "words"] (defScope s_Reading_take_word) := ⟨rfl, rfl, rfl, by decide +kernel, rfl, by decide +kernel, by decide +kernel⟩
abbrev s_Reading_take_figures : Stmt := inClass (top 43) 5
abbrev N_Reading_take_figures : List Str := ["self", "most", "first"]
theorem sc_Reading_take_figures : FnScope N_Reading_take_figures ["self", "most"] (defScope s_Reading_take_figures) := ⟨rfl, rfl, rfl, by decide +kernel, rfl, by decide +kernel, by decide +kernel⟩
abbrev s_Reading_want_form : Stmt := inClass (top 43) 6
abbrev N_Reading_want_form : List Str := ["self", "word", "kinds", "place"]
theorem sc_Reading_want_form : FnScope N_Reading_want_form ["self", "word", "kinds"] (defScope s_Reading_want_form) := ⟨rfl, rfl, rfl, by decide +kernel, rfl, by decide +kernel, by decide +kernel⟩
abbrev s_Reading_read_amount : Stmt := inClass (top 43) 7
abbrev N_Reading_read_amount : List Str := ["self", "signs", "word"]
theorem sc_Reading_read_amount : FnScope N_Reading_read_amount ["self"] (defScope s_Reading_read_amount) := ⟨rfl, rfl, rfl, by decide +kernel, rfl, by decide +kernel, by decide +kernel⟩
abbrev s_Reading_read_share : Stmt := inClass (top 43) 8
abbrev N_Reading_read_share : List Str := ["self", "first"]
theorem sc_Reading_read_share : FnScope N_Reading_read_share ["self"] (defScope s_Reading_read_share) := ⟨rfl, rfl, rfl, by decide +kernel, rfl, by decide +kernel, by decide +kernel⟩
abbrev s_Reading_read_part : Stmt := inClass (top 43) 9
abbrev N_Reading_read_part : List Str := ["self", "kind", "word"]
theorem sc_Reading_read_part : FnScope N_Reading_read_part ["self", "kind"] (defScope s_Reading_read_part) := ⟨rfl, rfl, rfl, by decide +kernel, rfl, by decide +kernel, by decide +kernel⟩
abbrev s_Reading_read_mark : Stmt := inClass (top 43) 10
abbrev N_Reading_read_mark : List Str := ["self", "kinds", "marks", "kind"]
theorem sc_Reading_read_mark : FnScope N_Reading_read_mark ["self", "kinds"] (defScope s_Reading_read_mark) := ⟨rfl, rfl, rfl, by decide +kernel, rfl, by decide +kernel, by decide +kernel⟩
abbrev s_Reading_read_next : Stmt := inClass (top 43) 11
abbrev N_Reading_read_next : List Str := ["self", "task", "other", "kind", "first", "parts"]
theorem sc_Reading_read_next : FnScope N_Reading_read_next ["self"] (defScope s_Reading_read_next) := ⟨rfl, rfl, rfl, by decide +kernel, rfl, by decide +kernel, by decide +kernel⟩
abbrev s_is_text : Stmt := top 44
abbrev N_is_text : List Str := ["thing"]
theorem sc_is_text : FnScope N_is_text ["thing"] (defScope s_is_text) := ⟨rfl, rfl, rfl, by decide +kernel, rfl, by decide +kernel, by decide +kernel⟩
abbrev s_read_deal : Stmt := top 45
abbrev N_read_deal : List Str := ["text", "reading", "deal", "good"]
theorem sc_read_deal : FnScope N_read_deal ["text"] (defScope s_read_deal) := ⟨rfl, rfl, rfl, by decide +kernel, rfl, by decide +kernel, by decide +kernel⟩
abbrev s__law_cell : Stmt := top 48
abbrev N__law_cell : List Str := ["_law_cells", "_law_spot", "_law_k", "_law_base"]
theorem sc__law_cell : FnScope N__law_cell ["_law_cells", "_law_spot"] (defScope s__law_cell) := ⟨rfl, rfl, rfl, by decide +kernel, rfl, by decide +kernel, by decide +kernel⟩
abbrev s__law_amount : Stmt := top 49
abbrev N__law_amount : List Str := ["_law_cells", "_law_spot", "_law_most", "_law_n", "_law_number", "_law_word_here", "_law_first", "_law_one"]
theorem sc__law_amount : FnScope N__law_amount ["_law_cells", "_law_spot", "_law_most"] (defScope s__law_amount) := ⟨rfl, rfl, rfl, by decide +kernel, rfl, by decide +kernel, by decide +kernel⟩
abbrev s__law_sign : Stmt := top 50
abbrev N__law_sign : List Str := ["_law_cells", "_law_spot", "_law_n", "_law_one"]
theorem sc__law_sign : FnScope N__law_sign ["_law_cells", "_law_spot"] (defScope s__law_sign) := ⟨rfl, rfl, rfl, by decide +kernel, rfl, by decide +kernel, by decide +kernel⟩
abbrev s__law_share : Stmt := top 51
abbrev N__law_share : List Str := ["_law_n", "_law_above", "_law_below", "_law_a", "_law_b"]
theorem sc__law_share : FnScope N__law_share ["_law_n"] (defScope s__law_share) := ⟨rfl, rfl, rfl, by decide +kernel, rfl, by decide +kernel, by decide +kernel⟩
abbrev s__law_deal : Stmt := top 52
abbrev N__law_deal : List Str := ["_law_cells", "_law_spot", "_law_left", "_law_deep_here", "_law_scales", "_law_n", "_law_kind", "_law_more", "_law_amount_here", "_law_one", "_law_wait", "_law_sign_here", "_law_word_here", "_law_share_by"]
theorem sc__law_deal : FnScope N__law_deal ["_law_cells", "_law_spot", "_law_left", "_law_deep_here", "_law_scales"] (defScope s__law_deal) := ⟨rfl, rfl, rfl, by decide +kernel, rfl, by decide +kernel, by decide +kernel⟩
abbrev s__law_parts : Stmt := top 53
abbrev N__law_parts : List Str := ["_law_thing", "_law_parts_here", "_law_part"]
theorem sc__law_parts : FnScope N__law_parts ["_law_thing"] (defScope s__law_parts) := ⟨rfl, rfl, rfl, by decide +kernel, rfl, by decide +kernel, by decide +kernel⟩
abbrev s__law_amount_parts : Stmt := top 54
abbrev N__law_amount_parts : List Str := ["_law_thing", "_law_good_here"]
theorem sc__law_amount_parts : FnScope N__law_amount_parts ["_law_thing"] (defScope s__law_amount_parts) := ⟨rfl, rfl, rfl, by decide +kernel, rfl, by decide +kernel, by decide +kernel⟩
abbrev s__law_head : Stmt := top 55
abbrev N__law_head : List Str := ["_law_thing", "_law_word_here", "_law_rest", "_law_parts_here", "_law_good_here", "_law_sign_here", "_law_one"]
theorem sc__law_head : FnScope N__law_head ["_law_thing"] (defScope s__law_head) := ⟨rfl, rfl, rfl, by decide +kernel, rfl, by decide +kernel, by decide +kernel⟩
abbrev s__law_long : Stmt := top 56
abbrev N__law_long : List Str := ["_law_word_here"]
theorem sc__law_long : FnScope N__law_long ["_law_word_here"] (defScope s__law_long) := ⟨rfl, rfl, rfl, by decide +kernel, rfl, by decide +kernel, by decide +kernel⟩
abbrev s__law_is_small : Stmt := top 57
abbrev N__law_is_small : List Str := ["_law_thing", "_law_part", "_law_a", "_law_b"]
theorem sc__law_is_small : FnScope N__law_is_small ["_law_thing"] (defScope s__law_is_small) := ⟨rfl, rfl, rfl, by decide +kernel, rfl, by decide +kernel, by decide +kernel⟩
abbrev s__law_good : Stmt := top 58
abbrev N__law_good : List Str := ["_law_deal_here", "_law_waits", "_law_parts_here", "_law_counts", "_law_one", "_law_deep_here", "_law_scales", "_law_more", "_law_inner", "_law_other"]
theorem sc__law_good : FnScope N__law_good ["_law_deal_here"] (defScope s__law_good) := ⟨rfl, rfl, rfl, by decide +kernel, rfl, by decide +kernel, by decide +kernel⟩
abbrev s__law_amount_text : Stmt := top 59
abbrev N__law_amount_text : List Str := ["_law_amount_here", "_law_word_here", "_law_one", "_law_other", "_law_marks"]
theorem sc__law_amount_text : FnScope N__law_amount_text ["_law_amount_here"] (defScope s__law_amount_text) := ⟨rfl, rfl, rfl, by decide +kernel, rfl, by decide +kernel, by decide +kernel⟩
abbrev s__law_deal_text : Stmt := top 60
abbrev N__law_deal_text : List Str := ["_law_deal_here", "_law_parts_here", "_law_part", "_law_mark"]
theorem sc__law_deal_text : FnScope N__law_deal_text ["_law_deal_here"] (defScope s__law_deal_text) := ⟨rfl, rfl, rfl, by decide +kernel, rfl, by decide +kernel, by decide +kernel⟩
abbrev s__law_next : Stmt := top 61
abbrev N__law_next : List Str := ["_law_pile", "_law_top", "_law_rest", "_law_more", "_law_some", "_law_text_here"]
theorem sc__law_next : FnScope N__law_next ["_law_pile"] (defScope s__law_next) := ⟨rfl, rfl, rfl, by decide +kernel, rfl, by decide +kernel, by decide +kernel⟩
abbrev s__law_figures : Stmt := top 62
abbrev N__law_figures : List Str := ["_law_text_here", "_law_at", "_law_most", "_law_behind"]
theorem sc__law_figures : FnScope N__law_figures ["_law_text_here", "_law_at", "_law_most"] (defScope s__law_figures) := ⟨rfl, rfl, rfl, by decide +kernel, rfl, by decide +kernel, by decide +kernel⟩
abbrev s__law_share_end : Stmt := top 63
abbrev N__law_share_end : List Str := ["_law_text_here", "_law_at", "_law_behind", "_law_end"]
theorem sc__law_share_end : FnScope N__law_share_end ["_law_text_here", "_law_at"] (defScope s__law_share_end) := ⟨rfl, rfl, rfl, by decide +kernel, rfl, by decide +kernel, by decide +kernel⟩
abbrev s__law_word : Stmt := top 64
abbrev N__law_word : List Str := ["_law_text_here", "_law_at", "_law_some", "_law_far", "_law_word_here", "_law_pile", "_law_long_here"]
theorem sc__law_word : FnScope N__law_word ["_law_text_here", "_law_at", "_law_some"] (defScope s__law_word) := ⟨rfl, rfl, rfl, by decide +kernel, rfl, by decide +kernel, by decide +kernel⟩
abbrev s__law_wrong : Stmt := top 65
abbrev N__law_wrong : List Str := ["_law_text_here", "_law_at", "_law_pile", "_law_top", "_law_good_here", "_law_behind", "_law_sign_here"]
theorem sc__law_wrong : FnScope N__law_wrong ["_law_text_here"] (defScope s__law_wrong) := ⟨rfl, rfl, rfl, by decide +kernel, rfl, by decide +kernel, by decide +kernel⟩
abbrev s__law_deep : Stmt := top 66
abbrev N__law_deep : List Str := ["_law_script", "_law_spot", "_law_n", "_law_text_here", "_law_k", "_law_word_here"]
theorem sc__law_deep : FnScope N__law_deep ["_law_script", "_law_spot"] (defScope s__law_deep) := ⟨rfl, rfl, rfl, by decide +kernel, rfl, by decide +kernel, by decide +kernel⟩
abbrev s__law_text : Stmt := top 67
abbrev N__law_text : List Str := ["_law_script", "_law_spot", "_law_n", "_law_text_here", "_law_left", "_law_k", "_law_more", "_law_at", "_law_sign_here", "_law_ahead"]
theorem sc__law_text : FnScope N__law_text ["_law_script", "_law_spot"] (defScope s__law_text) := ⟨rfl, rfl, rfl, by decide +kernel, rfl, by decide +kernel, by decide +kernel⟩
abbrev s__law_split : Stmt := top 68
abbrev N__law_split : List Str := ["_law_text_here", "_law_mark", "_law_parts_here", "_law_nest", "_law_at"]
theorem sc__law_split : FnScope N__law_split ["_law_text_here", "_law_mark"] (defScope s__law_split) := ⟨rfl, rfl, rfl, by decide +kernel, rfl, by decide +kernel, by decide +kernel⟩
abbrev s__law_amount_of : Stmt := top 69
abbrev N__law_amount_of : List Str := ["_law_text_here", "_law_word_here", "_law_bracket", "_law_inside", "_law_one", "_law_other", "_law_mark", "_law_parts_here"]
theorem sc__law_amount_of : FnScope N__law_amount_of ["_law_text_here"] (defScope s__law_amount_of) := ⟨rfl, rfl, rfl, by decide +kernel, rfl, by decide +kernel, by decide +kernel⟩
abbrev s__law_share_of : Stmt := top 70
abbrev N__law_share_of : List Str := ["_law_text_here", "_law_above", "_law_stroke", "_law_below"]
theorem sc__law_share_of : FnScope N__law_share_of ["_law_text_here"] (defScope s__law_share_of) := ⟨rfl, rfl, rfl, by decide +kernel, rfl, by decide +kernel, by decide +kernel⟩
abbrev s__law_deal_of : Stmt := top 71
abbrev N__law_deal_of : List Str := ["_law_text_here", "_law_word_here", "_law_bracket", "_law_inside", "_law_parts_here", "_law_deals", "_law_kind", "_law_one", "_law_other", "_law_part"]
theorem sc__law_deal_of : FnScope N__law_deal_of ["_law_text_here"] (defScope s__law_deal_of) := ⟨rfl, rfl, rfl, by decide +kernel, rfl, by decide +kernel, by decide +kernel⟩
abbrev s__law_found : Stmt := top 72
abbrev N__law_found : List Str := ["_law_thing", "_law_found_here", "_law_at", "e"]
theorem sc__law_found : FnScope N__law_found ["_law_thing"] (defScope s__law_found) := ⟨rfl, rfl, rfl, by decide +kernel, rfl, by decide +kernel, by decide +kernel⟩
abbrev s_law : Stmt := top 73
abbrev N_law : List Str := ["_law_script", "_law_spot", "_law_k", "_law_text_here", "_law_at", "_law_due", "_law_deal_here", "_law_made", "_law_odd"]
theorem sc_law : FnScope N_law ["_law_script"] (defScope s_law) := ⟨rfl, rfl, rfl, by decide +kernel, rfl, by decide +kernel, by decide +kernel⟩
/-- where the top's tuples, dicts and classes stand -/
structure Ads where
  PAIRS : Addr
  SIGNS : Addr
  MARKS : Addr
  FORMS : Addr
  NUMBERS : Addr
  Reading : Addr
  HedgeError : Addr
  BadTree : Addr
  BadDeal : Addr
  BadText : Addr
def KTup (K : PySem.W.Frag) (a : Addr) (xs : List V) : Prop := ∃ (o : Obj) (its : Array Value) (n : Nat), K.lookup a = some o ∧ o.cls = .type "tuple" ∧ o.data = .seq its n ∧ its.size ≤ sizeLine ∧ Vals xs its.toList
theorem KTup.sq {K : PySem.W.Frag} {H : Hp} {a : Addr} {xs : List V} (h : KTup K a xs) : SqT K H a xs := .inr h
structure Txt (K : PySem.W.Frag) (mg : Str → Option Value) (A : Ads) : Prop where
  z_ValueError : mg "ValueError" = none
  z_abs : mg "abs" = none
  z_any : mg "any" = none
  z_bool : mg "bool" = none
  z_int : mg "int" = none
  z_isinstance : mg "isinstance" = none
  z_len : mg "len" = none
  z_list : mg "list" = none
  z_max : mg "max" = none
  z_min : mg "min" = none
  z_range : mg "range" = none
  z_repr : mg "repr" = none
  z_str : mg "str" = none
  z_sum : mg "sum" = none
  z_tuple : mg "tuple" = none
  c_MOST_FIGURES : GlobV mg "MOST_FIGURES" (.int 400)
  c_FIGURES : GlobV mg "FIGURES" (.str "0123456789")
  c_MOST_NUMBER : GlobV mg "MOST_NUMBER" (.int 1000000000)
  c_MOST_PARTS : GlobV mg "MOST_PARTS" (.int 10)
  c_MOST_DEAL : GlobV mg "MOST_DEAL" (.int 40)
  c_MOST_DEEP : GlobV mg "MOST_DEEP" (.int 12)
  c_MOST_SCALES : GlobV mg "MOST_SCALES" (.int 3)
  c_MOST_CHOOSERS : GlobV mg "MOST_CHOOSERS" (.int 4)
  c_MOST_ANYS : GlobV mg "MOST_ANYS" (.int 2)
  c_MOST_LATER : GlobV mg "MOST_LATER" (.int 9)
  c_GREAT : GlobV mg "GREAT" (.int GR)
  c_MOST_SIGNS : GlobV mg "MOST_SIGNS" (.int 2000)
  c_PAIRS : GlobV mg "PAIRS" (.ref A.PAIRS)
  c_SIGNS : GlobV mg "SIGNS" (.ref A.SIGNS)
  c_MARKS : GlobV mg "MARKS" (.ref A.MARKS)
  c_FORMS : GlobV mg "FORMS" (.ref A.FORMS)
  c_NUMBERS : GlobV mg "NUMBERS" (.ref A.NUMBERS)
  c_Reading : GlobV mg "Reading" (.ref A.Reading)
  c_HedgeError : GlobV mg "HedgeError" (.ref A.HedgeError)
  c_BadTree : GlobV mg "BadTree" (.ref A.BadTree)
  c_BadDeal : GlobV mg "BadDeal" (.ref A.BadDeal)
  c_BadText : GlobV mg "BadText" (.ref A.BadText)
  k_PAIRS : KTup K A.PAIRS [.str "plus", .str "minus", .str "times", .str "most", .str "least"]
  k_SIGNS : KTup K A.SIGNS [.str "below", .str "upto"]
  f_is_whole : Fct K mg "is_whole" s_is_whole ["thing"]
  f_is_among : Fct K mg "is_among" s_is_among ["thing", "least", "most"]
  f_common : Fct K mg "common" s_common ["a", "b"]
  f_is_share : Fct K mg "is_share" s_is_share ["thing"]
  f_number_of : Fct K mg "number_of" s_number_of ["text"]
  f_share_of : Fct K mg "share_of" s_share_of ["text"]
  f_has_kind : Fct K mg "has_kind" s_has_kind ["thing", "kinds", "long"]
  f_amount_parts : Fct K mg "amount_parts" s_amount_parts ["thing", "most"]
  f_sign_parts : Fct K mg "sign_parts" s_sign_parts ["thing"]
  f_refuse : Fct K mg "refuse" s_refuse []
  f_need_parts : Fct K mg "need_parts" s_need_parts ["many"]
  f_is_small : Fct K mg "is_small" s_is_small ["thing"]
  f_own_parts : Fct K mg "own_parts" s_own_parts ["deal"]
  f_need_within : Fct K mg "need_within" s_need_within ["deal", "deep", "scales"]
  f_count_of : Fct K mg "count_of" s_count_of ["deal", "kinds"]
  f_choosers : Fct K mg "choosers" s_choosers ["deal"]
  f_need_deal : Fct K mg "need_deal" s_need_deal ["deal"]
  f_is_text : Fct K mg "is_text" s_is_text ["thing"]
  f_read_deal : Fct K mg "read_deal" s_read_deal ["text"]
  f__law_cell : Fct K mg "_law_cell" s__law_cell ["_law_cells", "_law_spot"]
  f__law_amount : Fct K mg "_law_amount" s__law_amount ["_law_cells", "_law_spot", "_law_most"]
  f__law_sign : Fct K mg "_law_sign" s__law_sign ["_law_cells", "_law_spot"]
  f__law_share : Fct K mg "_law_share" s__law_share ["_law_n"]
  f__law_deal : Fct K mg "_law_deal" s__law_deal ["_law_cells", "_law_spot", "_law_left", "_law_deep_here", "_law_scales"]
  f__law_parts : Fct K mg "_law_parts" s__law_parts ["_law_thing"]
  f__law_amount_parts : Fct K mg "_law_amount_parts" s__law_amount_parts ["_law_thing"]
  f__law_head : Fct K mg "_law_head" s__law_head ["_law_thing"]
  f__law_long : Fct K mg "_law_long" s__law_long ["_law_word_here"]
  f__law_is_small : Fct K mg "_law_is_small" s__law_is_small ["_law_thing"]
  f__law_good : Fct K mg "_law_good" s__law_good ["_law_deal_here"]
  f__law_amount_text : Fct K mg "_law_amount_text" s__law_amount_text ["_law_amount_here"]
  f__law_deal_text : Fct K mg "_law_deal_text" s__law_deal_text ["_law_deal_here"]
  f__law_next : Fct K mg "_law_next" s__law_next ["_law_pile"]
  f__law_figures : Fct K mg "_law_figures" s__law_figures ["_law_text_here", "_law_at", "_law_most"]
  f__law_share_end : Fct K mg "_law_share_end" s__law_share_end ["_law_text_here", "_law_at"]
  f__law_word : Fct K mg "_law_word" s__law_word ["_law_text_here", "_law_at", "_law_some"]
  f__law_wrong : Fct K mg "_law_wrong" s__law_wrong ["_law_text_here"]
  f__law_deep : Fct K mg "_law_deep" s__law_deep ["_law_script", "_law_spot"]
  f__law_text : Fct K mg "_law_text" s__law_text ["_law_script", "_law_spot"]
  f__law_split : Fct K mg "_law_split" s__law_split ["_law_text_here", "_law_mark"]
  f__law_amount_of : Fct K mg "_law_amount_of" s__law_amount_of ["_law_text_here"]
  f__law_share_of : Fct K mg "_law_share_of" s__law_share_of ["_law_text_here"]
  f__law_deal_of : Fct K mg "_law_deal_of" s__law_deal_of ["_law_text_here"]
  f__law_found : Fct K mg "_law_found" s__law_found ["_law_thing"]
  f_law : Fct K mg "law" s_law ["_law_script"]
end K06
end Sec_B1
section Sec_B2
set_option Elab.async false
set_option linter.all false
set_option maxRecDepth 100000
set_option maxHeartbeats 4000000
namespace K06
open PySem PySem.Spec PyProof.Rows L2
/-! ### short answers -/
def dInt : PyData → Bool
  | .int _ => true
  | .bool _ => true
  | _ => false
def dBool : PyData → Bool
  | .bool _ => true
  | _ => false
def dStr : PyData → Bool
  | .str _ => true
  | _ => false
def dTup : PyData → Bool
  | .tuple _ => true
  | _ => false
theorem kit_int (d : PyData) : kitB (tyN d) "int" = some (dInt d) := by
  cases d with
  | none => exact (show kitB "NoneType" "int" = some false by decide +kernel)
  | bool b => exact (show kitB "bool" "int" = some true by decide +kernel)
  | int b => exact (show kitB "int" "int" = some true by decide +kernel)
  | str b => exact (show kitB "str" "int" = some false by decide +kernel)
  | tuple b => exact (show kitB "tuple" "int" = some false by decide +kernel)
  | list b => exact (show kitB "list" "int" = some false by decide +kernel)
  | dict b => exact (show kitB "dict" "int" = some false by decide +kernel)
theorem kit_bool (d : PyData) : kitB (tyN d) "bool" = some (dBool d) := by
  cases d with
  | none => exact (show kitB "NoneType" "bool" = some false by decide +kernel)
  | bool b => exact (show kitB "bool" "bool" = some true by decide +kernel)
  | int b => exact (show kitB "int" "bool" = some false by decide +kernel)
  | str b => exact (show kitB "str" "bool" = some false by decide +kernel)
  | tuple b => exact (show kitB "tuple" "bool" = some false by decide +kernel)
  | list b => exact (show kitB "list" "bool" = some false by decide +kernel)
  | dict b => exact (show kitB "dict" "bool" = some false by decide +kernel)
theorem kit_str (d : PyData) : kitB (tyN d) "str" = some (dStr d) := by
  cases d with
  | none => exact (show kitB "NoneType" "str" = some false by decide +kernel)
  | bool b => exact (show kitB "bool" "str" = some false by decide +kernel)
  | int b => exact (show kitB "int" "str" = some false by decide +kernel)
  | str b => exact (show kitB "str" "str" = some true by decide +kernel)
  | tuple b => exact (show kitB "tuple" "str" = some false by decide +kernel)
  | list b => exact (show kitB "list" "str" = some false by decide +kernel)
  | dict b => exact (show kitB "dict" "str" = some false by decide +kernel)
theorem kit_tuple (d : PyData) : kitB (tyN d) "tuple" = some (dTup d) := by
  cases d with
  | none => exact (show kitB "NoneType" "tuple" = some false by decide +kernel)
  | bool b => exact (show kitB "bool" "tuple" = some false by decide +kernel)
  | int b => exact (show kitB "int" "tuple" = some false by decide +kernel)
  | str b => exact (show kitB "str" "tuple" = some false by decide +kernel)
  | tuple b => exact (show kitB "tuple" "tuple" = some true by decide +kernel)
  | list b => exact (show kitB "list" "tuple" = some false by decide +kernel)
  | dict b => exact (show kitB "dict" "tuple" = some false by decide +kernel)
section
variable {K : PySem.W.Frag} {H : Hp} {Q : VK} {a : Addr} {xs : List V} {v : V} {d : PyData}
theorem isi_int (h : Tp H d v) (q : Q (.bl (dInt d)) H) : rIsi K [v, .ty "int"] H Q := isi h.ty (kit_int d) q
theorem isi_bool (h : Tp H d v) (q : Q (.bl (dBool d)) H) : rIsi K [v, .ty "bool"] H Q := isi h.ty (kit_bool d) q
theorem isi_str (h : Tp H d v) (q : Q (.bl (dStr d)) H) : rIsi K [v, .ty "str"] H Q := isi h.ty (kit_str d) q
theorem isi_tuple (h : Tp H d v) (q : Q (.bl (dTup d)) H) : rIsi K [v, .ty "tuple"] H Q := isi h.ty (kit_tuple d) q
theorem ixt {i : Int} (h : H a = some (.tup xs)) (e : atI xs i = some v) (q : Q v H) : rIxT K (.ref a) (.int i) H Q := ⟨a, xs, i, v, rfl, rfl, SqT.of h, e, q⟩
theorem at0 {α : Type} {x : α} {xs : List α} : atI (x :: xs) 0 = some x := by
  have h : (0 : Int) < ((x :: xs).length : Int) := by rw [List.length_cons]; omega
  unfold atI ixN
  rw [if_pos (by decide), if_pos h]
  rfl
theorem at1 {α : Type} {x y : α} {xs : List α} : atI (x :: y :: xs) 1 = some y := by
  have h : (1 : Int) < ((x :: y :: xs).length : Int) := by rw [List.length_cons, List.length_cons]; omega
  unfold atI ixN
  rw [if_pos (by decide), if_pos h]
  rfl
theorem at2 {α : Type} {x y z : α} {xs : List α} : atI (x :: y :: z :: xs) 2 = some z := by
  have h : (2 : Int) < ((x :: y :: z :: xs).length : Int) := by rw [List.length_cons, List.length_cons, List.length_cons]; omega
  unfold atI ixN
  rw [if_pos (by decide), if_pos h]
  rfl
theorem inV_str (x : Str) (ws : List Str) : inV (.str x) (ws.map V.str) = decide (x ∈ ws) := by
  unfold inV
  induction ws with
  | nil => rfl
  | cons y ws ih =>
    rw [List.map_cons, List.any_cons, ih]
    show ((y == x) || _) = _
    by_cases h : y = x
    · subst h; simp
    · have h2 : ¬ x = y := fun z => h z.symm
      simp [h, h2]
theorem all_flat (ws : List Str) : (ws.map V.str).all flatV = true := by
  induction ws with
  | nil => rfl
  | cons y ws ih => rw [List.map_cons, List.all_cons, ih]; rfl
end
/-- a loop by a word that falls -/
theorem iteB {b : Bool} {A B : Prop} (h1 : b = true → A) (h2 : b = false → B) : if b = true then A else B := by
  cases b with
  | true => exact iteT (h1 rfl)
  | false => exact iteF (h2 rfl)
theorem itD {c : Prop} [Decidable c] {A B : Prop} (h1 : c → A) (h2 : ¬ c → B) : if decide c = true then A else B := by
  by_cases h : c
  · rw [decide_eq_true h]; exact iteT (h1 h)
  · rw [decide_eq_false h]; exact iteF (h2 h)
theorem itDN {c : Prop} [Decidable c] {A B : Prop} (h1 : ¬ c → A) (h2 : c → B) : if (!decide c) = true then A else B := by
  by_cases h : c
  · rw [decide_eq_true h]; exact iteF (h2 h)
  · rw [decide_eq_false h]; exact iteT (h1 h)
theorem small (n : Nat) (h : n ≤ 100000) : n ≤ sizeLine := Nat.le_trans h (by decide)
theorem gcd_step {x y : Int} (hx : 0 ≤ x) (hy : 0 ≤ y) : Int.gcd y (x % y) = Int.gcd x y := by
  obtain ⟨m, rfl⟩ := Int.eq_ofNat_of_zero_le hx
  obtain ⟨n, rfl⟩ := Int.eq_ofNat_of_zero_le hy
  show Nat.gcd n (m % n) = Nat.gcd m n
  rw [Nat.gcd_comm m n, Nat.gcd_rec n m, Nat.gcd_comm]
theorem gcd_zero {x : Int} (hx : 0 ≤ x) : ((Int.gcd x 0 : Nat) : Int) = x := by
  obtain ⟨m, rfl⟩ := Int.eq_ofNat_of_zero_le hx
  show ((Nat.gcd m 0 : Nat) : Int) = m
  rw [Nat.gcd_zero_right]
/-- what is behind a test whose answer is a bool that is known -/
theorem tT {b : Bool} {A B : Prop} (e : b = true) (h : A) : if b = true then A else B := by rw [e]; exact iteT h
theorem tF {b : Bool} {A B : Prop} (e : b = false) (h : B) : if b = true then A else B := by rw [e]; exact iteF h
end K06
end Sec_B2
section Sec_X1
set_option Elab.async false
set_option linter.all false
set_option maxRecDepth 100000
set_option maxHeartbeats 4000000
/-! a comprehension whose element may raise -/
namespace K06
open PySem PySem.Spec PyProof.Rows L2
/-- a heap without one address -/
theorem without (h : Heap) (C : Addr) : ∃ G : Heap, (∀ b, b ≠ C → G.get? b = h.get? b) ∧ G.get? C = none := by
  obtain ⟨G, g1, g2⟩ := restrict h fun b => decide (b ≠ C)
  exact ⟨G, fun b hb => g1 b (decide_eq_true hb), g2 C (by simp)⟩
theorem traced_but {h h' base : Heap} {e C : Addr} {Z : Obj → Prop} {fl : Value} (hC : ∃ o, h.get? C = some o ∧ ∀ vs, o.data ≠ .fields vs) (hs : ∀ b, b ≠ C → h'.get? b = h.get? b) (ht : HandSPX.TracedZ h base e Z fl) : HandSPX.TracedZ h' base e Z fl := by
  obtain ⟨o, ho, hn⟩ := hC
  obtain ⟨oe, vs, T, oT, ts, he, hz, hd, h1, hnT, hTe, hT, hdT, h3⟩ := ht
  have ne : e ≠ C := fun z => by rw [z, ho] at he; cases he; exact hn _ hd
  have nT : T ≠ C := fun z => by rw [z, ho] at hT; cases hT; exact hn _ hdT
  exact ⟨oe, vs, T, oT, ts, (hs e ne).trans he, hz, hd, h1, hnT, hTe, (hs T nT).trans hT, hdT, h3⟩
theorem traced_base {h base base' : Heap} {e : Addr} {Z : Obj → Prop} {fl : Value} (hb : ∀ b, base.get? b = none → base'.get? b = none) (ht : HandSPX.TracedZ h base e Z fl) : HandSPX.TracedZ h base' e Z fl := by
  obtain ⟨oe, vs, T, oT, ts, he, hz, hd, h1, hnT, r⟩ := ht
  exact ⟨oe, vs, T, oT, ts, he, hz, hd, h1, hb T hnT, r⟩
section
variable {X : Cx} {pins : List (Addr × Obj)} {σ : L2.St} {H3 : Hp} {s3 : Shared} {E : XK}
/-- the context of the block, with a wish about exceptions -/
abbrev blkX (X : Cx) (s : Shared) (H : Hp) (scope : Scope) (cenv : Env) (fp : List Addr) (xe : Value → Shared → Prop) : Cx := (X.blk s H scope cenv fp).wish xe
/-- an exception of a call in the block leaves the comprehension -/
theorem leaves_block {scope : Scope} {ce : Env} {fp : List Addr} {xe : Value → Shared → Prop} {Qf : Value → Shared → Prop} {D : Value} (hs : X.stack = X.env :: X.outer) (hf : X.env.frame = some X.env.locals) (tk : Takes X fun cls d _ H => E cls d H)
    (I3 : Inv X pins σ H3 s3) (f3 : ∀ b ∈ fp, FpOk X pins H3 b ∧ b < s3.heap.objs.size) (cL : ce.locals = s3.heap.objs.size) (cf : ce.frame = X.env.frame)
    {pins' : List (Addr × Obj)} {σ' : L2.St} {H : Hp} {s : Shared} (J : Inv (blkX X s3 H3 scope ce fp xe) pins' σ' H s) {E' : XK} (hE : ∀ cls d H', E' cls d H' → E cls d H') {u : Value} {s' : Shared} (c : L2.CX X.prog X.w X.stack H s E' u s') :
    notedBy (model X.prog X.w) X.A ce (fun e s' => compEnds (model X.prog X.w) X.A X.xe none Qf D ce (.error e) s') u s' := by
  obtain ⟨a, B, H', cls, d, rfl, fl, hok, ub, na, os, ag, hEE⟩ := id c
  obtain ⟨a', B1, sI, pins1, σ1, H1, cls1, d1, ea, JI, nb, up, sky, na1, os1, ag1, w1⟩ := XE.of_call (X := blkX X s3 H3 scope ce fp xe) (W := fun cls d _ H => E' cls d H) J (fun _ _ _ h => h) c
  cases ea
  -- the exception flies
  obtain ⟨m0, hn0, _⟩ := JI.loc
  have hn0 : sI.heap.Ns ce.locals m0 := hn0
  obtain ⟨oC, es, ep, hoC, hdC, rC⟩ := id hn0
  have HC : H1 ce.locals = none := JI.free
  have ex3 : ∀ b o, s3.heap.get? b = some o → b ≠ ce.locals := fun b o e => by
    rw [cL]; exact Nat.ne_of_lt (Heap.lt_size e)
  have nfC : ce.locals ∉ frs X.stack := fun hm => by
    obtain ⟨_, o, ho, _⟩ := I3.stack.mem hm
    exact ex3 _ _ ho rfl
  -- without the block's own object
  obtain ⟨G, g1, g2⟩ := without sI.heap ce.locals
  obtain ⟨B', b1, b2⟩ := without B1 ce.locals
  have gI : ∀ b o, G.get? b = some o → sI.heap.get? b = some o ∧ b ≠ ce.locals := fun b o e => by
    have ne : b ≠ ce.locals := fun z => by rw [z, g2] at e; cases e
    exact ⟨(g1 b ne).symm.trans e, ne⟩
  have bB : ∀ b o, B'.get? b = some o → B1.get? b = some o ∧ b ≠ ce.locals := fun b o e => by
    have ne : b ≠ ce.locals := fun z => by rw [z, b2] at e; cases e
    exact ⟨(b1 b ne).symm.trans e, ne⟩
  have bN : ∀ b, B1.get? b = none → B'.get? b = none := fun b e => by
    by_cases ne : b = ce.locals
    · rw [ne]; exact b2
    · rw [b1 b ne]; exact e
  have IX : Inv X pins σ H1 { sI with heap := G } := by
    refine I3.call' (ch := fp) (s' := { sI with heap := G }) JI.os ?_ ?_ JI.bare fun b hb => ⟨(f3 b hb).1.2.2.2.1, (f3 b hb).1.2.1, (f3 b hb).1.2.2.2.2.1, (f3 b hb).1.2.2.2.2.2⟩
    · have un : Un (frs X.stack) fp H3 H1 s3.heap sI.heap := JI.base
      refine ⟨fun b o e n h1 h2 => ?_, fun b o e n h1 h2 => ?_, un.free, fun b o e h => ?_, un.tups, un.frzs, un.tbls⟩
      · exact (g1 b (ex3 b o e)).trans (un.keep b o e n h1 h2)
      · obtain ⟨sl, q⟩ := un.slot b o e n h1 h2
        exact ⟨sl, (g1 b (ex3 b o e)).trans q⟩
      · obtain ⟨o', q⟩ := un.there b o e h
        exact ⟨o', (g1 b (ex3 b o e)).trans q⟩
    · intro b o e
      refine (JI.hok b o e).stay (fun c u hc q => (g1 c ?_).trans q) (fun _ q => q) fun _ _ q => q
      rintro rfl
      rcases hc with hc | hc
      · rw [hc] at HC; rw [HC] at e; cases e
      · rw [HC] at hc; cases hc
  have nbX : ∀ b o, ({ sI with heap := G } : Shared).heap.get? b = some o → b ∉ frs X.stack → B'.get? b = some o := fun b o e hb => by
    obtain ⟨e1, ne⟩ := gI b o e
    exact (b1 b ne).trans (nb b o e1 hb)
  have upG : G.UpToSlots s'.heap := fun b o e hn => up b o (gI b o e).1 hn
  have hfr : X.A.frames = some (X.env :: X.outer) := by rw [I3.ok.frames, hs]
  have fl1 : HandSPX.FlyingZ B1 (X.env :: X.outer) a (Zc cls1 d1) s'.heap := by
    have sky : Sky B1 X.stack a (Zc cls1 d1) ce.locals s'.heap := sky
    rw [hs] at sky
    obtain ⟨_, _, _, oe, vs, T, oT, ts, he, hz, hd, h1, hnT, hTe, hT, hdT, h3⟩ := fl
    rcases sky with ⟨_, _, _, oe', vs', he', _, hd', h1'⟩ | fl1 | ⟨_, _, _, oe', vs', T', oT', ts', he', _, hd', h1', _, _, hT', hdT', h3'⟩
    · rw [he] at he'; cases he'
      rw [hd] at hd'; cases hd'
      rw [h1] at h1'; cases h1'
    · exact fl1
    · rw [he] at he'; cases he'
      rw [hd] at hd'; cases hd'
      rw [h1] at h1'; cases h1'
      rw [hT] at hT'; cases hT'
      rw [hdT] at hdT'; cases hdT'
      rw [h3] at h3'
      exact absurd h3' (by simp [rawInt])
  show wpAny _ _ (noteFrame (.ref a) ce) _ _ _
  rw [noteFrame_env _ cf]
  refine HandSPX.looks_onZ Zc.steady hfr hf fl1 fun h1 hh up1 => ?_
  have upC : sI.heap.UpToSlots h1 := up.trans up1
  refine ⟨m0, hn0.upToSlots upC, fun h2 m2 hn2 hs2 => ?_⟩
  obtain ⟨k1, k2, k3, k4⟩ := hh
  have there : ∃ o, h1.get? ce.locals = some o ∧ ∀ vs, o.data ≠ .fields vs := by
    obtain ⟨sl, q⟩ := upC ce.locals oC hoC fun vs z => by rw [hdC] at z; cases z
    exact ⟨_, q, fun vs z => by have z : oC.data = .fields vs := z; rw [hdC] at z; cases z⟩
  have hh2 : HandSPX.HeldZ B' (X.env :: X.outer) a (Zc cls1 d1) X.env.locals h2 := by
    refine ⟨fun b o e => ?_, bN a k2, ?_, traced_base bN (traced_but there hs2.2 k4)⟩
    · obtain ⟨e1, ne⟩ := bB b o e
      exact (hs2.2 b ne).trans (k1 b o e1)
    · have q := Heap.FunFrames.sameBut hs2 hn2 k3
      exact funFrames_none q fun L hL => bN L (k3.mem hL).1
  unfold PySem.passOn
  obtain ⟨q1, q2, q3, oe, vs, T, oT, ts, he, hz, hd, h1v, hr⟩ := id hh2
  refine wpAny_bind (wpAny_field he hd h1v ?_)
  rw [if_neg (show ¬ ((Value.ref T == Value.none) = true) from by simp), cf, hf]
  have fin : wpAny (model X.prog X.w) X.A (setFlight (.ref a) (some X.env.locals)) (fun _ s4 => wpAny (model X.prog X.w) X.A (throw (.ref a) : Sem Value) (fun _ _ => False) X.xe s4) X.xe { s' with heap := h2 } := by
    refine HandSPX.setFlight_onZ hh2 fun h4 hh4 up4 => wpAny_throw (tk _ _ ?_)
    refine ⟨a, B', { sI with heap := G }, pins, σ, H1, cls1, d1, rfl, IX, nbX, ?_, .inr (.inr (by rw [hs]; exact hh4)), na1, os1, ag1, hE _ _ _ w1⟩
    intro b o e hn
    obtain ⟨sl1, e1⟩ := upG b o e hn
    obtain ⟨sl2, e2⟩ := up1 b _ e1 hn
    obtain ⟨sl3, e3⟩ := up4 b _ ((hs2.2 b (gI b o e).2).trans e2) hn
    exact ⟨sl3, e3⟩
  first
    | exact wpAny_bind (wpAny_pure (wpAny_bind fin))
    | exact wpAny_bind fin
end
end K06
end Sec_X1
section Sec_X2
set_option Elab.async false
set_option linter.all false
set_option maxRecDepth 100000
set_option maxHeartbeats 4000000
/-! a list comprehension whose element calls a def that may raise -/
namespace K06
open PySem PySem.Spec PyProof.Rows L2
/-- f(e, ..) that may raise, by what is shown of its exceptions -/
def tClP (sp : Sp) (E : XK) (t : TA) : TE := fun σ H Q => t σ H fun vs H1 => sp vs H1 Q E
theorem pclP {X : Cx} {j k : Nat} {x : Str} {sp : Sp} {e : Expr} {es : List Expr} {t : TA} {p pos : Pos} {E : XK} (c : Cl X.prog X.w X.K X.mg X.base (L2.CX X.prog X.w) k x sp) (hr : Room j X.A) (hk : k ≤ j)
    (hx : ∀ σ, PassesAt (L2.CX X.prog X.w) X σ E) (hg : Gl X x) (ha : PA X (e :: es) t) (hdb : (x == ("__debug__" : Str)) = false := by decide)
    (he : starEach (e :: es) X.env = (false, eval e X.env) :: starEach es X.env := by rfl) (hpl : (backTo pos (starEach es X.env)).any (·.1) = false := by rfl) : PE X (.Call (.Name x p) (e :: es) [] pos) (tClP sp E t) := by
  obtain ⟨f, fd, ps, F, hm, kp, b⟩ := c.ex
  exact ⟨fun pins s σ H Q I h => (pe_callS (p := p) (pos := pos) (E := fun _ => E) F (hr.mono hk) hg hm kp b hx ha hdb he hpl).run pins s σ H Q I h⟩
section
variable {X : Cx} {E : XK}
/-- what a block's part may be, whatever its environment -/
abbrev BlkG (X : Cx) (scope : Scope) (tg : Expr) (g : TG) : Prop := ∀ (s : Shared) (H : Hp) (C : Addr) (cl : List (Str × Addr)) (fp : List Addr), PG (X.blk s H scope (compEnvC scope cl C X.env) fp) tg g
abbrev BlkX (X : Cx) (E : XK) (scope : Scope) (elt : Expr) (te : TE) : Prop := ∀ (s : Shared) (H : Hp) (C : Addr) (cl : List (Str × Addr)) (fp : List Addr) (xe : Value → Shared → Prop),
  (∀ σ, PassesAt (L2.CX X.prog X.w) (blkX X s H scope (compEnvC scope cl C X.env) fp xe) σ E) → PE (blkX X s H scope (compEnvC scope cl C X.env) fp xe) elt te
theorem pe_lcX {elt tg iter : Expr} {scope : Scope} {own : List (Str × Nat)} {pos : Pos} {wi : TI} {g : TG} {te : TE} (hs : X.stack = X.env :: X.outer) (hf : X.env.frame = some X.env.locals) (tk : Takes X fun cls d _ H => E cls d H)
    (hc : X.calm = true) (hN : X.N.Nodup) (hi : PI X tg iter wi) (ok : BlkOk X.N X.env.scope scope own) (hg : BlkG X scope tg g) (he : BlkX X E scope elt te) (hfs : ∀ x, foldedSetIterable iter X.env x = pure x := by intro _; rfl) :
    PE X (.ListComp elt [⟨tg, iter, [], 0⟩] scope pos) (tLc wi g tYes te (own.map (·.2))) := by
  refine ⟨fun pins s σ H Q I h => ?_⟩
  rw [eval_ListComp]
  have capt : ∀ y ∈ scope.names, y.2 = .free → ∃ c, X.env.cells.lookup y.1 = some c := fun y hy z => (ok.free y hy z).elim (fun k => I.ok.has _ (.inl k)) (fun k => I.ok.has _ (.inr k))
  refine comprehension_at (use := none) rfl hfs (closure_ok capt) ok.kind (fun y hy z => (ok.uniq y hy).trans (by rw [z])) ?_
  refine thn (hi.run pins s σ H _ I h) fun xv s1 hx => thn hx fun itv s2 h2 => ?_
  obtain ⟨it, fp, tn, J, H2, rfl, I2, T, st2, f2, q⟩ := h2
  refine wpAny_newObj_type (newEnv_comp ?_) (Nat.zero_le _)
  generalize hD : s2.heap.objs.size = D
  obtain ⟨W, ⟨m0, w0⟩, turn⟩ := q D (I2.hok.fresh (Nat.le_of_eq hD))
  generalize hS : ({ s2 with heap := s2.heap.push { cls := .type "list", data := .seq ([] : List Value).toArray } } : Shared) = s3
  have heap3 : s3.heap = s2.heap.push { cls := .type "list", data := .seq ([] : List Value).toArray } := by rw [← hS]
  have grow : ∀ b o, s2.heap.get? b = some o → s3.heap.get? b = some o := fun b o e => by rw [heap3]; exact Heap.get?_push_of_some _ e
  have I3 : Inv X pins σ (upd H2 D (.lst [])) s3 := by
    rw [← hS]
    refine I2.laid (t' := s2.toks) (fun b o e => Heap.get?_push_of_some _ e) (Nat.le_of_eq hD) ⟨Nat.zero_le _, [], 0, .nil, ?_⟩
    rw [← hD]
    exact Heap.get?_push_size _ rfl
  have old : ∀ b ∈ fp, b < s2.heap.objs.size := fun b hb => by
    obtain ⟨o, e, _⟩ := T.obj _ _ st2 b hb
    exact Heap.lt_size e
  generalize hH3 : upd H2 D (.lst []) = H3 at I3 w0
  have f3 : ∀ b ∈ fp, FpOk X pins H3 b ∧ b < s3.heap.objs.size := fun b hb => by
    have lt := old b hb
    have nD : b ≠ D := by rw [← hD]; exact Nat.ne_of_lt lt
    refine ⟨⟨?_, (f2 b hb).2⟩, ?_⟩
    · rw [← hH3, upd_ne nD]; exact (f2 b hb).1
    · rw [heap3, Heap.size_push]; exact Nat.lt_succ_of_lt lt
  have st3 : tn 0 s3.heap := T.keep _ _ _ st2 fun b _ o e => grow b o e
  have I4 := block_start I3 ok hN f3
  -- the block's environment
  show codeAny _ _ (.compStart (.ListComp elt [⟨tg, iter, [], 0⟩] scope pos) 0 (.ref it) (.ref D) (compEnvC scope (cellsFrom (s3.heap.objs.size + 1) scope.names (cloFrom X.env.cells scope.names [])) s3.heap.objs.size X.env))
    (compEnds (model X.prog X.w) X.A X.xe none (EP X pins σ Q) (.ref D) (compEnvC scope (cellsFrom (s3.heap.objs.size + 1) scope.names (cloFrom X.env.cells scope.names [])) s3.heap.objs.size X.env)) { s3 with heap := pushCells (s3.heap.push { cls := .type "dict", data := .dict #[] }) scope.names }
  generalize hcl : cellsFrom (s3.heap.objs.size + 1) scope.names (cloFrom X.env.cells scope.names []) = cl at I4 ⊢
  have pg := hg s3 H3 s3.heap.objs.size cl fp
  have pe := he s3 H3 s3.heap.objs.size cl fp
  generalize hce : compEnvC scope cl s3.heap.objs.size X.env = ce at I4 pg pe ⊢
  have cL : ce.locals = s3.heap.objs.size := by rw [← hce]; rfl
  have cF : ce.frame = X.env.frame := by rw [← hce]; rfl
  generalize h4 : ({ s3 with heap := pushCells (s3.heap.push { cls := .type "dict", data := .dict #[] }) scope.names } : Shared) = s4 at I4 ⊢
  have st4 : tn 0 s4.heap := T.keep _ _ _ st3 fun b _ o e => by rw [← h4]; exact pushCells_keeps _ _ _ _ (Heap.get?_push_of_some _ e)
  generalize hR : compEnds (model X.prog X.w) X.A X.xe none (EP X pins σ Q) (.ref D) ce = R
  generalize hXE : notedBy (model X.prog X.w) X.A ce (fun e s' => R (.error e) s') = XE'
  have pe' := pe XE' fun σ' pins' H' s' e s'' IY c => by
    rw [← hXE, ← hR]
    exact leaves_block hs hf tk I3 f3 cL cF IY (fun _ _ _ h => h) c
  have fpB : ∀ {σ' : L2.St} {H' : Hp} {s' : Shared}, Inv (X.blk s3 H3 scope ce fp) [] σ' H' s' → (∀ b ∈ fp, H' b = none) → ∀ b ∈ fp, FpOk (X.blk s3 H3 scope ce fp) [] H' b := fun {σ' H' s'} I' hn b hb =>
    ⟨hn b hb, (I'.ok.exf b hb).1, I'.ok.exfs b hb, .inl hb, fun x c e => (I'.ok.exf b hb).2 x c e, fun p hp => nomatch (show p ∈ ([] : List (Addr × Obj)) from hp)⟩
  have loop : codeAny (model X.prog X.w) X.A (.compLoop (.ListComp elt [⟨tg, iter, [], 0⟩] scope pos) 0 (.ref it) (.ref D) ce) R s4 := by
    refine compLoop_any (fun n s' => ∃ i H', Inv (X.blk s3 H3 scope ce fp) [] (wipe σ (own.map (·.2))) H' s' ∧ tn i s'.heap ∧ (∀ b ∈ fp, H' b = none) ∧ W i n H') ?_ m0 ⟨0, H3, I4, st4, fun b hb => (f3 b hb).1.1, w0⟩
    rw [hXE]
    rintro n s5 ⟨i, H5, I5, st5, n5, w5⟩
    rcases turn i n H5 w5 with ⟨stop, qq⟩ | ⟨go, Nx, hNx, step⟩
    · refine thnF (T.done (X.blk s3 H3 scope ce fp) rfl rfl rfl hc i [] s5 _ H5 (fun _ _ => False) I5 (fpB I5 n5) st5 stop) fun r s6 ⟨hr, I6⟩ => ?_
      subst hr
      have I7 : Inv X pins σ H5 s6 := I3.call' (ch := fp) I6.os I6.base I6.hok I6.bare fun b hb => ⟨(f3 b hb).1.2.2.2.1, (f3 b hb).1.2.1, (f3 b hb).1.2.2.2.2.1, (f3 b hb).1.2.2.2.2.2⟩
      have nC : H5 s3.heap.objs.size = none := by rw [← cL]; exact I6.free
      obtain ⟨m, hn, _⟩ := I6.loc
      show R (.ok .next) s6
      rw [← hR]
      refine ⟨m, hn, fun h' sb => ?_⟩
      obtain ⟨z0, z1, _, z3, z4, z5⟩ := I3.fpOk (Nat.le_refl _) nC
      rw [cL] at sb
      exact ⟨.ref D, H5, I7.turned (t' := s6.toks) (fun b o hb e => (sb.2 b hb).trans e) z0 z1 z3 z4 z5, rfl, qq⟩
    · refine thnF (T.item (X.blk s3 H3 scope ce fp) rfl rfl rfl hc i [] s5 _ H5 (fun _ _ => False) I5 (fpB I5 n5) st5 go) fun r s6 ⟨u, hr, h6⟩ => ?_
      subst hr
      refine thnF h6 fun _ s7 ⟨x, H7, I7, r7, y7, st7, n7⟩ => ?_
      have P7 := I7.pinned (fpB I7 n7) (T.obj _ _ st7)
      refine thnF (pg.run _ s7 _ H7 x u _ P7 r7 (step x H7 y7)) fun _ s8 ⟨σ8, H8, I8, hw8, q8⟩ => ?_
      refine wpAny_tests_nil ?_
      rw [if_pos rfl]
      have q9 : te σ8 H8 fun y H4 => ∃ acc, H4 D = some (.lst acc) ∧ acc.length < sizeLine ∧ Nx (upd H4 D (.lst (acc ++ [y]))) := by
        have z : (if true = true then te σ8 H8 fun y H4 => ∃ acc, H4 D = some (.lst acc) ∧ acc.length < sizeLine ∧ Nx (upd H4 D (.lst (acc ++ [y]))) else Nx H8) := q8
        rw [if_pos rfl] at z
        exact z
      refine thn (pe'.run _ s8 σ8 H8 _ (I8.wish XE') q9) fun z s10 ⟨yv, H10, I10, r10, acc, hD10, hz10, nx⟩ => ?_
      have I10 := I10.unwish
      refine app_ok (X := X.blk s3 H3 scope ce fp) I10 hD10 hz10 r10 fun s11 I11 => ?_
      obtain ⟨m', hm, w'⟩ := hNx _ nx
      have pin' : ∀ b ∈ fp, ∀ o, s7.heap.get? b = some o → s11.heap.get? b = some o ∧ (upd H10 D (.lst (acc ++ [yv]))) b = none := fun b hb o e =>
        have z := I11.pin (b, o) (List.mem_append_right _ (List.mem_append_right _ (mem_pinsAt hb e)))
        ⟨z.1, z.2.1⟩
      have hl : (wipe σ (own.map (·.2))).length = σ8.length := by rw [← hw8, wipe_length]
      refine ⟨m', hm, i + 1, _, (I11.unpinned (pins := [])).weak hl (fun j v e => ?_), T.keep _ _ _ st7 fun b hb o e => (pin' b hb o e).1, fun b hb => ?_, w'⟩
      · rw [← hw8] at e
        exact (wipe_some e).1
      · obtain ⟨o, e, _⟩ := T.obj _ _ st7 b hb
        exact (pin' b hb o e).2
  exact codeAny_compStart_list loop (T.self X.A 0 _ _ _ st4 loop)
end
end K06
end Sec_X2
section Sec_B3
set_option Elab.async false
set_option linter.all false
set_option maxRecDepth 100000
set_option maxHeartbeats 4000000
namespace K06
open PySem PySem.Spec PyProof.Rows L2
abbrev veT : List Value := [.type "ValueError", .type "Exception", .type "BaseException", .type "object"]
/-- an error's class without a maker of its own -/
structure ExK (K : PySem.W.Frag) (C : Addr) : Prop where
  k : PySem.W.keepIn K (.ref C) = true
  ex : PySem.W.excIn K C veT "ValueError.__new__" = true
  bs : PySem.W.subIn K (.ref C) (.type "BaseException") = some true
  ty : PySem.W.typeIn K (.ref C) = some (.type "type")
  self : PySem.W.subIn K (.ref C) (.ref C) = some true
  cl : PySem.W.isClsIn K C = true
theorem ExK.raises {X : Cx} {C : Addr} (e : ExK X.K C) : Raises X (.ref C) := raises_own e.bs e.ty
theorem exm_mk {K : PySem.W.Frag} {cls : Value} {S : Addr} {b : Bool} (h1 : PySem.W.subIn K (.ref S) (.type "BaseException") = some true) (h2 : PySem.W.isClsIn K S = true) (h3 : PySem.W.typeIn K (.ref S) = some (.type "type")) (h4 : PySem.W.subIn K cls (.ref S) = some b) :
    PySem.W.exmOne K cls (.ref S) = some b := by
  have a1 : (PySem.W.subIn K (.ref S) (.type "BaseException") == some true) = true := by rw [h1] <;> rfl
  have a2 : ((PySem.W.clsIn K S).isSome && PySem.W.typeIn K (.ref S) == some (.type "type")) = true := by
    have q : (PySem.W.clsIn K S).isSome = true := h2
    rw [q, h3] <;> rfl
  show (if (PySem.W.subIn K (.ref S) (.type "BaseException") == some true) = true then _ else none) = some b
  rw [if_pos a1]
  show (if ((PySem.W.clsIn K S).isSome && PySem.W.typeIn K (.ref S) == some (.type "type")) = true then _ else none) = some b
  rw [if_pos a2]
  exact h4
/-- the class BadText, with its __init__(self, at) -/
structure BtK (K : PySem.W.Frag) (C : Addr) : Prop where
  ox : OexC K C
  init : ∃ (fI : Addr) (fd : FuncData), PySem.W.findIn K (.ref C) "__init__" = some (some (.ref fI)) ∧ PySem.W.typeIn K (.ref fI) = some (.type "function") ∧ L2.Fun K "__init__" "BadText.__init__" s_BadText___init__ fI fd ∧ Binds K fd ["self", "at"] []
  noAt : PySem.W.findIn K (.ref C) "at" = some none
  self : PySem.W.subIn K (.ref C) (.ref C) = some true
  cl : PySem.W.isClsIn K C = true
  xf : XfC K C
structure Err (K : PySem.W.Frag) (mg : Str → Option Value) (A : Ads) : Prop where
  gDeal : mg "BadDeal" = some (.ref A.BadDeal)
  gText : mg "BadText" = some (.ref A.BadText)
  deal : ExK K A.BadDeal
  text : BtK K A.BadText
section
variable {P : Program} {w : World} {K : PySem.W.Frag} {mg : Str → Option Value} {base : Heap} {A : Ads}
/-- self.at = at, of an error that is being made -/
def sp_btInit (C : Addr) : Sp := fun vs H Q _ => ∃ (a : Addr) (y : V), vs = [.ref a, y] ∧ H a = some (exo a C none) ∧ ∀ dx, H dx = none → dx ≠ a → Q .non (upd (upd H dx (exd dx [(("at" : Str), y)])) a (exo a C (some dx)))
theorem ok_btInit {fI : Addr} {fd : FuncData} (R : Err K mg A) (F : L2.Fun K "__init__" "BadText.__init__" s_BadText___init__ fI fd) : FnOk P w K mg base CX0 1 fI fd ["self", "at"] (sp_btInit A.BadText) := by
  refine F.ok sc_BadText___init__ (fun vs H Q E h => ?_) (fun cdv A' outer s H vs Q E hr h => ?_)
  · obtain ⟨a, y, rfl, _⟩ := h; rfl
  obtain ⟨a, y, rfl, ha, q⟩ := h
  refine ⟨_, pss_one (ps_ost (pv 0) (pv 1)), ?_⟩
  exact ⟨_, rfl, _, rfl, a, A.BadText, rfl, R.text.ox, R.text.noAt, .inl ⟨ha, fun dx n ne => q dx n ne⟩⟩
/-- BadText(e) on its way to be raised -/
theorem pmkBT {X : Cx} {A : Ads} {e : Expr} {es : List Expr} {ta : TA} {p pos : Pos} {j : Nat} (R : Err X.K X.mg A) (hr : Room j X.A) (hj : 2 ≤ j) (hg : Gl X "BadText") (ha : PA X (e :: es) ta)
    (he : starEach (e :: es) X.env = (false, eval e X.env) :: starEach es X.env := by rfl) (hpl : (backTo pos (starEach es X.env)).any (·.1) = false := by rfl) :
    PMk X (.Call (.Name "BadText" p) (e :: es) [] pos) (tMkO A.BadText (sp_btInit A.BadText) [] ta) := by
  obtain ⟨fI, fd, iC, tI, F, b⟩ := R.text.init
  have G : FnOk X.prog X.w X.K X.mg X.base CX0 1 fI fd ["self", "at"] (sp_btInit A.BadText) := ok_btInit R F
  exact pmk_oex (p := p) (pos := pos) R.text.ox iC tI G (hr.mono hj) b .nil (fun _ _ _ _ _ _ _ h => h.elim) hg R.gText ha (by decide) he hpl
theorem bt_done {C : Addr} {H1 : Hp} {y : V} {Q : XK} (h : ∀ H2 d, Same H1 H2 → H1 d = none → H2 d = some (.xd [(("at" : Str), y)]) → Q (.ref C) (some d) H2) :
    ([y] : List V).length ≤ 1000 ∧ ∀ a, H1 a = none → sp_btInit C (.ref a :: ([y] ++ [])) (upd H1 a (exo a C none))
      (fun v H2 => v = .non ∧ ∃ (d : Addr) (fs : List (Str × V)), H2 a = some (exo a C (some d)) ∧ H2 d = some (exd d fs) ∧ H1 d = none ∧ Q (.ref C) (some d) (upd (del H2 a) d (.xd fs))) (fun _ _ _ => False) := by
  refine ⟨(by show 1 ≤ 1000; decide), fun a na => ⟨a, y, rfl, upd_same, fun dx nd ne => ⟨rfl, dx, [(("at" : Str), y)], upd_same, ?_, ?_, ?_⟩⟩⟩
  · rw [upd_ne ne]; exact upd_same
  · rw [upd_ne ne] at nd; exact nd
  · rw [upd_ne ne] at nd
    refine h _ dx (fun b o e => ?_) nd upd_same
    have b1 : b ≠ dx := ne_of_none e nd
    have b2 : b ≠ a := ne_of_none e na
    rw [upd_ne b1, del_ne b2, upd_ne b2, upd_ne b1, upd_ne b2]
    exact e
end
end K06
end Sec_B3
section Sec_X4
set_option Elab.async false
set_option linter.all false
set_option maxRecDepth 100000
set_option maxHeartbeats 4000000
namespace K06
open PySem PySem.Spec PyProof.Rows L2
/-! ### tuple(d), d a dict of the text -/
section
variable {prog : Program} {w : World} {A : Around} {E : Value → Shared → Prop} {s : Shared}
theorem code_tuple_new_src {T : String} {r d : Addr} {n : Nat} {Pz : Nat → Value → Prop} {OK : Heap → Prop} {Q₁ : Value → Shared → Prop} (S : PySem.W.KdlSrc prog w T r d n Pz OK) (hT : T = "dict") (hh : A.handled = none) (hok : OK s.heap) (hn : n ≤ sizeLine)
    (h : ∀ (h' : Heap) (tk : Nat) (acc : Array Value), (∀ b o, s.heap.get? b = some o → h'.get? b = some o) → ItemsOf Pz acc n → Q₁ (.ref h'.objs.size) { s with heap := h'.push { cls := .type "tuple", data := .seq acc }, toks := tk }) :
    codeAny (model prog w) A (.call (.builtin "tuple.__new__") ⟨[.type "tuple", .ref r], []⟩) (wants Q₁ E) s := by
  subst hT
  refine codeAny_of_tree ?_
  show wpAny _ A.in1 (do checkBuiltinCall "tuple.__new__" ⟨[.type "tuple", .ref r], []⟩; again (.builtin "tuple.__new__" ⟨[.type "tuple", .ref r], []⟩)) _ _ s
  refine wpAny_bind (wpAny_of_eq (F.newCall_tuple_1 _) (wpAny_pure ⟨plainId_quiet F.plain_tuple_new _, codeAny_builtin F.entry_tuple_new ?_⟩))
  rw [Around.under_plainId F.plain_tuple_new _]
  have hsub := sub_tuple_self
  have hinit := init_tuple_lookup
  have hmh := madeHere_tuple
  have hTI : s.TypeIs (.ref r) "dict" := S.type s hok
  have hh1 : A.in1.handled = none := hh
  wp_walk using wpAny_typeOf hTI, PySem.W.kdu_collect (A := A.in1) S hh1 hok hn
  intro h' tk acc hk hacc
  show wpAny _ _ (Builtin.Tuple.tupleExact acc.toList.toArray >>= fun v => ret v) _ _ _
  unfold Builtin.Tuple.tupleExact
  refine wpAny_bind (wpAny_newObj_type ?_ (by show acc.toList.toArray.size ≤ sizeLine; simp only [Array.toArray_toList]; rw [hacc.1]; exact hn))
  refine wpAny_pure ?_
  have e : acc.toList.toArray = acc := by simp
  rw [e]
  exact h h' tk acc hk hacc
theorem call_tuple_src {r d : Addr} {n : Nat} {Pz : Nat → Value → Prop} {OK : Heap → Prop} {Q : Value → Shared → Prop} (S : PySem.W.KdlSrc prog w "dict" r d n Pz OK) (hh : A.handled = none) (hok : OK s.heap) (hn : n ≤ sizeLine)
    (hQ : ∀ (h' : Heap) (tk : Nat) (acc : Array Value), (∀ b o, s.heap.get? b = some o → h'.get? b = some o) → ItemsOf Pz acc n → Q (.ref h'.objs.size) { s with heap := h'.push { cls := .type "tuple", data := .seq acc }, toks := tk }) :
    wpAny (model prog w) A (call (.type "tuple") [.ref r]) Q E s := by
  refine callType_codes (Q₁ := fun obj s₁ => s₁.TypeIs obj "tuple" ∧ Q obj s₁) F.called_tuple (F.typeCall_tuple_1 _) F.entry_object_init
    (code_tuple_new_src (A := A.in1) S rfl hh hok hn fun h' tk acc hk hacc => ⟨⟨_, Heap.get?_push_size _ rfl, rfl⟩, hQ h' tk acc hk hacc⟩) fun obj s₁ h₁ => ?_
  exact ⟨h₁.1, F.args_object_init_2 obj _, object_init_meets F.called_tuple.init.lookup F.called_tuple.made (by decide) prog w A.in1 _ s₁ ⟨h₁.1, rfl, h₁.2⟩⟩
end
/-- a dict of the text and its keys -/
def KKeys (K : PySem.W.Frag) (a : Addr) (ws : List Str) : Prop := ∃ es n, K.lookup a = some ⟨.type "dict", none, .dict es n, #[]⟩ ∧ (a == sysModules) = false ∧ Vals (ws.map V.str) (es.toList.map (·.key)) ∧ ws.length ≤ 1000
def rTupD (K : PySem.W.Frag) : List V → Hp → VK → Prop := fun xs H Q => ∃ p ws, xs = [.ref p] ∧ KKeys K p ws ∧ ∀ q, H q = none → Q (.ref q) (upd H q (.tup (ws.map V.str)))
theorem call_tupD {X : Cx} (hc : X.calm = true) : CallR X (.type "tuple") (rTupD X.K) := by
  intro pins s σ H xs us Q I r h
  obtain ⟨p, ws, rfl, ⟨es, n, hl, lo, hv, hz⟩, q⟩ := h
  obtain ⟨u, rfl, rx⟩ := r.one
  cases rx
  have ho := I.kIn p _ hl
  have hsz : es.size = ws.length := by
    have := hv.length
    rw [List.length_map, List.length_map, Array.length_toList] at this
    exact this.symm
  have hzz : ws.length ≤ sizeLine := Nat.le_trans hz (by decide)
  refine call_tuple_src (kdl_raw lo ⟨rfl, rfl, rfl⟩ rfl) (I.ok.hd hc) ho (by omega) fun h' tk acc kp it => ?_
  have ea : acc.toList = es.toList.map (·.key) := by
    apply List.ext_getElem?
    intro j
    rw [List.getElem?_map]
    cases hj : acc.toList[j]? with
    | none =>
      have h1 := List.getElem?_eq_none_iff.mp hj
      rw [Array.length_toList, it.1] at h1
      rw [List.getElem?_eq_none (by rw [Array.length_toList]; omega)]
      rfl
    | some v =>
      obtain ⟨en, hen, hv⟩ := it.2 j v (by rw [← Array.getElem?_toList]; exact hj)
      rw [← Array.getElem?_toList] at hen
      rw [hen, hv]
      rfl
  have I1 : Inv X pins σ H { s with heap := h' } := I.kept (t' := s.toks) kp
  have rv : Vals (ws.map V.str) acc.toList := by rw [ea]; exact hv
  refine ⟨.ref h'.objs.size, upd H h'.objs.size (.tup (ws.map V.str)), I1.laid (t' := tk) (fun b o e => Heap.get?_push_of_some _ e) (Nat.le_refl _) (show ObjOk X.prog X.w _ _ _ (.tup (ws.map V.str)) from ⟨by rw [List.length_map]; exact hzz, acc.toList, rv, ?_⟩), rfl, q _ (I1.hok.fresh (Nat.le_refl _))⟩
  rw [Array.toArray_toList]
  exact IsTup.new _ _
/-! ### a walk over a list or a tuple -/
def iSq (K : PySem.W.Frag) (tl : TE) : TI := fun σ H R => tl σ H fun x H1 => (∃ a xs, x = .ref a ∧ SqL K H1 a xs ∧ R (Itl K a) H1) ∨ (∃ a xs, x = .ref a ∧ SqT K H1 a xs ∧ R (Itt K a) H1)
theorem pi_sq {X : Cx} {tg l : Expr} {tl : TE} (hl : PE X l tl) : PI X tg l (iSq X.K tl) := by
  refine ⟨fun pins s σ H R I h => ?_⟩
  refine thn (hl.run pins s σ H _ I h) fun v s1 ⟨x, H1, I1, r1, q1⟩ => ?_
  rcases q1 with ⟨a, xs, e, hq, q⟩ | ⟨a, xs, e, hq, q⟩
  · subst e
    cases r1
    obtain ⟨its, rv, p, hz⟩ := I1.list hq
    refine wpAny_pyIter_list p.isList ?_
    refine ⟨s1.heap.objs.size, [s1.heap.objs.size], _, _, H1, rfl, I1.kept (t' := s1.toks) fun b o e => Heap.get?_push_of_some _ e, turn_list a _, ⟨_, Heap.get?_push_size _ rfl, rfl, rfl⟩, fun b hb => ?_, q⟩
    have e : b = s1.heap.objs.size := by simpa using hb
    subst e
    exact I1.fpOk (Nat.le_refl _) (I1.hok.fresh (Nat.le_refl _))
  · subst e
    cases r1
    obtain ⟨its, rv, p, hz⟩ := I1.tuple hq
    refine wpAny_pyIter_tuple (show s1.heap.IsTuple a its.toArray from p) ?_
    refine ⟨s1.heap.objs.size, [s1.heap.objs.size], _, _, H1, rfl, I1.kept (t' := s1.toks) fun b o e => Heap.get?_push_of_some _ e, turn_tuple a _, ⟨_, Heap.get?_push_size _ rfl, rfl, rfl⟩, fun b hb => ?_, q⟩
    have e : b = s1.heap.objs.size := by simpa using hb
    subst e
    exact I1.fpOk (Nat.le_refl _) (I1.hok.fresh (Nat.le_refl _))
/-! ### methods -/
structure Me (P : Program) (w : World) (K : PySem.W.Frag) (mg : Str → Option Value) (base : Heap) (CX : CXT) (k : Nat) (C : Addr) (m : Str) (sp : Sp) : Prop where
  ex : ∃ (f : Addr) (fd : FuncData) (ps : List Str), Cls K C ∧ Meth K C m f ∧ FnOk P w K mg base CX k f fd ps sp ∧ Binds K fd ps []
/-- o.m(e, ..) -/
def tMeS (C : Addr) (m : Str) (sp : Sp) (E : L2.St → XK) (ta : TE) (t : TA) : TE := fun σ H Q => ta σ H fun x H1 => ∃ a dx fs, x = .ref a ∧ H1 a = some (.ins C dx fs) ∧ fs.lookup m = none ∧ t σ H1 fun vs H2 => sp (x :: vs) H2 Q (E σ)
section
variable {X : Cx} {CX : CXT} {j k : Nat} {C : Addr} {sp : Sp} {E : L2.St → XK} {m : Str} {p pos apos : Pos} {e o : Expr} {es : List Expr} {ta : TE} {t : TA} {W : WX}
theorem pmeS {pl : Sem Bool} (c : Me X.prog X.w X.K X.mg X.base CX k C m sp) (hr : Room j X.A) (hk : k ≤ j) (hx : ∀ σ, PassesAt CX X σ (E σ)) (he : PE X o ta) (ha : PA X (e :: es) t)
    (hst : starEach (e :: es) X.env = (false, eval e X.env) :: starEach es X.env := by rfl) (hpl : (backTo pos (starEach es X.env)).any (·.1) = false := by rfl)
    (ht : eval (.Call (.Attribute o m apos) (e :: es) [] pos) X.env = (do
      let ov ← eval o X.env
      standAt apos.atName
      let (f, first) ← holding [ov] (getMethod ov m pl)
      callWith pos f first (backTo pos (starEach (e :: es) X.env)) (backToKw pos (keywordEach [] X.env))) := by rfl) :
    PE X (.Call (.Attribute o m apos) (e :: es) [] pos) (tMeS C m sp E ta t) := by
  obtain ⟨f, fd, ps, cl, hm, F, hb⟩ := c.ex
  refine ⟨fun pins s σ H Q I h => ?_⟩
  refine PySem.W.methodCall_KW (pl := pl) (thn (he.run pins s σ H _ I h) fun u s1 ⟨x, H1, I1, rx, a, dx, fs, ex, ea, l, q⟩ => ?_) ht
  subst ex
  obtain rfl : u = Value.ref a := rx
  refine getmeth_ok I1 ea cl hm l ?_
  refine PySem.W.callWith_K (first := [.ref a]) (h₀ := X.base) I.ok.mod.kin hm.kp (thn (ha.run pos pins s1 σ H1 _ I1 q) fun us s2 ⟨vs, H2, I2, r, q2⟩ => ⟨I2.kIn, ?_⟩) hst hpl
  exact run_fnS (us := .ref a :: us) (vs := .ref a :: vs) F (hr.mono hk) hb (hx σ) I2 (.cons rfl r) q2
theorem pmeS0 {pl : Sem Bool} (c : Me X.prog X.w X.K X.mg X.base CX k C m sp) (hr : Room j X.A) (hk : k ≤ j) (hx : ∀ σ, PassesAt CX X σ (E σ)) (he : PE X o ta)
    (ht : eval (.Call (.Attribute o m apos) [] [] pos) X.env = (do
      let ov ← eval o X.env
      standAt apos.atName
      let (f, first) ← holding [ov] (getMethod ov m pl)
      callWith pos f first (backTo pos (starEach [] X.env)) (backToKw pos (keywordEach [] X.env))) := by rfl) :
    PE X (.Call (.Attribute o m apos) [] [] pos) (tMeS C m sp E ta tNil) := by
  obtain ⟨f, fd, ps, cl, hm, F, hb⟩ := c.ex
  refine ⟨fun pins s σ H Q I h => ?_⟩
  refine PySem.W.methodCall_KW (pl := pl) (thn (he.run pins s σ H _ I h) fun u s1 ⟨x, H1, I1, rx, a, dx, fs, ex, ea, l, q⟩ => ?_) ht
  subst ex
  obtain rfl : u = Value.ref a := rx
  refine getmeth_ok I1 ea cl hm l ?_
  refine PySem.W.callWith_K0 (first := [.ref a]) I1.kIn hm.kp ?_
  exact run_fnS (us := [.ref a]) (vs := [.ref a]) F (hr.mono hk) hb (hx σ) I1 (.cons rfl .nil) q
theorem passS0 {X : Cx} {σ : L2.St} : PassesAt CX0 X σ E0 := fun pins H s e s' I h => pass0 pins σ H s e s' I h
end
end K06
end Sec_X4
section Sec_X5
set_option Elab.async false
set_option linter.all false
set_option maxRecDepth 100000
set_option maxHeartbeats 4000000
namespace K06
open PySem PySem.Spec PyProof.Rows L2
/-- a list against an empty one -/
def rNeL (K : PySem.W.Frag) : R2 := fun x y H Q => ∃ p q xs, x = .ref p ∧ y = .ref q ∧ SqL K H p xs ∧ SqL K H q [] ∧ Q (.bl (!xs.isEmpty)) H
theorem op_neL {X : Cx} (hu : X.A.units + 64 < cLine) : OpR X (compareOp .NotEq) (rNeL X.K) := by
  intro pins s σ H x y v u Q I rx ry h
  obtain ⟨p, q, xs, rfl, rfl, hp, hq, k⟩ := h
  cases rx; cases ry
  obtain ⟨its, rv, pl, hz⟩ := I.list hp
  obtain ⟨its2, rv2, pl2, hz2⟩ := I.list hq
  have e2 : its2 = [] := by cases rv2; rfl
  subst e2
  have hl := rv.length
  have go : SeqAt.RcNeAt X.A s (.ref p) (.ref q) (!xs.isEmpty) := by
    cases xs with
    | nil =>
      have e1 : its = [] := by cases rv; rfl
      subst e1
      exact SeqAt.RcNeAt.lists (e := fun _ => true) pl.isList pl2.isList rfl (by omega) (fun j h1 _ => absurd h1 (by simp))
    | cons a xs =>
      cases its with
      | nil => cases rv
      | cons b its => exact SeqAt.RcNeAt.lists_lengths pl.isList pl2.isList (by simp) (by omega)
  exact go _ _ _ _ ⟨.bl _, H, I, rfl, k⟩
end K06
end Sec_X5
section Sec_X6
set_option Elab.async false
set_option linter.all false
set_option maxRecDepth 100000
set_option maxHeartbeats 4000000
namespace K06
open PySem PySem.Spec PyProof.Rows L2
theorem room65 {k : Nat} {A : Around} (r : Room k A) : A.units + 65 < cLine := by have := r.un; omega
/-- t in [('a',), ..], t a tuple that begins with a text, whatever stands behind it -/
def oneOf (H : Hp) (x : Str) (k : Nat) (y : V) : Bool := match y with
  | .ref a => (match H a with | some (.tup [.str z]) => (z == x) && decide (k = 1) | _ => false)
  | _ => false
def rIn1 (K : PySem.W.Frag) : R2 := fun x y H Q => ∃ (t l : Addr) (x0 : Str) (us ys : List V), x = .ref t ∧ y = .ref l ∧ H t = some (.tup (.str x0 :: us)) ∧ H l = some (.lst ys) ∧ (∀ z ∈ ys, ∃ a w, z = .ref a ∧ a ≠ t ∧ H a = some (.tup [.str w])) ∧ Q (.bl (ys.any (oneOf H x0 (us.length + 1)))) H
theorem op_in1 {X : Cx} (hu : X.A.units + 65 < cLine) : OpR X (compareOp .In) (rIn1 X.K) := by
  intro pins s σ H x y v u Q I rx ry h
  obtain ⟨t, l, x0, us, ys, rfl, rfl, ht, hl, hy, q⟩ := h
  cases rx; cases ry
  obtain ⟨its, r, pl, hz⟩ := I.list (show SqL X.K H l ys from .inl (.inl hl))
  obtain ⟨its2, r2, pt, hz2⟩ := I.tuple (SqT.of (K := X.K) ht)
  have hsz : its2.length = us.length + 1 := by rw [← r2.length, List.length_cons]
  obtain ⟨c0, its3, rfl, rc0⟩ : ∃ c0 r3, its2 = c0 :: r3 ∧ RelV (.str x0) c0 := by
    cases r2 with
    | cons a b => exact ⟨_, _, rfl, a⟩
  obtain ⟨tk, rfl⟩ := rc0
  have eU : ∀ y' u', RelV y' u' → y' ∈ ys → SeqAt.EqAt X.A.in1 s u' (.ref t) (oneOf H x0 (us.length + 1) y') := fun y' u' ru hm => by
    obtain ⟨a, w, rfl, ne, ha⟩ := hy y' hm
    cases ru
    obtain ⟨itsA, rA, pA, hzA⟩ := I.tuple (SqT.of (K := X.K) ha)
    obtain ⟨cA, rfl, rcA⟩ : ∃ cA, itsA = [cA] ∧ RelV (.str w) cA := by
      cases rA with
      | cons a b => cases b; exact ⟨_, rfl, a⟩
    obtain ⟨tkA, rfl⟩ := rcA
    refine SeqAt.EqAt.of_refs ne ?_
    have e : oneOf H x0 (us.length + 1) (.ref a) = ((List.range (min ([Value.str w tkA] : List Value).toArray.size ((Value.str x0 tk :: its3).toArray.size))).all (fun _ => w == x0) && ([Value.str w tkA] : List Value).toArray.size == (Value.str x0 tk :: its3).toArray.size) := by
      show (match H a with | some (.tup [.str z]) => (z == x0) && decide (us.length + 1 = 1) | _ => false) = _
      rw [ha]
      have hs : (Value.str x0 tk :: its3).toArray.size = us.length + 1 := by simpa using hsz
      rw [hs]
      have h1 : min ([Value.str w tkA] : List Value).toArray.size (us.length + 1) = 1 := by simp
      rw [h1]
      have h2 : (List.range 1).all (fun _ => w == x0) = (w == x0) := by simp [List.range_succ]
      rw [h2]
      congr 1
      cases us <;> simp
    rw [e]
    refine SeqAt.RcAt.tuples pA pt (by show X.A.units + 1 < cLine; omega) (fun j h1 h2 => ?_)
    have hj : j = 0 := by simp at h1; omega
    subst hj
    exact SeqAt.EqAt.str_str w tkA x0 tk
  -- the items
  have pair : ∀ {zs : List V} {vs : List Value}, Vals zs vs → (∀ z ∈ zs, z ∈ ys) → (∀ u ∈ vs, SeqAt.EqAt X.A.in1 s u (.ref t) (match u with | .ref a => oneOf H x0 (us.length + 1) (.ref a) | _ => false)) ∧ (vs.any fun u => match u with | .ref a => oneOf H x0 (us.length + 1) (.ref a) | _ => false) = zs.any (oneOf H x0 (us.length + 1)) := by
    intro zs vs rv
    induction rv with
    | nil => intro _; exact ⟨fun u hu => (by cases hu), rfl⟩
    | @cons z u zs vs rz rt ih =>
      intro hm
      obtain ⟨h1, h2⟩ := ih fun z' hz' => hm z' (List.mem_cons_of_mem _ hz')
      obtain ⟨a, w, rfl, _, _⟩ := hy z (hm z List.mem_cons_self)
      have hu := eU (.ref a) u rz (hm _ List.mem_cons_self)
      cases rz
      refine ⟨fun u' hu' => ?_, ?_⟩
      · rcases List.mem_cons.mp hu' with rfl | hu'
        · exact hu
        · exact h1 u' hu'
      · rw [List.any_cons, List.any_cons, h2]
  obtain ⟨p1, p2⟩ := pair r fun z hz => hz
  refine SeqAt.in_listAt (fun u => match u with | .ref a => oneOf H x0 (us.length + 1) (.ref a) | _ => false) pl.isList (fun u hu => p1 u (by simpa using hu)) ⟨.bl _, H, I, rfl, ?_⟩
  rw [List.any_toArray, p2]
  exact q
end K06
end Sec_X6
section Sec_D1
set_option Elab.async false
set_option linter.all false
set_option maxRecDepth 100000
set_option maxHeartbeats 4000000
namespace K06
open PySem PySem.Spec PyProof.Rows L2
section
variable {P : Program} {w : World} {K : PySem.W.Frag} {mg : Str → Option Value} {base : Heap} {A : Ads}
/-! ### shares -/
def isW : PyData → Bool
  | .int _ => true
  | _ => false
def sp_is_whole : Sp := fun vs H Q _ => ∃ v d, vs = [v] ∧ Tp H d v ∧ Q (.bl (isW d)) H
theorem ok_is_whole (T : Txt K mg A) : Cl P w K mg base CX0 1 "is_whole" sp_is_whole := by
  refine T.f_is_whole.cl sc_is_whole (fun vs H Q E h => ?_) (fun f cdv A' outer s H vs Q E hr h => ?_)
  · obtain ⟨v, d, rfl, _⟩ := h; rfl
  obtain ⟨v, d, rfl, hd, q⟩ := h
  refine ⟨_, (pss_one (ps_ret (pe_and (pe_callB call_isi (by rfl) T.z_isinstance (by decide +kernel) (pa_cons (pv 0) (pa_cons (pe_bltn (by rfl) T.z_int (by decide +kernel) (v := .ty "int") rfl) pa_nil))) (pe_one (pe_not (pe_callB call_isi (by rfl) T.z_isinstance (by decide +kernel) (pa_cons (pv 0) (pa_cons (pe_bltn (by rfl) T.z_bool (by decide +kernel) (v := .ty "bool") rfl) pa_nil)))))))), ?_⟩
  refine ⟨_, rfl, ?_⟩
  refine ⟨_, _, _, _, _, rfl, .ty _, Tp.ty (K := K) (hd), kit_ty (kit_int _), ?_⟩
  refine ⟨_, rfl, ?_⟩
  have two : ∀ b, (!(dBool d)) = b → (b = isW d) → tNotV (tCB (rIsi K) (tCons (tVar 0) (tCons (tC (V.ty "bool")) tNil))) (L2.start N_is_whole [v]) H Q := by
    intro b e1 e2
    refine ⟨_, rfl, ?_⟩
    refine ⟨_, _, _, _, _, rfl, .ty _, Tp.ty (K := K) (hd), kit_ty (kit_bool _), ?_⟩
    refine ⟨_, rfl, ?_⟩
    rw [e1, e2]
    exact q
  cases d with
  | int i => exact iteT (two _ rfl rfl)
  | bool i => exact iteT (two _ rfl rfl)
  | list b => exact hd.elim
  | dict b => exact hd.elim
  | _ => exact iteF q
/-- least <= thing <= most, a whole number -/
def amongD (d : PyData) (lo hi : Int) : Bool := match d with
  | .int i => decide (lo ≤ i) && decide (i ≤ hi)
  | _ => false
def sp_is_among : Sp := fun vs H Q _ => ∃ v d lo hi, vs = [v, .int lo, .int hi] ∧ Tp H d v ∧ Q (.bl (amongD d lo hi)) H
theorem ok_is_among (T : Txt K mg A) (G_is_whole : Cl P w K mg base CX0 1 "is_whole" sp_is_whole) : Cl P w K mg base CX0 2 "is_among" sp_is_among := by
  refine T.f_is_among.cl sc_is_among (fun vs H Q E h => ?_) (fun f cdv A' outer s H vs Q E hr h => ?_)
  · obtain ⟨v, d, lo, hi, rfl, _⟩ := h; rfl
  obtain ⟨v, d, lo, hi, rfl, hd, q⟩ := h
  refine ⟨_, (pss_one (ps_ret (pe_and (pcl G_is_whole hr (by omega) rfl (pa_cons (pv 0) pa_nil)) (pe_one (pe_chain op_le op_le (pv 1) (pv 0) (pv 2)))))), ?_⟩
  refine ⟨_, rfl, v, d, rfl, hd, _, rfl, ?_⟩
  cases d with
  | int i =>
    cases hd
    refine iteT ⟨_, rfl, _, rfl, lo, i, rfl, rfl, _, rfl, ?_⟩
    refine itD (fun c => ?_) (fun c => ?_)
    · refine ⟨_, rfl, i, hi, rfl, rfl, ?_⟩
      have e : amongD (.int i) lo hi = decide (i ≤ hi) := by simp [amongD, c]
      rw [e] at q
      exact q
    · have e : amongD (.int i) lo hi = false := by simp [amongD, c]
      rw [e] at q
      exact q
  | _ => exact iteF q
/-- the greatest number that goes into both -/
def sp_common : Sp := fun vs H Q _ => ∃ a b : Int, vs = [.int a, .int b] ∧ 0 ≤ a ∧ 0 ≤ b ∧ Q (.int (Int.gcd a b)) H
theorem ok_common (T : Txt K mg A) : Cl P w K mg base CX0 1 "common" sp_common := by
  refine T.f_common.cl sc_common (fun vs H Q E h => ?_) (fun f cdv A' outer s H vs Q E hr h => ?_)
  · obtain ⟨a, b, rfl, _⟩ := h; rfl
  obtain ⟨a, b, rfl, ha, hb, q⟩ := h
  refine ⟨_, (pss_cons (ps_while PassesOwn.never (pt_cmpR op_gt (pv 1) pe_int (nomark _)) (pss_one (ps_par (i := 0) (j := 1) (by rfl) sc_common.nd rfl rfl (by decide) rfl rfl (pa_cons (pv 1) (pa_cons (pe_op op_mod (pv 0) (pv 1)) pa_nil)) (by rfl)))) (pss_one (ps_ret (pv 0)))), ?_⟩
  refine ⟨fun m σ H' => H' = H ∧ ∃ x y : Int, σ = [some (.int x), some (.int y)] ∧ 0 ≤ x ∧ 0 ≤ y ∧ Int.gcd x y = Int.gcd a b ∧ m = y.toNat, ⟨_, rfl, a, b, rfl, ha, hb, rfl, rfl⟩, ?_⟩
  rintro m σ H' ⟨rfl, x, y, rfl, hx, hy, e, rfl⟩
  refine ⟨_, rfl, _, _, rfl, rfl, _, rfl, ?_⟩
  refine itD (fun c => ?_) (fun c => ?_)
  · refine ⟨_, fun _ _ h => h, ?_⟩
    refine ⟨_, rfl, _, rfl, _, rfl, _, _, rfl, rfl, c, _, _, rfl, ?_⟩
    refine ⟨_, ?_, rfl, y, x % y, rfl, hy, Int.emod_nonneg _ (by omega), ?_, rfl⟩
    · have := Int.emod_lt_of_pos x c
      have := Int.emod_nonneg x (show y ≠ 0 by omega)
      omega
    · rw [gcd_step hx hy]; exact e
  · have y0 : y = 0 := by omega
    subst y0
    refine ⟨_, rfl, ?_⟩
    rw [← e, gcd_zero hx] at q
    exact q
/-! ### amounts -/
def sp_has_kind (K : PySem.W.Frag) : Sp := fun vs H Q _ => ∃ (v : V) (k : Addr) (n : Int) (x : Str) (ds : List PyData) (ws : List Str), vs = [v, .ref k, .int n] ∧ Tp H (.tuple (.str x :: ds)) v ∧ SqT K H k (ws.map V.str) ∧
  Q (.bl (decide ((ds.length : Int) + 1 = n) && decide (x ∈ ws))) H
theorem ok_has_kind (T : Txt K mg A) : Cl P w K mg base CX0 1 "has_kind" (sp_has_kind K) := by
  refine T.f_has_kind.cl sc_has_kind (fun vs H Q E h => ?_) (fun f cdv A' outer s H vs Q E hr h => ?_)
  · obtain ⟨v, k, n, x, ds, ws, rfl, _⟩ := h; rfl
  obtain ⟨v, k, n, x, ds, ws, rfl, hd, hk, q⟩ := h
  refine ⟨_, (pss_one (ps_ret (pe_and (pe_callB call_isi (by rfl) T.z_isinstance (by decide +kernel) (pa_cons (pv 0) (pa_cons (pe_bltn (by rfl) T.z_tuple (by decide +kernel) (v := .ty "tuple") rfl) pa_nil))) (pe_and (pe_cmpR op_eq (pe_callB call_len_seq (by rfl) T.z_len (by decide +kernel) (pa_cons (pv 0) pa_nil)) (pv 2) (nomark _)) (pe_and (pe_callB call_isi (by rfl) T.z_isinstance (by decide +kernel) (pa_cons (pe_ix ix_tup (pv 0) pe_int (fun _ _ => rfl)) (pa_cons (pe_bltn (by rfl) T.z_str (by decide +kernel) (v := .ty "str") rfl) pa_nil))) (pe_one (pe_cmpR op_in_seq (pe_ix ix_tup (pv 0) pe_int (fun _ _ => rfl)) (pv 1) (by rfl)))))))), ?_⟩
  obtain ⟨a, xs, rfl, ha, y, ys, rfl, hy, hl⟩ := id hd
  cases hy
  refine ⟨_, rfl, ?_⟩
  refine ⟨_, _, _, _, _, rfl, .ty _, Tp.ty (K := K) (hd), kit_ty (kit_tuple _), ?_⟩
  refine ⟨_, rfl, iteT ?_⟩
  refine ⟨_, rfl, a, _, rfl, .inr (SqT.of ha), _, rfl, rfl, _, rfl, ?_⟩
  have e1 : (decide (V.int ((V.str x :: ys).length : Int) = V.int n)) = decide ((ds.length : Int) + 1 = n) := by
    rw [List.length_cons, hl.length]
    have : (((ds.length + 1 : Nat) : Int)) = (ds.length : Int) + 1 := by omega
    rw [this]
    by_cases h : (ds.length : Int) + 1 = n
    · rw [h]; simp
    · rw [decide_eq_false h]; exact decide_eq_false fun z => h (V.int.inj z)
  rw [e1]
  cases e2 : decide ((ds.length : Int) + 1 = n) with
  | false =>
    rw [e2] at q
    exact iteF q
  | true =>
    rw [e2, Bool.true_and] at q
    refine iteT ⟨_, rfl, ?_⟩
    refine ⟨_, _, _, _, rfl, rfl, SqT.of (ha), (by first | exact at0 | exact at1 | exact at2 | rfl), ?_⟩
    refine ⟨_, _, _, _, _, rfl, .ty _, Tp.ty (K := K) (show Tp H (.str x) (.str x) from rfl), kit_ty (kit_str _), ?_⟩
    refine ⟨_, rfl, iteT ?_⟩
    refine ⟨_, rfl, ?_⟩
    refine ⟨_, _, _, _, rfl, rfl, SqT.of (ha), (by first | exact at0 | exact at1 | exact at2 | rfl), ?_⟩
    refine ⟨_, rfl, k, _, rfl, .inr hk, rfl, all_flat ws, ?_⟩
    rw [if_neg Bool.false_ne_true, inV_str]
    exact q
/-- an amount's parts, or none -/
def apV (a : Amt) (m : Int) : V := if a.okN = true ∧ (a.parts : Int) ≤ m then .int a.parts else .non
def sp_ap (n : Nat) : Sp := fun vs H Q _ => ∃ (v : V) (a : Amt) (m : Int), vs = [v, .int m] ∧ 0 ≤ m ∧ m < n ∧ a.wf ∧ Tp H a.pd v ∧ ∀ H', Same H H' → Q (apV a m) H'
theorem amount_step (T : Txt K mg A) (G_has_kind : Cl P w K mg base CX0 1 "has_kind" (sp_has_kind K)) (G_is_among : Cl P w K mg base CX0 2 "is_among" sp_is_among) {n : Nat}
    (G_amount_parts : Cl P w K mg base CX0 (2 + n) "amount_parts" (sp_ap n)) : Cl P w K mg base CX0 (2 + n + 1) "amount_parts" (sp_ap (n + 1)) := by
  refine T.f_amount_parts.cl sc_amount_parts (fun vs H Q E h => ?_) (fun f cdv A' outer s H vs Q E hr h => ?_)
  · obtain ⟨v, a, m, rfl, _⟩ := h; rfl
  obtain ⟨v, a, m, rfl, m0, mn, wf, hd, q⟩ := h
  refine ⟨_, (pss_cons (ps_if (pt_cmpR op_lt (pv 1) pe_int (nomark _)) (pss_one (ps_ret pe_non)) pss_nil) (pss_cons (ps_if (pt_val (pcl G_has_kind hr (by omega) rfl (pa_cons (pv 0) (pa_cons (pe_tup (pa_cons pe_str (pa_cons pe_str pa_nil))) (pa_cons pe_int pa_nil))))) (pss_one (ps_ret pe_int)) pss_nil) (pss_cons (ps_if (pt_val (pcl G_has_kind hr (by omega) rfl (pa_cons (pv 0) (pa_cons (pe_tup (pa_cons pe_str pa_nil)) (pa_cons pe_int pa_nil))))) (pss_one (ps_ret (pe_ifExp (pt_val (pcl G_is_among hr (by omega) rfl (pa_cons (pe_ix ix_tup (pv 0) pe_int (fun _ _ => rfl)) (pa_cons pe_int (pa_cons (pe_gc rfl T.c_MOST_NUMBER) pa_nil))))) pe_int pe_non))) pss_nil) (pss_cons (ps_if (pt_not (pt_val (pcl G_has_kind hr (by omega) rfl (pa_cons (pv 0) (pa_cons (pe_gc rfl T.c_PAIRS) (pa_cons pe_int pa_nil)))))) (pss_one (ps_ret pe_non)) pss_nil) (pss_cons (ps_set (i := 2) sc_amount_parts.nd rfl (Or.inl rfl) (pcl G_amount_parts hr (by omega) rfl (pa_cons (pe_ix ix_tup (pv 0) pe_int (fun _ _ => rfl)) (pa_cons (pe_op op_sub (pv 1) pe_int) pa_nil)))) (pss_cons (ps_if (pt_cmpR op_isN (pv 2) pe_non (nomark _)) (pss_one (ps_ret pe_non)) pss_nil) (pss_cons (ps_set (i := 3) sc_amount_parts.nd rfl (Or.inl rfl) (pcl G_amount_parts hr (by omega) rfl (pa_cons (pe_ix ix_tup (pv 0) pe_int (fun _ _ => rfl)) (pa_cons (pe_op op_sub (pe_op op_sub (pv 1) pe_int) (pv 2)) pa_nil)))) (pss_cons (ps_if (pt_cmpR op_isN (pv 3) pe_non (nomark _)) (pss_one (ps_ret pe_non)) pss_nil) (pss_one (ps_ret (pe_op op_add (pe_op op_add pe_int (pv 2)) (pv 3)))))))))))), ?_⟩
  have pp := a.parts_pos
  refine ⟨_, rfl, _, _, rfl, rfl, _, rfl, itD (fun c => ?_) (fun c => ?_)⟩
  · have e : apV a m = .non := if_neg (by omega)
    rw [e] at q
    exact q H (Same.refl H)
  have qn : ∀ {H1 : Hp}, Same H H1 → (a.okN = true ∧ (a.parts : Int) ≤ m → False) → Q .non H1 := fun s1 n => by
    have e : apV a m = .non := if_neg n
    rw [e] at q
    exact q _ s1
  have qi : ∀ {H1 : Hp} {k : Int}, Same H H1 → a.okN = true → k = a.parts → (a.parts : Int) ≤ m → Q (.int k) H1 := fun s1 n e k => by
    have e' : apV a m = .int a.parts := if_pos ⟨n, k⟩
    rw [e'] at q
    rw [e]
    exact q _ s1
  refine ⟨_, rfl, ?_⟩
  refine ⟨(by show 2 ≤ sizeLine; decide), fun p1 n1 => ?_⟩
  have s1 : Same H (upd H p1 (.tup [.str "price", .str "time"])) := Same.new n1
  have k1 : SqT K (upd H p1 (.tup [.str "price", .str "time"])) p1 ((["price", "time"] : List Str).map V.str) := SqT.of upd_same
  generalize upd H p1 (.tup [.str "price", .str "time"]) = H1 at s1 k1 ⊢
  cases Amt.view wf with
  | leaf x hx e ep eo =>
    rw [e] at hd
    refine ⟨_, _, _, _, _, _, rfl, hd.up s1.tups, k1, _, rfl, tT ?_ ?_⟩
    · rcases hx with rfl | rfl <;> decide +kernel
    · exact qi s1 eo (by rw [ep]; rfl) (by omega)
  | num ds =>
    refine ⟨_, _, _, _, _, _, rfl, hd.up s1.tups, k1, _, rfl, tF (by simp) ?_⟩
    refine ⟨_, rfl, ?_⟩
    refine ⟨(by show 1 ≤ sizeLine; decide), fun p2 n2 => ?_⟩
    have s2 : Same H1 (upd H1 p2 (.tup [.str "number"])) := Same.new n2
    have k2 : SqT K (upd H1 p2 (.tup [.str "number"])) p2 ((["number"] : List Str).map V.str) := SqT.of upd_same
    generalize upd H1 p2 (.tup [.str "number"]) = H2 at s2 k2 ⊢
    have s2 := s1.trans s2
    refine ⟨_, _, _, _, _, _, rfl, hd.up s2.tups, k2, _, rfl, tT (by rw [show ([PyData.int (numV ds)] : List PyData).length = 1 from rfl]; decide +kernel) ?_⟩
    obtain ⟨a, xs, rfl, ha, y, ys, rfl, hy, z, zs, rfl, hz, rfl⟩ := hd
    cases hz
    refine ⟨_, rfl, ?_⟩
    refine ⟨_, _, _, _, rfl, rfl, SqT.of (s2 _ _ ha), (by first | exact at0 | exact at1 | exact at2 | rfl), ?_⟩
    refine ⟨_, .int (numV ds), 0, 1000000000, rfl, rfl, ⟨_, rfl, ?_⟩⟩
    cases eo : (Amt.num ds).okN with
    | true =>
      refine tT eo ?_
      exact qi s2 eo rfl (by simp [Amt.parts]; omega)
    | false =>
      refine tF eo ?_
      exact qn s2 fun z => by rw [eo] at z; exact Bool.noConfusion z.1
  | bin x b c hx e ep eo wb wc =>
    rw [e] at hd
    refine ⟨_, _, _, _, _, _, rfl, hd.up s1.tups, k1, _, rfl, tF (by simp) ?_⟩
    refine ⟨_, rfl, ?_⟩
    refine ⟨(by show 1 ≤ sizeLine; decide), fun p2 n2 => ?_⟩
    have s2 : Same H1 (upd H1 p2 (.tup [.str "number"])) := Same.new n2
    have k2 : SqT K (upd H1 p2 (.tup [.str "number"])) p2 ((["number"] : List Str).map V.str) := SqT.of upd_same
    generalize upd H1 p2 (.tup [.str "number"]) = H2 at s2 k2 ⊢
    have s2 := s1.trans s2
    refine ⟨_, _, _, _, _, _, rfl, hd.up s2.tups, k2, _, rfl, tF (by simp) ?_⟩
    refine ⟨_, rfl, ?_⟩
    refine ⟨_, _, _, _, _, _, rfl, hd.up s2.tups, T.k_PAIRS.sq (xs := (["plus", "minus", "times", "most", "least"] : List Str).map V.str), _, rfl, tF ?_ ?_⟩
    · simp only [List.mem_cons, List.not_mem_nil, or_false] at hx
      rw [show ([b.pd, c.pd] : List PyData).length = 2 from rfl]
      rcases hx with rfl | rfl | rfl | rfl | rfl <;> decide +kernel
    have hd2 := id hd
    obtain ⟨a0, xs, rfl, ha, y, ys, rfl, hy, vb, zs, rfl, hb, vc, us, rfl, hc, rfl⟩ := hd2
    have pb := b.parts_pos
    refine ⟨_, rfl, ?_⟩
    refine ⟨_, _, _, _, rfl, rfl, SqT.of (s2 _ _ ha), (by first | exact at0 | exact at1 | exact at2 | rfl), ?_⟩
    refine ⟨_, rfl, _, _, rfl, rfl, ?_⟩
    refine ⟨vb, b, m - 1, rfl, by omega, by omega, wb, hb.up s2.tups, fun H3 s3 => ?_⟩
    have s3 := s2.trans s3
    by_cases cb : b.okN = true ∧ (b.parts : Int) ≤ m - 1
    · have eb : apV b (m - 1) = .int b.parts := if_pos cb
      rw [eb]
      refine ⟨_, rfl, ?_⟩
      refine ⟨rfl, _, rfl, iteF ?_⟩
      refine ⟨_, rfl, ?_⟩
      refine ⟨_, _, _, _, rfl, rfl, SqT.of (s3 _ _ ha), (by first | exact at0 | exact at1 | exact at2 | rfl), ?_⟩
      refine ⟨_, rfl, _, _, rfl, rfl, _, rfl, _, _, rfl, rfl, ?_⟩
      refine ⟨vc, c, m - 1 - b.parts, rfl, by omega, by omega, wc, hc.up s3.tups, fun H4 s4 => ?_⟩
      have s4 := s3.trans s4
      by_cases cc : c.okN = true ∧ (c.parts : Int) ≤ m - 1 - b.parts
      · have ec : apV c (m - 1 - b.parts) = .int c.parts := if_pos cc
        rw [ec]
        refine ⟨_, rfl, ?_⟩
        refine ⟨rfl, _, rfl, iteF ?_⟩
        refine ⟨_, rfl, _, _, rfl, rfl, _, rfl, _, _, rfl, rfl, ?_⟩
        refine qi s4 (by rw [eo, cb.1, cc.1]; rfl) ?_ ?_
        · rw [ep]; omega
        · rw [ep]; omega
      · have ec : apV c (m - 1 - b.parts) = .non := if_neg cc
        rw [ec]
        refine ⟨_, rfl, ?_⟩
        refine ⟨rfl, _, rfl, iteT ?_⟩
        refine qn s4 fun z => cc ⟨?_, ?_⟩
        · have z1 := z.1
          rw [eo, Bool.and_eq_true] at z1
          exact z1.2
        · have z2 := z.2
          rw [ep] at z2
          omega
    · have eb : apV b (m - 1) = .non := if_neg cb
      rw [eb]
      refine ⟨_, rfl, ?_⟩
      refine ⟨rfl, _, rfl, iteT ?_⟩
      refine qn s3 fun z => cb ⟨?_, ?_⟩
      · have z1 := z.1
        rw [eo, Bool.and_eq_true] at z1
        exact z1.1
      · have z2 := z.2
        rw [ep] at z2
        omega
theorem ok_amount_parts (T : Txt K mg A) (G1 : Cl P w K mg base CX0 1 "has_kind" (sp_has_kind K)) (G2 : Cl P w K mg base CX0 2 "is_among" sp_is_among) : ∀ n : Nat, Cl P w K mg base CX0 (2 + n) "amount_parts" (sp_ap n)
  | 0 => T.f_amount_parts.none fun vs H Q E ⟨_, _, m, _, h0, h1, _⟩ => by omega
  | n + 1 => amount_step T G1 G2 (ok_amount_parts T G1 G2 n)
end
end K06
end Sec_D1
section Sec_D2
set_option Elab.async false
set_option linter.all false
set_option maxRecDepth 100000
set_option maxHeartbeats 4000000
namespace K06
open PySem PySem.Spec PyProof.Rows L2
section
variable {P : Program} {w : World} {K : PySem.W.Frag} {mg : Str → Option Value} {base : Heap} {A : Ads}
/-! ### amounts: a sign's parts -/
def spV (s : Sgn) : V := if (s.a.ok10 && s.b.ok10) = true then .int (1 + s.a.parts + s.b.parts : Nat) else .non
def sp_sp : Sp := fun vs H Q _ => ∃ (v : V) (s : Sgn), vs = [v] ∧ s.wf ∧ Tp H s.pd v ∧ ∀ H', Same H H' → Q (spV s) H'
theorem ap10 (a : Amt) : apV a 10 = if a.ok10 = true then .int a.parts else .non := by
  unfold apV Amt.ok10
  by_cases h : a.okN = true ∧ (a.parts : Int) ≤ 10
  · have h2 : a.parts ≤ 10 := by omega
    rw [if_pos h, if_pos (by simp [h.1, h2])]
  · rw [if_neg h, if_neg]
    intro z
    rw [Bool.and_eq_true, decide_eq_true_eq] at z
    exact h ⟨z.1, by omega⟩
theorem ok_sign_parts (T : Txt K mg A) (G_has_kind : Cl P w K mg base CX0 1 "has_kind" (sp_has_kind K)) (G_amount_parts : Cl P w K mg base CX0 13 "amount_parts" (sp_ap 11)) : Cl P w K mg base CX0 14 "sign_parts" sp_sp := by
  refine T.f_sign_parts.cl sc_sign_parts (fun vs H Q E h => ?_) (fun f cdv A' outer s H vs Q E hr h => ?_)
  · obtain ⟨v, a, rfl, _⟩ := h; rfl
  obtain ⟨v, g, rfl, wf, hd, q⟩ := h
  refine ⟨_, (pss_cons (ps_if (pt_not (pt_val (pcl G_has_kind hr (by omega) rfl (pa_cons (pv 0) (pa_cons (pe_gc rfl T.c_SIGNS) (pa_cons pe_int pa_nil)))))) (pss_one (ps_ret pe_non)) pss_nil) (pss_cons (ps_set (i := 1) sc_sign_parts.nd rfl (Or.inl rfl) (pcl G_amount_parts hr (by omega) rfl (pa_cons (pe_ix ix_tup (pv 0) pe_int (fun _ _ => rfl)) (pa_cons (pe_gc rfl T.c_MOST_PARTS) pa_nil)))) (pss_cons (ps_set (i := 2) sc_sign_parts.nd rfl (Or.inl rfl) (pcl G_amount_parts hr (by omega) rfl (pa_cons (pe_ix ix_tup (pv 0) pe_int (fun _ _ => rfl)) (pa_cons (pe_gc rfl T.c_MOST_PARTS) pa_nil)))) (pss_cons (ps_if (PW.pt (pw_or (pt_cmpR op_isN (pv 1) pe_non (nomark _)) (pw_or1 (pt_cmpR op_isN (pv 2) pe_non (nomark _))))) (pss_one (ps_ret pe_non)) pss_nil) (pss_one (ps_ret (pe_op op_add (pe_op op_add pe_int (pv 1)) (pv 2)))))))), ?_⟩
  have hd2 := id hd
  obtain ⟨a0, xs, rfl, ha, y, ys, rfl, hy, vb, zs, rfl, hb, vc, us, rfl, hc, rfl⟩ := hd2
  refine ⟨_, rfl, ?_⟩
  refine ⟨_, _, _, _, _, _, rfl, hd, T.k_SIGNS.sq (xs := (["below", "upto"] : List Str).map V.str), _, rfl, tF ?_ ?_⟩
  · rw [show ([g.a.pd, g.b.pd] : List PyData).length = 2 from rfl]
    have h := wf.1
    cases hk : g.k <;> rw [hk] at h <;> first | decide +kernel | exact absurd h (by decide)
  refine ⟨_, rfl, ?_⟩
  refine ⟨_, _, _, _, rfl, rfl, SqT.of (ha), (by first | exact at0 | exact at1 | exact at2 | rfl), ?_⟩
  refine ⟨_, g.a, 10, rfl, by decide, by decide, wf.2.1, hb, fun H1 s1 => ?_⟩
  refine ⟨_, rfl, ?_⟩
  refine ⟨_, _, _, _, rfl, rfl, SqT.of (s1 _ _ ha), (by first | exact at0 | exact at1 | exact at2 | rfl), ?_⟩
  refine ⟨_, g.b, 10, rfl, by decide, by decide, wf.2.2, hc.up s1.tups, fun H2 s2 => ?_⟩
  have s2 := s1.trans s2
  have q := q H2 s2
  unfold spV at q
  refine ⟨_, rfl, ?_⟩
  rw [ap10, ap10]
  cases ea : g.a.ok10 with
  | false =>
    rw [ea, Bool.false_and, if_neg Bool.false_ne_true] at q
    rw [if_neg Bool.false_ne_true]
    exact ⟨rfl, _, rfl, iteT (iteT q)⟩
  | true =>
    rw [if_pos rfl]
    cases eb : g.b.ok10 with
    | false =>
      rw [eb, Bool.and_false, if_neg Bool.false_ne_true] at q
      rw [if_neg Bool.false_ne_true]
      refine ⟨rfl, _, rfl, iteF ?_⟩
      exact ⟨_, rfl, rfl, _, rfl, iteT q⟩
    | true =>
      rw [ea, eb, Bool.and_self, if_pos rfl] at q
      rw [if_pos rfl]
      refine ⟨rfl, _, rfl, iteF ?_⟩
      refine ⟨_, rfl, rfl, _, rfl, iteF ?_⟩
      refine ⟨_, rfl, _, _, rfl, rfl, _, rfl, _, _, rfl, rfl, ?_⟩
      have e : ((1 + g.a.parts + g.b.parts : Nat) : Int) = 1 + (g.a.parts : Int) + (g.b.parts : Int) := by omega
      rw [e] at q
      exact q
/-! ### deals -/
def sp_refuse (C : Addr) : Sp := fun vs H Q E => vs = [] ∧ E (.ref C) none H
theorem ok_refuse (T : Txt K mg A) (R : Err K mg A) : Cl P w K mg base (L2.CX P w) 1 "refuse" (sp_refuse A.BadDeal) := by
  refine T.f_refuse.clX sc_refuse (fun vs H Q E h => ?_) (fun f cdv A' outer s H vs Q E hr h => ?_)
  · rw [h.1]; rfl
  obtain ⟨rfl, q⟩ := h
  refine ⟨_, (pss_one (ps_raise rfl (takes_of rfl rfl rfl rfl) (pmk_own PySem.F.excBase_ValueError R.deal.ex R.gDeal R.deal.k R.deal.raises (by rfl)))), ?_⟩
  exact q
end
end K06
end Sec_D2
section Sec_D3
set_option Elab.async false
set_option linter.all false
set_option maxRecDepth 100000
set_option maxHeartbeats 4000000
namespace K06
open PySem PySem.Spec PyProof.Rows L2
section
variable {P : Program} {w : World} {K : PySem.W.Frag} {mg : Str → Option Value} {base : Heap} {A : Ads}
/-! ### fractions -/
def shD (n m : Int) : Bool := decide (0 < m) && decide (Int.gcd n m = 1)
def sp_is_share : Sp := fun vs H Q _ => ∃ v, vs = [v] ∧ ((v = .non ∧ Q (.bl false) H) ∨ ∃ n m : Int, Tp H (.tuple [.int n, .int m]) v ∧ Q (.bl (shD n m)) H)
theorem gcd_abs (n m : Int) : Int.gcd (if n < 0 then -n else n) m = Int.gcd n m := by
  by_cases h : n < 0
  · rw [if_pos h, Int.neg_gcd]
  · rw [if_neg h]
theorem ok_is_share (T : Txt K mg A) (G_is_whole : Cl P w K mg base CX0 1 "is_whole" sp_is_whole) (G_common : Cl P w K mg base CX0 1 "common" sp_common) : Cl P w K mg base CX0 2 "is_share" sp_is_share := by
  refine T.f_is_share.cl sc_is_share (fun vs H Q E h => ?_) (fun f cdv A' outer s H vs Q E hr h => ?_)
  · obtain ⟨v, rfl, _⟩ := h; rfl
  obtain ⟨v, rfl, ⟨rfl, q⟩ | ⟨n, m, hd, q⟩⟩ := h
  all_goals refine ⟨_, (pss_cons (ps_if (PW.pt (pw_or (pt_not (pt_val (pe_callB call_isi (by rfl) T.z_isinstance (by decide +kernel) (pa_cons (pv 0) (pa_cons (pe_bltn (by rfl) T.z_tuple (by decide +kernel) (v := .ty "tuple") rfl) pa_nil))))) (pw_or (pt_cmpR op_ne (pe_callB call_len_seq (by rfl) T.z_len (by decide +kernel) (pa_cons (pv 0) pa_nil)) pe_int (nomark _)) (pw_or (pt_not (pt_val (pcl G_is_whole hr (by omega) rfl (pa_cons (pe_ix ix_tup (pv 0) pe_int (fun _ _ => rfl)) pa_nil)))) (pw_or1 (pt_not (pt_val (pcl G_is_whole hr (by omega) rfl (pa_cons (pe_ix ix_tup (pv 0) pe_int (fun _ _ => rfl)) pa_nil))))))))) (pss_one (ps_ret pe_bl)) pss_nil) (pss_one (ps_ret (pe_and (pe_cmpR op_gt (pe_ix ix_tup (pv 0) pe_int (fun _ _ => rfl)) pe_int (nomark _)) (pe_one (pe_cmpR op_eq (pcl G_common hr (by omega) rfl (pa_cons (pe_callB call_abs (by rfl) T.z_abs (by decide +kernel) (pa_cons (pe_ix ix_tup (pv 0) pe_int (fun _ _ => rfl)) pa_nil)) (pa_cons (pe_ix ix_tup (pv 0) pe_int (fun _ _ => rfl)) pa_nil))) pe_int (nomark _))))))), ?_⟩
  · refine ⟨_, rfl, ?_⟩
    refine ⟨_, _, _, _, _, rfl, .ty _, Tp.ty (K := K) (show Tp H .none .non from rfl), kit_ty (kit_tuple _), ?_⟩
    exact ⟨_, rfl, iteT (iteT q)⟩
  · obtain ⟨a, xs, rfl, ha, y, ys, rfl, hy, z, zs, rfl, hz, rfl⟩ := id hd
    cases hy; cases hz
    refine ⟨_, rfl, ?_⟩
    refine ⟨_, _, _, _, _, rfl, .ty _, Tp.ty (K := K) (hd), kit_ty (kit_tuple _), ?_⟩
    refine ⟨_, rfl, iteF ?_⟩
    refine ⟨_, rfl, a, _, rfl, .inr (SqT.of ha), rfl, _, rfl, iteF ?_⟩
    refine ⟨_, rfl, ?_⟩
    refine ⟨_, _, _, _, rfl, rfl, SqT.of (ha), (by first | exact at0 | exact at1 | exact at2 | rfl), ?_⟩
    refine ⟨_, .int n, rfl, rfl, _, rfl, iteF ?_⟩
    refine ⟨_, rfl, ?_⟩
    refine ⟨_, _, _, _, rfl, rfl, SqT.of (ha), (by first | exact at0 | exact at1 | exact at2 | rfl), ?_⟩
    refine ⟨_, .int m, rfl, rfl, _, rfl, iteF ?_⟩
    refine ⟨_, rfl, ?_⟩
    refine ⟨_, _, _, _, rfl, rfl, SqT.of (ha), (by first | exact at0 | exact at1 | exact at2 | rfl), ?_⟩
    refine ⟨_, _, rfl, rfl, _, rfl, ?_⟩
    unfold shD at q
    refine itD (fun c => ?_) (fun c => ?_)
    · rw [decide_eq_true c, Bool.true_and] at q
      refine ⟨_, rfl, ?_⟩
      refine ⟨_, _, _, _, rfl, rfl, SqT.of (ha), (by first | exact at0 | exact at1 | exact at2 | rfl), ?_⟩
      refine ⟨_, rfl, _, rfl, ?_⟩
      refine ⟨_, _, _, _, rfl, rfl, SqT.of (ha), (by first | exact at0 | exact at1 | exact at2 | rfl), ?_⟩
      refine ⟨_, _, rfl, ?_, by omega, rfl, ?_⟩
      · split <;> omega
      · rw [gcd_abs]
        have e : decide (V.int ((Int.gcd n m : Nat) : Int) = V.int 1) = decide (Int.gcd n m = 1) := by
          by_cases h : Int.gcd n m = 1
          · rw [h]; rfl
          · rw [decide_eq_false h]
            refine decide_eq_false fun z => h ?_
            have := V.int.inj z
            omega
        rw [e]
        exact q
    · rw [decide_eq_false c, Bool.false_and] at q
      exact q
def sp_is_small : Sp := fun vs H Q _ => ∃ v, vs = [v] ∧ ((v = .non ∧ Q (.bl false) H) ∨ ∃ n m : Int, Tp H (.tuple [.int n, .int m]) v ∧ Q (.bl (shD n m && decide ((n.natAbs : Int) < GR) && decide (m < GR))) H)
theorem abs_nat (n : Int) : (if n < 0 then -n else n) = (n.natAbs : Int) := by split <;> omega
theorem ok_is_small (T : Txt K mg A) (G_is_share : Cl P w K mg base CX0 2 "is_share" sp_is_share) : Cl P w K mg base CX0 3 "is_small" sp_is_small := by
  refine T.f_is_small.cl sc_is_small (fun vs H Q E h => ?_) (fun f cdv A' outer s H vs Q E hr h => ?_)
  · obtain ⟨v, rfl, _⟩ := h; rfl
  obtain ⟨v, rfl, ⟨rfl, q⟩ | ⟨n, m, hd, q⟩⟩ := h
  all_goals refine ⟨_, (pss_one (ps_ret (pe_and (pcl G_is_share hr (by omega) rfl (pa_cons (pv 0) pa_nil)) (pe_and (pe_cmpR op_lt (pe_callB call_abs (by rfl) T.z_abs (by decide +kernel) (pa_cons (pe_ix ix_tup (pv 0) pe_int (fun _ _ => rfl)) pa_nil)) (pe_gc rfl T.c_GREAT) (nomark _)) (pe_one (pe_cmpR op_lt (pe_ix ix_tup (pv 0) pe_int (fun _ _ => rfl)) (pe_gc rfl T.c_GREAT) (nomark _))))))), ?_⟩
  · exact ⟨_, rfl, _, rfl, .inl ⟨rfl, _, rfl, iteF q⟩⟩
  · obtain ⟨a, xs, rfl, ha, y, ys, rfl, hy, z, zs, rfl, hz, rfl⟩ := id hd
    cases hy; cases hz
    refine ⟨_, rfl, _, rfl, .inr ⟨n, m, hd, _, rfl, ?_⟩⟩
    cases e : shD n m with
    | false => rw [e, Bool.false_and, Bool.false_and] at q; exact iteF q
    | true =>
      rw [e, Bool.true_and] at q
      refine iteT ?_
      refine ⟨_, rfl, ?_⟩
      refine ⟨_, _, _, _, rfl, rfl, SqT.of (ha), (by first | exact at0 | exact at1 | exact at2 | rfl), ?_⟩
      refine ⟨_, rfl, _, _, rfl, rfl, _, rfl, ?_⟩
      rw [abs_nat]
      refine itD (fun c => ?_) (fun c => ?_)
      · rw [decide_eq_true (show (n.natAbs : Int) < GR from c), Bool.true_and] at q
        refine ⟨_, rfl, ?_⟩
        refine ⟨_, _, _, _, rfl, rfl, SqT.of (ha), (by first | exact at0 | exact at1 | exact at2 | rfl), ?_⟩
        exact ⟨_, _, rfl, rfl, q⟩
      · rw [decide_eq_false (show ¬ (n.natAbs : Int) < GR from c), Bool.false_and] at q
        exact q
theorem natV_nonneg (ds : Tx) : 0 ≤ numV ds := Int.natCast_nonneg _
theorem Shr.dV_nonneg (q : Shr) : 0 ≤ q.dV := by
  unfold Shr.dV
  cases q.d with
  | none => decide
  | some e => exact natV_nonneg e
theorem Shr.small (q : Shr) (h : q.good = true) : (shD q.nV q.dV && decide ((q.nV.natAbs : Int) < GR) && decide (q.dV < GR)) = q.ok := by
  unfold Shr.ok
  rw [h, Bool.true_and]
  unfold Shr.good at h
  simp only [Bool.and_eq_true, decide_eq_true_eq] at h
  have h1 : (decide (0 < q.dV)) = true := by
    have := q.dV_nonneg
    have := h.1.1.1
    exact decide_eq_true (by omega)
  have h2 : Int.gcd q.nV q.dV = 1 := by
    rw [← h.2]
    unfold Shr.nV
    cases q.neg with
    | true => rw [if_pos rfl, show 0 - numV q.n = -(numV q.n) by omega, Int.neg_gcd]
    | false => rw [if_neg Bool.false_ne_true]
  unfold shD
  rw [h1, decide_eq_true h2, Bool.true_and, Bool.true_and]
/-- of a fraction that was read -/
theorem small_of {H : Hp} {v : V} {q : Shr} {Q : VK} {E : XK} (hd : Tp H q.pd v) (k : Q (.bl q.ok) H) : sp_is_small [v] H Q E := by
  refine ⟨v, rfl, ?_⟩
  unfold Shr.pd at hd
  cases h : q.good with
  | true =>
    rw [h, if_pos rfl] at hd
    refine .inr ⟨_, _, hd, ?_⟩
    rw [q.small h]
    exact k
  | false =>
    rw [h, if_neg Bool.false_ne_true] at hd
    refine .inl ⟨hd, ?_⟩
    have e : q.ok = false := by unfold Shr.ok; rw [h]; rfl
    rw [e] at k
    exact k
/-! ### deals -/
def sp_need_parts (C : Addr) : Sp := fun vs H Q E => ∃ v, vs = [v] ∧ ((v = .non ∧ E (.ref C) none H) ∨ ∃ n, v = .int n ∧ Q v H)
theorem ok_need_parts (T : Txt K mg A) (G_refuse : Cl P w K mg base (L2.CX P w) 1 "refuse" (sp_refuse A.BadDeal)) : Cl P w K mg base (L2.CX P w) 2 "need_parts" (sp_need_parts A.BadDeal) := by
  refine T.f_need_parts.clX sc_need_parts (fun vs H Q E h => ?_) (fun f cdv A' outer s H vs Q E hr h => ?_)
  · obtain ⟨v, rfl, _⟩ := h; rfl
  obtain ⟨v, rfl, ⟨rfl, q⟩ | ⟨n, rfl, q⟩⟩ := h
  all_goals refine ⟨_, (pss_cons (ps_if (pt_cmpR op_isN (pv 0) pe_non (nomark _)) (pss_one (ps_expr (pcl0X G_refuse hr (by omega) (takes_of rfl rfl rfl rfl) rfl))) pss_nil) (pss_one (ps_ret (pv 0)))), ?_⟩
  · exact ⟨_, rfl, rfl, _, rfl, iteT ⟨rfl, q⟩⟩
  · exact ⟨_, rfl, rfl, _, rfl, iteF ⟨_, rfl, q⟩⟩
end
end K06
end Sec_D3
section Sec_D4
set_option Elab.async false
set_option linter.all false
set_option maxRecDepth 100000
set_option maxHeartbeats 4000000
namespace K06
open PySem PySem.Spec PyProof.Rows L2
section
variable {P : Program} {w : World} {K : PySem.W.Frag} {mg : Str → Option Value} {base : Heap} {A : Ads}
theorem et_hk {σ : L2.St} {H : Hp} {v : V} {i m : Nat} {ta : TA} {n : Int} {x : Str} {ds : List PyData} {ws : List Str} {b : Bool} (hσ : σ[i]? = some (some v)) (hd : Tp H (.tuple (.str x :: ds)) v) (ha : Evl.EvA ta σ H (ws.map V.str))
    (hl : ws.length ≤ 100000) (hm : ds.length = m) (e : (decide ((m : Int) + 1 = n) && decide (x ∈ ws)) = b) : Evl.EvT (tTest (tCl (sp_has_kind K) (tCons (tVar i) (tCons (tTup ta) (tCons (tC (.int n)) tNil))))) σ H b := fun H1 e1 Q q =>
  ⟨v, hσ, ha H1 e1 _ fun H2 e2 => ⟨small _ (by rw [List.length_map]; exact hl), fun p np => by
    have e3 : Evl.Ex H2 (upd H2 p (.tup (ws.map V.str))) := Evl.Ex.new np
    refine ⟨v, p, n, x, ds, ws, rfl, hd.up (Same.tups ((e1.trans e2).trans e3)), SqT.of upd_same, b, ?_, q _ (e2.trans e3)⟩
    rw [hm, e]⟩⟩
theorem sl1 {K : PySem.W.Frag} {H : Hp} {a : Addr} {x : V} {xs : List V} {Q : VK} (h : H a = some (.tup (x :: xs))) (q : ∀ p, H p = none → Q (.ref p) (upd H p (.tup xs))) : rSlA K (.ref a) (some 1) none H Q := by
  refine ⟨a, _, rfl, SqT.of h, fun z => ?_, fun _ p n => ?_⟩
  · have h1 := z.1
    rw [show (1 : Int) = ((1 : Nat) : Int) from rfl, HT.sIx_nat, List.length_cons] at h1
    omega
  · have e : cutV (x :: xs) (some 1) none = xs := by
      unfold cutV
      rw [show (1 : Int) = ((1 : Nat) : Int) from rfl, HT.sIx_nat, HT.sIx_none, List.length_cons, show min 1 (xs.length + 1) = 1 by omega]
      simp
    rw [e]
    exact q p n
theorem sl2 {K : PySem.W.Frag} {H : Hp} {a : Addr} {x y : V} {xs : List V} {Q : VK} (h : H a = some (.tup (x :: y :: xs))) (q : ∀ p, H p = none → Q (.ref p) (upd H p (.tup xs))) : rSlA K (.ref a) (some 2) none H Q := by
  refine ⟨a, _, rfl, SqT.of h, fun z => ?_, fun _ p n => ?_⟩
  · have h1 := z.1
    rw [show (2 : Int) = ((2 : Nat) : Int) from rfl, HT.sIx_nat, List.length_cons, List.length_cons] at h1
    omega
  · have e : cutV (x :: y :: xs) (some 2) none = xs := by
      unfold cutV
      rw [show (2 : Int) = ((2 : Nat) : Int) from rfl, HT.sIx_nat, HT.sIx_none, List.length_cons, List.length_cons, show min 2 (xs.length + 1 + 1) = 2 by omega]
      simp
    rw [e]
    exact q p n
/-! ### a deal's own parts -/
abbrev Deal.pd (d : Deal) : PyData := d.dat Shr.pd
def sp_own (C : Addr) : Sp := fun vs H Q E => ∃ (v : V) (d : Deal), vs = [v] ∧ d.wf ∧ Tp H d.pd v ∧ match ownN d with
  | none => ∀ H', Same H H' → E (.ref C) none H'
  | some n => ∀ H' u, Same H H' → Tp H' (.tuple [.int n, .tuple (d.sub.map Deal.pd)]) u → Q u H'
theorem tp_pair {H : Hp} {p q : Addr} {n : Int} {xs : List V} {ds : List PyData} (hp : H p = some (.tup [.int n, .ref q])) (hq : H q = some (.tup xs)) (h : TpL H ds xs) : Tp H (.tuple [.int n, .tuple ds]) (.ref p) :=
  ⟨p, _, rfl, hp, _, _, rfl, rfl, _, _, rfl, ⟨q, xs, rfl, hq, h⟩, rfl⟩
/-- the pair as it is made -/
theorem mk_pair {H H' : Hp} {n n' : Int} {ds : List PyData} {xs : List V} {Q : VK} {q : Addr} (en : n' = n) (e : Same H H') (hq : H' q = some (.tup xs)) (h : TpL H' ds xs) (k : ∀ H' u, Same H H' → Tp H' (.tuple [.int n, .tuple ds]) u → Q u H') :
    ∀ p, H' p = none → Q (.ref p) (upd H' p (.tup [.int n', .ref q])) := fun p np => by
  subst en
  have s : Same H' (upd H' p (.tup [.int n', .ref q])) := Same.new np
  exact k _ _ (e.trans s) (tp_pair upd_same (s _ _ hq) (h.up s.tups))
theorem ok_own_parts (T : Txt K mg A) (G_has_kind : Cl P w K mg base CX0 1 "has_kind" (sp_has_kind K)) (G_amount_parts : Cl P w K mg base CX0 13 "amount_parts" (sp_ap 11)) (G_sign_parts : Cl P w K mg base CX0 14 "sign_parts" sp_sp)
    (G_is_among : Cl P w K mg base CX0 2 "is_among" sp_is_among) (G_is_small : Cl P w K mg base CX0 3 "is_small" sp_is_small) (G_need_parts : Cl P w K mg base (L2.CX P w) 2 "need_parts" (sp_need_parts A.BadDeal))
    (G_refuse : Cl P w K mg base (L2.CX P w) 1 "refuse" (sp_refuse A.BadDeal)) : Cl P w K mg base (L2.CX P w) 15 "own_parts" (sp_own A.BadDeal) := by
  refine T.f_own_parts.clX sc_own_parts (fun vs H Q E h => ?_) (fun f cdv A' outer s H vs Q E hr h => ?_)
  · obtain ⟨v, a, rfl, _⟩ := h; rfl
  obtain ⟨v, d, rfl, wf, hd, q⟩ := h
  refine ⟨_, (pss_cons (ps_if (pt_val (pcl G_has_kind hr (by omega) rfl (pa_cons (pv 0) (pa_cons (pe_tup (pa_cons pe_str pa_nil)) (pa_cons pe_int pa_nil))))) (pss_one (ps_ret (pe_tup (pa_cons pe_int (pa_cons (pe_tup pa_nil) pa_nil))))) pss_nil) (pss_cons (ps_if (pt_val (pcl G_has_kind hr (by omega) rfl (pa_cons (pv 0) (pa_cons (pe_tup (pa_cons pe_str pa_nil)) (pa_cons pe_int pa_nil))))) (pss_one (ps_ret (pe_tup (pa_cons (pe_op op_add pe_int (pclX G_need_parts hr (by omega) (takes_of rfl rfl rfl rfl) rfl (pa_cons (pcl G_amount_parts hr (by omega) rfl (pa_cons (pe_ix ix_tup (pv 0) pe_int (fun _ _ => rfl)) (pa_cons (pe_gc rfl T.c_MOST_PARTS) pa_nil))) pa_nil))) (pa_cons (pe_tup pa_nil) pa_nil))))) pss_nil) (pss_cons (ps_if (pt_val (pcl G_has_kind hr (by omega) rfl (pa_cons (pv 0) (pa_cons (pe_tup (pa_cons pe_str (pa_cons pe_str pa_nil))) (pa_cons pe_int pa_nil))))) (pss_one (ps_ret (pe_tup (pa_cons pe_int (pa_cons (pe_slice sl_tupA (pv 0) (po_some pe_int) po_none) pa_nil))))) pss_nil) (pss_cons (ps_if (pt_val (pcl G_has_kind hr (by omega) rfl (pa_cons (pv 0) (pa_cons (pe_tup (pa_cons pe_str (pa_cons pe_str pa_nil))) (pa_cons pe_int pa_nil))))) (pss_one (ps_ret (pe_tup (pa_cons pe_int (pa_cons (pe_slice sl_tupA (pv 0) (po_some pe_int) po_none) pa_nil))))) pss_nil) (pss_cons (ps_if (PW.pt (pw_and (pt_val (pcl G_has_kind hr (by omega) rfl (pa_cons (pv 0) (pa_cons (pe_tup (pa_cons pe_str pa_nil)) (pa_cons pe_int pa_nil))))) (pw_and1 (pt_val (pcl G_is_among hr (by omega) rfl (pa_cons (pe_ix ix_tup (pv 0) pe_int (fun _ _ => rfl)) (pa_cons pe_int (pa_cons (pe_gc rfl T.c_MOST_LATER) pa_nil)))))))) (pss_one (ps_ret (pe_tup (pa_cons pe_int (pa_cons (pe_slice sl_tupA (pv 0) (po_some pe_int) po_none) pa_nil))))) pss_nil) (pss_cons (ps_if (pt_val (pcl G_has_kind hr (by omega) rfl (pa_cons (pv 0) (pa_cons (pe_tup (pa_cons pe_str (pa_cons pe_str pa_nil))) (pa_cons pe_int pa_nil))))) (pss_one (ps_ret (pe_tup (pa_cons (pe_op op_add pe_int (pclX G_need_parts hr (by omega) (takes_of rfl rfl rfl rfl) rfl (pa_cons (pcl G_sign_parts hr (by omega) rfl (pa_cons (pe_ix ix_tup (pv 0) pe_int (fun _ _ => rfl)) pa_nil)) pa_nil))) (pa_cons (pe_slice sl_tupA (pv 0) (po_some pe_int) po_none) pa_nil))))) pss_nil) (pss_cons (ps_if (pt_val (pcl G_has_kind hr (by omega) rfl (pa_cons (pv 0) (pa_cons (pe_tup (pa_cons pe_str pa_nil)) (pa_cons pe_int pa_nil))))) (pss_one (ps_ret (pe_tup (pa_cons (pe_op op_add pe_int (pclX G_need_parts hr (by omega) (takes_of rfl rfl rfl rfl) rfl (pa_cons (pcl G_amount_parts hr (by omega) rfl (pa_cons (pe_ix ix_tup (pv 0) pe_int (fun _ _ => rfl)) (pa_cons (pe_gc rfl T.c_MOST_PARTS) pa_nil))) pa_nil))) (pa_cons (pe_slice sl_tupA (pv 0) (po_some pe_int) po_none) pa_nil))))) pss_nil) (pss_cons (ps_if (PW.pt (pw_and (pt_val (pcl G_has_kind hr (by omega) rfl (pa_cons (pv 0) (pa_cons (pe_tup (pa_cons pe_str pa_nil)) (pa_cons pe_int pa_nil))))) (pw_and1 (pt_val (pcl G_is_small hr (by omega) rfl (pa_cons (pe_ix ix_tup (pv 0) pe_int (fun _ _ => rfl)) pa_nil)))))) (pss_one (ps_ret (pe_tup (pa_cons pe_int (pa_cons (pe_slice sl_tupA (pv 0) (po_some pe_int) po_none) pa_nil))))) pss_nil) (pss_one (ps_ret (pcl0X G_refuse hr (by omega) (takes_of rfl rfl rfl rfl) rfl))))))))))), ?_⟩
  have e0 : Same H H := Same.refl H
  cases d with
  | none =>
    have q : ∀ H' u, Same H H' → Tp H' (.tuple [.int 1, .tuple []]) u → Q u H' := q
    refine Evl.q_when (b := true) (et_hk (m := 0) (ws := ["none"]) rfl (hd.up e0.tups) (Evl.ea_cons Evl.ev_c Evl.ea_nil) (by decide) rfl (by decide +kernel)) (fun _ _ e1 => ?_) (fun h => Bool.noConfusion h)
    have e0 := e0.trans e1
    refine ⟨(by show 0 ≤ sizeLine; decide), fun p1 n1 => ?_⟩
    refine ⟨(by show 2 ≤ sizeLine; decide), ?_⟩
    exact mk_pair (ds := []) (xs := []) rfl (e0.trans (Same.new n1)) upd_same rfl q
  | coin a =>
    refine Evl.q_when (b := false) (et_hk (m := 1) (ws := ["none"]) rfl (hd.up e0.tups) (Evl.ea_cons Evl.ev_c Evl.ea_nil) (by decide) rfl (by decide +kernel)) (fun h => Bool.noConfusion h) (fun _ _ e1 => ?_)
    have e0 := e0.trans e1
    refine Evl.q_when (b := true) (et_hk (m := 1) (ws := ["coin"]) rfl (hd.up e0.tups) (Evl.ea_cons Evl.ev_c Evl.ea_nil) (by decide) rfl (by decide +kernel)) (fun _ _ e1 => ?_) (fun h => Bool.noConfusion h)
    have e0 := e0.trans e1
    obtain ⟨a0, xs, rfl, ha, y, ys, rfl, hy, z, zs, rfl, hz, hn⟩ := id hd
    cases hn
    refine ⟨_, rfl, ?_⟩
    refine ⟨_, _, _, _, rfl, rfl, SqT.of (e0 _ _ ha), (by first | exact at0 | exact at1 | exact at2 | rfl), ?_⟩
    refine ⟨_, a, 10, rfl, by decide, by decide, wf, hz.up e0.tups, fun H2 s2 => ?_⟩
    have e0 := e0.trans s2
    rw [ap10]
    cases ea : a.ok10 with
    | true =>
      have q : ∀ H' u, Same H H' → Tp H' (.tuple [.int (1 + a.parts : Nat), .tuple []]) u → Q u H' := by
        have e : ownN (.coin a) = some (1 + a.parts) := if_pos ea
        simp only [e] at q
        exact q
      refine ⟨_, rfl, .inr ⟨_, rfl, ?_⟩⟩
      refine ⟨_, _, rfl, rfl, ?_⟩
      refine ⟨(by show 0 ≤ sizeLine; decide), fun p1 n1 => ?_⟩
      refine ⟨(by show 2 ≤ sizeLine; decide), ?_⟩
      exact mk_pair (ds := []) (xs := []) (by omega) (e0.trans (Same.new n1)) upd_same rfl q
    | false =>
      have q : ∀ H', Same H H' → E (.ref A.BadDeal) none H' := by
        have e : ownN (.coin a) = none := if_neg (by rw [ea]; exact Bool.false_ne_true)
        simp only [e] at q
        exact q
      exact ⟨_, rfl, .inl ⟨rfl, q _ e0⟩⟩
  | one w d =>
    have q : ∀ H' u, Same H H' → Tp H' (.tuple [.int 1, .tuple [d.pd]]) u → Q u H' := q
    have go : ∀ H1 (D : L2.Ends), Same H H1 → D.rt = Q → tRet (tTup (tCons (tC (.int 1)) (tCons (tSl (rSlA K) (tVar 0) (tPart (tC (.int 1))) tNoPart) tNil))) D (L2.start N_own_parts [v]) H1 := by
      intro H1 D e0 eD
      obtain ⟨a0, xs, rfl, ha, y, ys, rfl, hy, hz⟩ := id hd
      refine ⟨_, rfl, ?_⟩
      refine ⟨_, rfl, ?_⟩
      dsimp only [tNoPart]
      refine sl1 (e0 _ _ ha) fun p n => ?_
      refine ⟨(by show 2 ≤ sizeLine; decide), ?_⟩
      rw [eD]
      have s1 : Same H1 (upd H1 p (.tup ys)) := Same.new n
      exact mk_pair rfl (e0.trans s1) upd_same (hz.up (e0.trans s1).tups) q
    rcases wf.1 with rfl | rfl
    · skip
      refine Evl.q_when (b := false) (et_hk (m := 1) (ws := ["none"]) rfl (hd.up e0.tups) (Evl.ea_cons Evl.ev_c Evl.ea_nil) (by decide) rfl (by decide +kernel)) (fun h => Bool.noConfusion h) (fun _ _ e1 => ?_)
      have e0 := e0.trans e1
      refine Evl.q_when (b := false) (et_hk (m := 1) (ws := ["coin"]) rfl (hd.up e0.tups) (Evl.ea_cons Evl.ev_c Evl.ea_nil) (by decide) rfl (by decide +kernel)) (fun h => Bool.noConfusion h) (fun _ _ e1 => ?_)
      have e0 := e0.trans e1
      refine Evl.q_when (b := true) (et_hk (m := 1) (ws := ["give", "any"]) rfl (hd.up e0.tups) (Evl.ea_cons Evl.ev_c (Evl.ea_cons Evl.ev_c Evl.ea_nil)) (by decide) rfl (by decide +kernel)) (fun _ _ e1 => ?_) (fun h => Bool.noConfusion h)
      have e0 := e0.trans e1
      exact go _ _ e0 rfl
    · skip
      refine Evl.q_when (b := false) (et_hk (m := 1) (ws := ["none"]) rfl (hd.up e0.tups) (Evl.ea_cons Evl.ev_c Evl.ea_nil) (by decide) rfl (by decide +kernel)) (fun h => Bool.noConfusion h) (fun _ _ e1 => ?_)
      have e0 := e0.trans e1
      refine Evl.q_when (b := false) (et_hk (m := 1) (ws := ["coin"]) rfl (hd.up e0.tups) (Evl.ea_cons Evl.ev_c Evl.ea_nil) (by decide) rfl (by decide +kernel)) (fun h => Bool.noConfusion h) (fun _ _ e1 => ?_)
      have e0 := e0.trans e1
      refine Evl.q_when (b := true) (et_hk (m := 1) (ws := ["give", "any"]) rfl (hd.up e0.tups) (Evl.ea_cons Evl.ev_c (Evl.ea_cons Evl.ev_c Evl.ea_nil)) (by decide) rfl (by decide +kernel)) (fun _ _ e1 => ?_) (fun h => Bool.noConfusion h)
      have e0 := e0.trans e1
      exact go _ _ e0 rfl
  | two w d1 d2 =>
    have q : ∀ H' u, Same H H' → Tp H' (.tuple [.int 1, .tuple [d1.pd, d2.pd]]) u → Q u H' := q
    have go : ∀ H1 (D : L2.Ends), Same H H1 → D.rt = Q → tRet (tTup (tCons (tC (.int 1)) (tCons (tSl (rSlA K) (tVar 0) (tPart (tC (.int 1))) tNoPart) tNil))) D (L2.start N_own_parts [v]) H1 := by
      intro H1 D e0 eD
      obtain ⟨a0, xs, rfl, ha, y, ys, rfl, hy, hz⟩ := id hd
      refine ⟨_, rfl, ?_⟩
      refine ⟨_, rfl, ?_⟩
      dsimp only [tNoPart]
      refine sl1 (e0 _ _ ha) fun p n => ?_
      refine ⟨(by show 2 ≤ sizeLine; decide), ?_⟩
      rw [eD]
      have s1 : Same H1 (upd H1 p (.tup ys)) := Same.new n
      exact mk_pair rfl (e0.trans s1) upd_same (hz.up (e0.trans s1).tups) q
    rcases wf.1 with rfl | rfl
    · skip
      refine Evl.q_when (b := false) (et_hk (m := 2) (ws := ["none"]) rfl (hd.up e0.tups) (Evl.ea_cons Evl.ev_c Evl.ea_nil) (by decide) rfl (by decide +kernel)) (fun h => Bool.noConfusion h) (fun _ _ e1 => ?_)
      have e0 := e0.trans e1
      refine Evl.q_when (b := false) (et_hk (m := 2) (ws := ["coin"]) rfl (hd.up e0.tups) (Evl.ea_cons Evl.ev_c Evl.ea_nil) (by decide) rfl (by decide +kernel)) (fun h => Bool.noConfusion h) (fun _ _ e1 => ?_)
      have e0 := e0.trans e1
      refine Evl.q_when (b := false) (et_hk (m := 2) (ws := ["give", "any"]) rfl (hd.up e0.tups) (Evl.ea_cons Evl.ev_c (Evl.ea_cons Evl.ev_c Evl.ea_nil)) (by decide) rfl (by decide +kernel)) (fun h => Bool.noConfusion h) (fun _ _ e1 => ?_)
      have e0 := e0.trans e1
      refine Evl.q_when (b := true) (et_hk (m := 2) (ws := ["both", "either"]) rfl (hd.up e0.tups) (Evl.ea_cons Evl.ev_c (Evl.ea_cons Evl.ev_c Evl.ea_nil)) (by decide) rfl (by decide +kernel)) (fun _ _ e1 => ?_) (fun h => Bool.noConfusion h)
      have e0 := e0.trans e1
      exact go _ _ e0 rfl
    · skip
      refine Evl.q_when (b := false) (et_hk (m := 2) (ws := ["none"]) rfl (hd.up e0.tups) (Evl.ea_cons Evl.ev_c Evl.ea_nil) (by decide) rfl (by decide +kernel)) (fun h => Bool.noConfusion h) (fun _ _ e1 => ?_)
      have e0 := e0.trans e1
      refine Evl.q_when (b := false) (et_hk (m := 2) (ws := ["coin"]) rfl (hd.up e0.tups) (Evl.ea_cons Evl.ev_c Evl.ea_nil) (by decide) rfl (by decide +kernel)) (fun h => Bool.noConfusion h) (fun _ _ e1 => ?_)
      have e0 := e0.trans e1
      refine Evl.q_when (b := false) (et_hk (m := 2) (ws := ["give", "any"]) rfl (hd.up e0.tups) (Evl.ea_cons Evl.ev_c (Evl.ea_cons Evl.ev_c Evl.ea_nil)) (by decide) rfl (by decide +kernel)) (fun h => Bool.noConfusion h) (fun _ _ e1 => ?_)
      have e0 := e0.trans e1
      refine Evl.q_when (b := true) (et_hk (m := 2) (ws := ["both", "either"]) rfl (hd.up e0.tups) (Evl.ea_cons Evl.ev_c (Evl.ea_cons Evl.ev_c Evl.ea_nil)) (by decide) rfl (by decide +kernel)) (fun _ _ e1 => ?_) (fun h => Bool.noConfusion h)
      have e0 := e0.trans e1
      exact go _ _ e0 rfl
  | later g d =>
    have go : ∀ H1 (D : L2.Ends), Same H H1 → D.rt = Q → (∀ H' u, Same H H' → Tp H' (.tuple [.int 1, .tuple [d.pd]]) u → Q u H') → tRet (tTup (tCons (tC (.int 1)) (tCons (tSl (rSlA K) (tVar 0) (tPart (tC (.int 2))) tNoPart) tNil))) D (L2.start N_own_parts [v]) H1 := by
      intro H1 D e0 eD q
      obtain ⟨a0, xs, rfl, ha, y, ys, rfl, hy, z, zs, rfl, hz, hu⟩ := id hd
      refine ⟨_, rfl, ?_⟩
      refine ⟨_, rfl, ?_⟩
      dsimp only [tNoPart]
      refine sl2 (e0 _ _ ha) fun p n => ?_
      refine ⟨(by show 2 ≤ sizeLine; decide), ?_⟩
      rw [eD]
      have s1 : Same H1 (upd H1 p (.tup zs)) := Same.new n
      exact mk_pair rfl (e0.trans s1) upd_same (hu.up (e0.trans s1).tups) q
    refine Evl.q_when (b := false) (et_hk (m := 2) (ws := ["none"]) rfl (hd.up e0.tups) (Evl.ea_cons Evl.ev_c Evl.ea_nil) (by decide) rfl (by decide +kernel)) (fun h => Bool.noConfusion h) (fun _ _ e1 => ?_)
    have e0 := e0.trans e1
    refine Evl.q_when (b := false) (et_hk (m := 2) (ws := ["coin"]) rfl (hd.up e0.tups) (Evl.ea_cons Evl.ev_c Evl.ea_nil) (by decide) rfl (by decide +kernel)) (fun h => Bool.noConfusion h) (fun _ _ e1 => ?_)
    have e0 := e0.trans e1
    refine Evl.q_when (b := false) (et_hk (m := 2) (ws := ["give", "any"]) rfl (hd.up e0.tups) (Evl.ea_cons Evl.ev_c (Evl.ea_cons Evl.ev_c Evl.ea_nil)) (by decide) rfl (by decide +kernel)) (fun h => Bool.noConfusion h) (fun _ _ e1 => ?_)
    have e0 := e0.trans e1
    refine Evl.q_when (b := false) (et_hk (m := 2) (ws := ["both", "either"]) rfl (hd.up e0.tups) (Evl.ea_cons Evl.ev_c (Evl.ea_cons Evl.ev_c Evl.ea_nil)) (by decide) rfl (by decide +kernel)) (fun h => Bool.noConfusion h) (fun _ _ e1 => ?_)
    have e0 := e0.trans e1
    cases eb : (decide (0 ≤ numV g) && decide (numV g ≤ 9)) with
    | true =>
      have q : ∀ H' u, Same H H' → Tp H' (.tuple [.int 1, .tuple [d.pd]]) u → Q u H' := by
        have e : ownN (.later g d) = some 1 := if_pos eb
        simp only [e] at q
        exact q
      refine Evl.q_when (b := true) (Evl.et_and (a := true) (b := true) (et_hk (m := 2) (ws := ["later"]) rfl (hd.up e0.tups) (Evl.ea_cons Evl.ev_c Evl.ea_nil) (by decide) rfl (by decide +kernel)) (fun _ => ?_)) (fun _ _ e1 => ?_) (fun h => Bool.noConfusion h)
      · intro H1 e1 Q1 q1
        have e2 := e0.trans e1
        obtain ⟨a0, xs, rfl, ha, y, ys, rfl, hy, z, zs, rfl, hz, hu⟩ := id hd
        refine ⟨_, rfl, ?_⟩
        refine ⟨_, _, _, _, rfl, rfl, SqT.of (e2 _ _ ha), (by first | exact at0 | exact at1 | exact at2 | rfl), ?_⟩
        exact ⟨z, .int (numV g), 0, 9, rfl, hz, true, congrArg V.bl eb, q1 _ (Same.refl _)⟩
      · have e0 := e0.trans e1
        exact go _ _ e0 rfl q
    | false =>
      have q : ∀ H', Same H H' → E (.ref A.BadDeal) none H' := by
        have e : ownN (.later g d) = none := if_neg (by rw [eb]; exact Bool.false_ne_true)
        simp only [e] at q
        exact q
      refine Evl.q_when (b := false) (Evl.et_and (a := true) (b := false) (et_hk (m := 2) (ws := ["later"]) rfl (hd.up e0.tups) (Evl.ea_cons Evl.ev_c Evl.ea_nil) (by decide) rfl (by decide +kernel)) (fun _ => ?_)) (fun h => Bool.noConfusion h) (fun _ _ e1 => ?_)
      · intro H1 e1 Q1 q1
        have e2 := e0.trans e1
        obtain ⟨a0, xs, rfl, ha, y, ys, rfl, hy, z, zs, rfl, hz, hu⟩ := id hd
        refine ⟨_, rfl, ?_⟩
        refine ⟨_, _, _, _, rfl, rfl, SqT.of (e2 _ _ ha), (by first | exact at0 | exact at1 | exact at2 | rfl), ?_⟩
        exact ⟨z, .int (numV g), 0, 9, rfl, hz, false, congrArg V.bl eb, q1 _ (Same.refl _)⟩
      · have e0 := e0.trans e1
        refine Evl.q_when (b := false) (et_hk (m := 2) (ws := ["once", "until"]) rfl (hd.up e0.tups) (Evl.ea_cons Evl.ev_c (Evl.ea_cons Evl.ev_c Evl.ea_nil)) (by decide) rfl (by decide +kernel)) (fun h => Bool.noConfusion h) (fun _ _ e1 => ?_)
        have e0 := e0.trans e1
        refine Evl.q_when (b := false) (et_hk (m := 2) (ws := ["scale"]) rfl (hd.up e0.tups) (Evl.ea_cons Evl.ev_c Evl.ea_nil) (by decide) rfl (by decide +kernel)) (fun h => Bool.noConfusion h) (fun _ _ e1 => ?_)
        have e0 := e0.trans e1
        refine Evl.q_when (b := false) (Evl.et_and (a := false) (b := true) (et_hk (m := 2) (ws := ["by"]) rfl (hd.up e0.tups) (Evl.ea_cons Evl.ev_c Evl.ea_nil) (by decide) rfl (by decide +kernel)) (fun h => Bool.noConfusion h)) (fun h => Bool.noConfusion h) (fun _ _ e1 => ?_)
        have e0 := e0.trans e1
        exact ⟨rfl, q _ e0⟩
  | when w g d =>
    have go : ∀ H1 (D : L2.Ends), Same H H1 → D.rt = Q → tRet (tTup (tCons (tOp (rI0 fun i j => V.int (i + j)) (tC (V.int 1)) (tClX (sp_need_parts A.BadDeal) (fun cls d x H => E cls d H) (tCons (tCl sp_sp (tCons (tOp (rIxT K) (tVar 0) (tC (V.int 1))) tNil)) tNil)))
        (tCons (tSl (rSlA K) (tVar 0) (tPart (tC (.int 2))) tNoPart) tNil))) D (L2.start N_own_parts [v]) H1 := by
      intro H1 D e0 eD
      obtain ⟨a0, xs, rfl, ha, y, ys, rfl, hy, z, zs, rfl, hz, hu⟩ := id hd
      refine ⟨_, rfl, ?_⟩
      refine ⟨_, _, _, _, rfl, rfl, SqT.of (e0 _ _ ha), (by first | exact at0 | exact at1 | exact at2 | rfl), ?_⟩
      refine ⟨_, g, rfl, wf.2.1, hz.up e0.tups, fun H2 s2 => ?_⟩
      have e0 := e0.trans s2
      unfold spV
      cases eb : (g.a.ok10 && g.b.ok10) with
      | true =>
        have q : ∀ H' u, Same H H' → Tp H' (.tuple [.int (2 + g.a.parts + g.b.parts : Nat), .tuple [d.pd]]) u → Q u H' := by
          have e : ownN (.when w g d) = some (2 + g.a.parts + g.b.parts) := if_pos eb
          simp only [e] at q
          exact q
        refine ⟨_, rfl, .inr ⟨_, rfl, ?_⟩⟩
        refine ⟨_, _, rfl, rfl, ?_⟩
        refine ⟨_, rfl, ?_⟩
        refine ⟨_, rfl, ?_⟩
        dsimp only [tNoPart]
        refine sl2 (e0 _ _ ha) fun p n => ?_
        refine ⟨(by show 2 ≤ sizeLine; decide), ?_⟩
        rw [eD]
        have s1 : Same H2 (upd H2 p (.tup zs)) := Same.new n
        exact mk_pair (by omega) (e0.trans s1) upd_same (hu.up (e0.trans s1).tups) q
      | false =>
        have q : ∀ H', Same H H' → E (.ref A.BadDeal) none H' := by
          have e : ownN (.when w g d) = none := if_neg (by rw [eb]; exact Bool.false_ne_true)
          simp only [e] at q
          exact q
        exact ⟨_, rfl, .inl ⟨rfl, q _ e0⟩⟩
    rcases wf.1 with rfl | rfl
    · skip
      refine Evl.q_when (b := false) (et_hk (m := 2) (ws := ["none"]) rfl (hd.up e0.tups) (Evl.ea_cons Evl.ev_c Evl.ea_nil) (by decide) rfl (by decide +kernel)) (fun h => Bool.noConfusion h) (fun _ _ e1 => ?_)
      have e0 := e0.trans e1
      refine Evl.q_when (b := false) (et_hk (m := 2) (ws := ["coin"]) rfl (hd.up e0.tups) (Evl.ea_cons Evl.ev_c Evl.ea_nil) (by decide) rfl (by decide +kernel)) (fun h => Bool.noConfusion h) (fun _ _ e1 => ?_)
      have e0 := e0.trans e1
      refine Evl.q_when (b := false) (et_hk (m := 2) (ws := ["give", "any"]) rfl (hd.up e0.tups) (Evl.ea_cons Evl.ev_c (Evl.ea_cons Evl.ev_c Evl.ea_nil)) (by decide) rfl (by decide +kernel)) (fun h => Bool.noConfusion h) (fun _ _ e1 => ?_)
      have e0 := e0.trans e1
      refine Evl.q_when (b := false) (et_hk (m := 2) (ws := ["both", "either"]) rfl (hd.up e0.tups) (Evl.ea_cons Evl.ev_c (Evl.ea_cons Evl.ev_c Evl.ea_nil)) (by decide) rfl (by decide +kernel)) (fun h => Bool.noConfusion h) (fun _ _ e1 => ?_)
      have e0 := e0.trans e1
      refine Evl.q_when (b := false) (Evl.et_and (a := false) (b := true) (et_hk (m := 2) (ws := ["later"]) rfl (hd.up e0.tups) (Evl.ea_cons Evl.ev_c Evl.ea_nil) (by decide) rfl (by decide +kernel)) (fun h => Bool.noConfusion h)) (fun h => Bool.noConfusion h) (fun _ _ e1 => ?_)
      have e0 := e0.trans e1
      refine Evl.q_when (b := true) (et_hk (m := 2) (ws := ["once", "until"]) rfl (hd.up e0.tups) (Evl.ea_cons Evl.ev_c (Evl.ea_cons Evl.ev_c Evl.ea_nil)) (by decide) rfl (by decide +kernel)) (fun _ _ e1 => ?_) (fun h => Bool.noConfusion h)
      have e0 := e0.trans e1
      exact go _ _ e0 rfl
    · skip
      refine Evl.q_when (b := false) (et_hk (m := 2) (ws := ["none"]) rfl (hd.up e0.tups) (Evl.ea_cons Evl.ev_c Evl.ea_nil) (by decide) rfl (by decide +kernel)) (fun h => Bool.noConfusion h) (fun _ _ e1 => ?_)
      have e0 := e0.trans e1
      refine Evl.q_when (b := false) (et_hk (m := 2) (ws := ["coin"]) rfl (hd.up e0.tups) (Evl.ea_cons Evl.ev_c Evl.ea_nil) (by decide) rfl (by decide +kernel)) (fun h => Bool.noConfusion h) (fun _ _ e1 => ?_)
      have e0 := e0.trans e1
      refine Evl.q_when (b := false) (et_hk (m := 2) (ws := ["give", "any"]) rfl (hd.up e0.tups) (Evl.ea_cons Evl.ev_c (Evl.ea_cons Evl.ev_c Evl.ea_nil)) (by decide) rfl (by decide +kernel)) (fun h => Bool.noConfusion h) (fun _ _ e1 => ?_)
      have e0 := e0.trans e1
      refine Evl.q_when (b := false) (et_hk (m := 2) (ws := ["both", "either"]) rfl (hd.up e0.tups) (Evl.ea_cons Evl.ev_c (Evl.ea_cons Evl.ev_c Evl.ea_nil)) (by decide) rfl (by decide +kernel)) (fun h => Bool.noConfusion h) (fun _ _ e1 => ?_)
      have e0 := e0.trans e1
      refine Evl.q_when (b := false) (Evl.et_and (a := false) (b := true) (et_hk (m := 2) (ws := ["later"]) rfl (hd.up e0.tups) (Evl.ea_cons Evl.ev_c Evl.ea_nil) (by decide) rfl (by decide +kernel)) (fun h => Bool.noConfusion h)) (fun h => Bool.noConfusion h) (fun _ _ e1 => ?_)
      have e0 := e0.trans e1
      refine Evl.q_when (b := true) (et_hk (m := 2) (ws := ["once", "until"]) rfl (hd.up e0.tups) (Evl.ea_cons Evl.ev_c (Evl.ea_cons Evl.ev_c Evl.ea_nil)) (by decide) rfl (by decide +kernel)) (fun _ _ e1 => ?_) (fun h => Bool.noConfusion h)
      have e0 := e0.trans e1
      exact go _ _ e0 rfl
  | scale a d =>
    refine Evl.q_when (b := false) (et_hk (m := 2) (ws := ["none"]) rfl (hd.up e0.tups) (Evl.ea_cons Evl.ev_c Evl.ea_nil) (by decide) rfl (by decide +kernel)) (fun h => Bool.noConfusion h) (fun _ _ e1 => ?_)
    have e0 := e0.trans e1
    refine Evl.q_when (b := false) (et_hk (m := 2) (ws := ["coin"]) rfl (hd.up e0.tups) (Evl.ea_cons Evl.ev_c Evl.ea_nil) (by decide) rfl (by decide +kernel)) (fun h => Bool.noConfusion h) (fun _ _ e1 => ?_)
    have e0 := e0.trans e1
    refine Evl.q_when (b := false) (et_hk (m := 2) (ws := ["give", "any"]) rfl (hd.up e0.tups) (Evl.ea_cons Evl.ev_c (Evl.ea_cons Evl.ev_c Evl.ea_nil)) (by decide) rfl (by decide +kernel)) (fun h => Bool.noConfusion h) (fun _ _ e1 => ?_)
    have e0 := e0.trans e1
    refine Evl.q_when (b := false) (et_hk (m := 2) (ws := ["both", "either"]) rfl (hd.up e0.tups) (Evl.ea_cons Evl.ev_c (Evl.ea_cons Evl.ev_c Evl.ea_nil)) (by decide) rfl (by decide +kernel)) (fun h => Bool.noConfusion h) (fun _ _ e1 => ?_)
    have e0 := e0.trans e1
    refine Evl.q_when (b := false) (Evl.et_and (a := false) (b := true) (et_hk (m := 2) (ws := ["later"]) rfl (hd.up e0.tups) (Evl.ea_cons Evl.ev_c Evl.ea_nil) (by decide) rfl (by decide +kernel)) (fun h => Bool.noConfusion h)) (fun h => Bool.noConfusion h) (fun _ _ e1 => ?_)
    have e0 := e0.trans e1
    refine Evl.q_when (b := false) (et_hk (m := 2) (ws := ["once", "until"]) rfl (hd.up e0.tups) (Evl.ea_cons Evl.ev_c (Evl.ea_cons Evl.ev_c Evl.ea_nil)) (by decide) rfl (by decide +kernel)) (fun h => Bool.noConfusion h) (fun _ _ e1 => ?_)
    have e0 := e0.trans e1
    refine Evl.q_when (b := true) (et_hk (m := 2) (ws := ["scale"]) rfl (hd.up e0.tups) (Evl.ea_cons Evl.ev_c Evl.ea_nil) (by decide) rfl (by decide +kernel)) (fun _ _ e1 => ?_) (fun h => Bool.noConfusion h)
    have e0 := e0.trans e1
    obtain ⟨a0, xs, rfl, ha, y, ys, rfl, hy, z, zs, rfl, hz, hu⟩ := id hd
    refine ⟨_, rfl, ?_⟩
    refine ⟨_, _, _, _, rfl, rfl, SqT.of (e0 _ _ ha), (by first | exact at0 | exact at1 | exact at2 | rfl), ?_⟩
    refine ⟨_, a, 10, rfl, by decide, by decide, wf.1, hz.up e0.tups, fun H2 s2 => ?_⟩
    have e0 := e0.trans s2
    rw [ap10]
    cases ea : a.ok10 with
    | true =>
      have q : ∀ H' u, Same H H' → Tp H' (.tuple [.int (1 + a.parts : Nat), .tuple [d.pd]]) u → Q u H' := by
        have e : ownN (.scale a d) = some (1 + a.parts) := if_pos ea
        simp only [e] at q
        exact q
      refine ⟨_, rfl, .inr ⟨_, rfl, ?_⟩⟩
      refine ⟨_, _, rfl, rfl, ?_⟩
      refine ⟨_, rfl, ?_⟩
      refine ⟨_, rfl, ?_⟩
      dsimp only [tNoPart]
      refine sl2 (e0 _ _ ha) fun p n => ?_
      refine ⟨(by show 2 ≤ sizeLine; decide), ?_⟩
      have s1 : Same H2 (upd H2 p (.tup zs)) := Same.new n
      exact mk_pair (by omega) (e0.trans s1) upd_same (hu.up (e0.trans s1).tups) q
    | false =>
      have q : ∀ H', Same H H' → E (.ref A.BadDeal) none H' := by
        have e : ownN (.scale a d) = none := if_neg (by rw [ea]; exact Bool.false_ne_true)
        simp only [e] at q
        exact q
      exact ⟨_, rfl, .inl ⟨rfl, q _ e0⟩⟩
  | «by» g d =>
    have go : ∀ H1 (D : L2.Ends), Same H H1 → D.rt = Q → (∀ H' u, Same H H' → Tp H' (.tuple [.int 1, .tuple [d.pd]]) u → Q u H') → tRet (tTup (tCons (tC (.int 1)) (tCons (tSl (rSlA K) (tVar 0) (tPart (tC (.int 2))) tNoPart) tNil))) D (L2.start N_own_parts [v]) H1 := by
      intro H1 D e0 eD q
      obtain ⟨a0, xs, rfl, ha, y, ys, rfl, hy, z, zs, rfl, hz, hu⟩ := id hd
      refine ⟨_, rfl, ?_⟩
      refine ⟨_, rfl, ?_⟩
      dsimp only [tNoPart]
      refine sl2 (e0 _ _ ha) fun p n => ?_
      refine ⟨(by show 2 ≤ sizeLine; decide), ?_⟩
      rw [eD]
      have s1 : Same H1 (upd H1 p (.tup zs)) := Same.new n
      exact mk_pair rfl (e0.trans s1) upd_same (hu.up (e0.trans s1).tups) q
    refine Evl.q_when (b := false) (et_hk (m := 2) (ws := ["none"]) rfl (hd.up e0.tups) (Evl.ea_cons Evl.ev_c Evl.ea_nil) (by decide) rfl (by decide +kernel)) (fun h => Bool.noConfusion h) (fun _ _ e1 => ?_)
    have e0 := e0.trans e1
    refine Evl.q_when (b := false) (et_hk (m := 2) (ws := ["coin"]) rfl (hd.up e0.tups) (Evl.ea_cons Evl.ev_c Evl.ea_nil) (by decide) rfl (by decide +kernel)) (fun h => Bool.noConfusion h) (fun _ _ e1 => ?_)
    have e0 := e0.trans e1
    refine Evl.q_when (b := false) (et_hk (m := 2) (ws := ["give", "any"]) rfl (hd.up e0.tups) (Evl.ea_cons Evl.ev_c (Evl.ea_cons Evl.ev_c Evl.ea_nil)) (by decide) rfl (by decide +kernel)) (fun h => Bool.noConfusion h) (fun _ _ e1 => ?_)
    have e0 := e0.trans e1
    refine Evl.q_when (b := false) (et_hk (m := 2) (ws := ["both", "either"]) rfl (hd.up e0.tups) (Evl.ea_cons Evl.ev_c (Evl.ea_cons Evl.ev_c Evl.ea_nil)) (by decide) rfl (by decide +kernel)) (fun h => Bool.noConfusion h) (fun _ _ e1 => ?_)
    have e0 := e0.trans e1
    refine Evl.q_when (b := false) (Evl.et_and (a := false) (b := true) (et_hk (m := 2) (ws := ["later"]) rfl (hd.up e0.tups) (Evl.ea_cons Evl.ev_c Evl.ea_nil) (by decide) rfl (by decide +kernel)) (fun h => Bool.noConfusion h)) (fun h => Bool.noConfusion h) (fun _ _ e1 => ?_)
    have e0 := e0.trans e1
    refine Evl.q_when (b := false) (et_hk (m := 2) (ws := ["once", "until"]) rfl (hd.up e0.tups) (Evl.ea_cons Evl.ev_c (Evl.ea_cons Evl.ev_c Evl.ea_nil)) (by decide) rfl (by decide +kernel)) (fun h => Bool.noConfusion h) (fun _ _ e1 => ?_)
    have e0 := e0.trans e1
    refine Evl.q_when (b := false) (et_hk (m := 2) (ws := ["scale"]) rfl (hd.up e0.tups) (Evl.ea_cons Evl.ev_c Evl.ea_nil) (by decide) rfl (by decide +kernel)) (fun h => Bool.noConfusion h) (fun _ _ e1 => ?_)
    have e0 := e0.trans e1
    have sm : ∀ b, g.ok = b → ∀ H1, Same H H1 → Evl.EvT (tTest (tCl sp_is_small (tCons (tOp (rIxT K) (tVar 0) (tC (.int 1))) tNil))) (L2.start N_own_parts [v]) H1 b := by
      intro b eb H1 e1 H2 e2 Q1 q1
      have e2 := e1.trans e2
      obtain ⟨a0, xs, rfl, ha, y, ys, rfl, hy, z, zs, rfl, hz, hu⟩ := id hd
      refine ⟨_, rfl, ?_⟩
      refine ⟨_, _, _, _, rfl, rfl, SqT.of (e2 _ _ ha), (by first | exact at0 | exact at1 | exact at2 | rfl), ?_⟩
      dsimp only [tNil]
      refine small_of (hz.up e2.tups) ?_
      rw [eb]
      exact ⟨b, rfl, q1 _ (Same.refl _)⟩
    cases eb : g.ok with
    | true =>
      have q : ∀ H' u, Same H H' → Tp H' (.tuple [.int 1, .tuple [d.pd]]) u → Q u H' := by
        have e : ownN (.by g d) = some 1 := if_pos eb
        simp only [e] at q
        exact q
      refine Evl.q_when (b := true) (Evl.et_and (a := true) (b := true) (et_hk (m := 2) (ws := ["by"]) rfl (hd.up e0.tups) (Evl.ea_cons Evl.ev_c Evl.ea_nil) (by decide) rfl (by decide +kernel)) (fun _ => sm _ eb _ e0)) (fun _ _ e1 => ?_) (fun h => Bool.noConfusion h)
      have e0 := e0.trans e1
      exact go _ _ e0 rfl q
    | false =>
      have q : ∀ H', Same H H' → E (.ref A.BadDeal) none H' := by
        have e : ownN (.by g d) = none := if_neg (by rw [eb]; exact Bool.false_ne_true)
        simp only [e] at q
        exact q
      refine Evl.q_when (b := false) (Evl.et_and (a := true) (b := false) (et_hk (m := 2) (ws := ["by"]) rfl (hd.up e0.tups) (Evl.ea_cons Evl.ev_c Evl.ea_nil) (by decide) rfl (by decide +kernel)) (fun _ => sm _ eb _ e0)) (fun h => Bool.noConfusion h) (fun _ _ e1 => ?_)
      have e0 := e0.trans e1
      exact ⟨rfl, q _ e0⟩
end
end K06
end Sec_D4
section Sec_D5
set_option Elab.async false
set_option linter.all false
set_option maxRecDepth 100000
set_option maxHeartbeats 4000000
namespace K06
open PySem PySem.Spec PyProof.Rows L2
section
variable {P : Program} {w : World} {K : PySem.W.Frag} {mg : Str → Option Value} {base : Heap} {A : Ads}
theorem Same.mut {H H' : Hp} {p : Addr} {o : HO} (e : Same H H') (h : H p = none) : Same H (upd H' p o) := Evl.Ex.mut e h
/-- [f(x) for x in t], f a number or nothing -/
theorem lc_opt {K : PySem.W.Frag} {a : Addr} {xs : List V} {rs : List (Option Nat)} {g : TG} {te : TE} {vs : List Nat} {σ : L2.St} {H1 : Hp} {D : Addr} {Qd : Hp → Prop} (hD : H1 D = none) (hx : SqT K H1 a xs) (hz : xs.length ≤ 100000) (hl : rs.length = xs.length)
    (hs : ∀ (i : Nat) (x : V) (r : Option Nat) (H : Hp), xs[i]? = some x → rs[i]? = some r → Same H1 H → ∀ Q : VK, (∀ n : Nat, r = some n → ∀ H4, Same H H4 → Q (.int n) H4) → g x (wipe σ vs) H fun σ2 H2 => wipe σ2 vs = wipe σ vs ∧ te σ2 H2 Q)
    (hd : rs.all (·.isSome) = true → ∀ H, Same H1 H → H D = some (.lst (rs.map fun r => .int (r.getD 0 : Nat))) → Qd H) :
    ∃ W : Nat → Nat → Hp → Prop, (∃ m, W 0 m (upd H1 D (.lst []))) ∧ ∀ i m H, W i m H →
      ((Itt K a).stop i H ∧ Qd H) ∨ ((Itt K a).go i H ∧ ∃ Nx : Hp → Prop, (∀ H', Nx H' → ∃ m', m' < m ∧ W (i + 1) m' H') ∧ ∀ x H', (Itt K a).yld i H x H' → g x (wipe σ vs) H' fun σ2 H2 => wipe σ2 vs = wipe σ vs ∧ tYes σ2 H2 fun b H3 =>
        if b = true then te σ2 H3 fun y H4 => ∃ acc, H4 D = some (.lst acc) ∧ acc.length < sizeLine ∧ Nx (upd H4 D (.lst (acc ++ [y]))) else Nx H3) := by
  refine lc_tup (xs := xs) (fun i H => Same H1 H ∧ (rs.take i).all (·.isSome) = true ∧ H D = some (.lst ((rs.take i).map fun r => .int (r.getD 0 : Nat)))) ⟨Same.new hD, rfl, upd_same⟩ (fun i H _ p => Evl.ex_t p.1 hx) (fun i x H hi p => ?_) (fun H p => ?_)
  · have il : i < xs.length := (List.getElem?_eq_some_iff.mp hi).1
    have ir : i < rs.length := by omega
    refine hs i x rs[i] H hi (List.getElem?_eq_getElem ir) p.1 _ fun n hn H4 s4 => ?_
    refine ⟨_, s4 _ _ p.2.2, ?_, Evl.Ex.mut (Evl.Ex.trans p.1 s4) hD, ?_, ?_⟩
    · rw [List.length_map, List.length_take]
      exact Nat.lt_of_lt_of_le (show min i rs.length < 100001 by omega) (by decide)
    · rw [List.take_succ_eq_append_getElem ir, List.all_append, p.2.1, List.all_cons, hn]; rfl
    · rw [upd_same, List.take_succ_eq_append_getElem ir, List.map_append, List.map_cons, hn]; rfl
  · have p2 := p.2.1
    have p3 := p.2.2
    rw [← hl, List.take_length] at p2 p3
    exact hd p2 H p.1 p3
/-! ### a deal within -/
def sp_nw (C : Addr) (m : Nat) : Sp := fun vs H Q E => ∃ (v : V) (d : Deal) (deep sc : Nat), vs = [v, .int deep, .int sc] ∧ d.wf ∧ Tp H d.pd v ∧ deep ≤ 13 ∧ 14 ≤ deep + m ∧ match nW d deep sc with
  | none => ∀ H', Same H H' → E (.ref C) none H'
  | some n => ∀ H', Same H H' → Q (.int n) H'
theorem Deal.word {d : Deal} (wf : d.wf) : ∃ (x : Str) (ds : List PyData), d.pd = .tuple (.str x :: ds) ∧ (decide (V.str x = V.str "scale") || decide (V.str x = V.str "by")) = d.isSc := by
  cases d with
  | none => exact ⟨_, _, rfl, by decide +kernel⟩
  | coin a => exact ⟨_, _, rfl, by show _ = false; decide +kernel⟩
  | one w d => rcases wf.1 with rfl | rfl <;> exact ⟨_, _, rfl, by show _ = false; decide +kernel⟩
  | two w d e => rcases wf.1 with rfl | rfl <;> exact ⟨_, _, rfl, by show _ = false; decide +kernel⟩
  | later g d => exact ⟨_, _, rfl, by show _ = false; decide +kernel⟩
  | when w g d => rcases wf.1 with rfl | rfl <;> exact ⟨_, _, rfl, by show _ = false; decide +kernel⟩
  | scale a d => exact ⟨_, _, rfl, by show _ = true; decide +kernel⟩
  | «by» g d => exact ⟨_, _, rfl, by show _ = true; decide +kernel⟩
theorem Deal.sub_wf {d : Deal} (wf : d.wf) : ∀ e ∈ d.sub, e.wf := by
  cases d with
  | none => intro e h; cases h
  | coin a => intro e h; cases h
  | one w d => intro e h; simp only [Deal.sub, List.mem_cons, List.not_mem_nil, or_false] at h; subst h; exact wf.2
  | two w d1 d2 => intro e h; simp only [Deal.sub, List.mem_cons, List.not_mem_nil, or_false] at h; rcases h with rfl | rfl; exact wf.2.1; exact wf.2.2
  | later g d => intro e h; simp only [Deal.sub, List.mem_cons, List.not_mem_nil, or_false] at h; subst h; exact wf.2
  | when w g d => intro e h; simp only [Deal.sub, List.mem_cons, List.not_mem_nil, or_false] at h; subst h; exact wf.2.2
  | scale a d => intro e h; simp only [Deal.sub, List.mem_cons, List.not_mem_nil, or_false] at h; subst h; exact wf.2
  | «by» g d => intro e h; simp only [Deal.sub, List.mem_cons, List.not_mem_nil, or_false] at h; subst h; exact wf.2
theorem Deal.sub_le (d : Deal) : d.sub.length ≤ 2 := by cases d <;> simp [Deal.sub]
theorem TpL.get {H : Hp} : ∀ {ds : List PyData} {xs : List V} {i : Nat} {v : V}, TpL H ds xs → xs[i]? = some v → ∃ d, ds[i]? = some d ∧ Tp H d v
  | [], _, _, _, h, e => by rw [show _ = [] from h] at e; simp at e
  | d :: ds, _, 0, _, h, e => by
    obtain ⟨v, vs, rfl, a, b⟩ := h
    cases e
    exact ⟨d, rfl, a⟩
  | d :: ds, _, i + 1, _, h, e => by
    obtain ⟨v, vs, rfl, a, b⟩ := h
    obtain ⟨q, h1, h2⟩ := TpL.get (i := _) b e
    exact ⟨q, h1, h2⟩
theorem sum_cast (n : Nat) (l : List (Option Nat)) : ((n + (l.map fun r => r.getD 0).sum : Nat) : Int) = (n : Int) + (l.map fun r => ((r.getD 0 : Nat) : Int)).sum := by
  have h : ((l.map fun r => r.getD 0).sum : Nat) = (l.map fun r => ((r.getD 0 : Nat) : Int)).sum := by
    induction l with
    | nil => rfl
    | cons r l ih => rw [List.map_cons, List.sum_cons, List.map_cons, List.sum_cons, ← ih]; omega
  omega
theorem nw_step (T : Txt K mg A) {m : Nat} (G_own_parts : Cl P w K mg base (L2.CX P w) 15 "own_parts" (sp_own A.BadDeal)) (G_refuse : Cl P w K mg base (L2.CX P w) 1 "refuse" (sp_refuse A.BadDeal))
    (G_need_within : Cl P w K mg base (L2.CX P w) (15 + m) "need_within" (sp_nw A.BadDeal m)) : Cl P w K mg base (L2.CX P w) (15 + m + 1) "need_within" (sp_nw A.BadDeal (m + 1)) := by
  refine T.f_need_within.clX sc_need_within (fun vs H Q E h => ?_) (fun f cdv A' outer s H vs Q E hr h => ?_)
  · obtain ⟨v, d, deep, sc, rfl, _⟩ := h; rfl
  obtain ⟨v, d, deep, sc, rfl, wf, hd, hp, hm, q⟩ := h
  refine ⟨_, (pss_cons (ps_asg (pclX G_own_parts hr (by omega) (takes_of rfl rfl rfl rfl) rfl (pa_cons (pv 0) pa_nil)) (pg_tup rfl (pgs_cons (pg_name (i := 3) sc_need_within.nd rfl (Or.inl rfl)) (pgs_cons (pg_name (i := 4) sc_need_within.nd rfl (Or.inl rfl)) pgs_nil)))) (pss_cons (ps_if (pt_cmpR op_gt (pv 1) (pe_gc rfl T.c_MOST_DEEP) (nomark _)) (pss_one (ps_expr (pcl0X G_refuse hr (by omega) (takes_of rfl rfl rfl rfl) rfl))) pss_nil) (pss_cons (ps_set (i := 2) sc_need_within.nd rfl (Or.inr rfl) (pe_op op_add (pv 2) (pe_callTy call_int1 (by rfl) T.z_int (by decide +kernel) (pa_cons (pe_or (pe_cmpR op_eq (pe_ix ix_tup (pv 0) pe_int (fun _ _ => rfl)) pe_str (nomark _)) (pe_one (pe_cmpR op_eq (pe_ix ix_tup (pv 0) pe_int (fun _ _ => rfl)) pe_str (nomark _)))) pa_nil)))) (pss_cons (ps_if (pt_cmpR op_gt (pv 2) (pe_gc rfl T.c_MOST_SCALES) (nomark _)) (pss_one (ps_expr (pcl0X G_refuse hr (by omega) (takes_of rfl rfl rfl rfl) rfl))) pss_nil) (pss_one (ps_ret (pe_op op_add (pv 3) (pe_callB (cr_sum rfl) (by rfl) T.z_sum (by decide +kernel) (pa_cons (pe_lcX (own := [("one", 5)]) (g := gName 5) rfl rfl (takes_of rfl rfl rfl rfl) rfl sc_need_within.nd (pi_tup (pv 4)) (blkOk_by (own := [("one", 5)]) (N := N_need_within) (sc := defScope s_need_within) (by decide +kernel)) (fun _ _ _ _ _ => pg_name (i := 5) sc_need_within.nd rfl (Or.inl rfl)) (fun _ _ _ _ _ _ hx1 => (pclP G_need_within hr (by omega) hx1 rfl (pa_cons (pv 5) (pa_cons (pe_op op_add (pv 1) pe_int) (pa_cons (pv 2) pa_nil)))))) pa_nil))))))))), ?_⟩
  refine ⟨_, rfl, ?_⟩
  refine ⟨v, d, rfl, wf, hd, ?_⟩
  rw [nW_eq] at q
  cases eo : ownN d with
  | none =>
    rw [eo] at q
    exact fun H' s' => q H' s'
  | some n =>
    rw [eo] at q
    simp only [comb] at q
    intro H1 u s1 hu
    obtain ⟨a, xs, rfl, ha, y, ys, rfl, hy, z, zs, rfl, hz, hn⟩ := hu
    cases hy
    cases hn
    obtain ⟨b, xs, rfl, hb, hin⟩ := hz
    refine ⟨a, _, rfl, SqT.of ha, rfl, ?_⟩
    refine ⟨_, _, rfl, _, _, rfl, rfl, ?_⟩
    refine ⟨_, rfl, ?_⟩
    refine ⟨_, _, rfl, rfl, _, rfl, ?_⟩
    refine itD (fun c => ?_) (fun c => ?_)
    · rw [if_pos (by omega)] at q
      exact ⟨rfl, q H1 s1⟩
    rw [if_neg (by omega)] at q
    obtain ⟨x, ds, ex, ew⟩ := Deal.word wf
    have hd2 := id hd
    rw [ex] at hd2
    obtain ⟨a0, us, rfl, ha0, y, ys, rfl, hy, hrest⟩ := hd2
    cases hy
    have sci : ∀ H2 Q2, Same H1 H2 → Q2 (.int (scN d sc : Nat)) H2 → (tOp (rI0 fun i j => V.int (i + j)) (tVar 2) (tCB (fun xs H Q => (∃ i, xs = [V.int i] ∧ Q (V.int i) H) ∨ ∃ k, xs = [V.bl k] ∧ Q (V.int (if k = true then 1 else 0)) H)
        (tCons (tOrV (tOp rEq (tOp (rIxT K) (tVar 0) (tC (V.int 0))) (tC (V.str "scale"))) (tOp rEq (tOp (rIxT K) (tVar 0) (tC (V.int 0))) (tC (V.str "by")))) tNil)))
        ((List.set (L2.start N_need_within [V.ref a0, V.int ↑deep, V.int ↑sc]) 3 (some (V.int ↑n))).set 4 (some (V.ref b))) H2 Q2 := by
      intro H2 Q2 s2 q2
      have k2 : H2 a0 = some (.tup (.str x :: ys)) := s2 _ _ (s1 _ _ ha0)
      have e2 : (scN d sc : Int) = (sc : Int) + (if d.isSc = true then 1 else 0) := by unfold scN; split <;> rfl
      refine ⟨_, rfl, ?_⟩
      refine ⟨_, rfl, ?_⟩
      refine ⟨_, _, _, _, rfl, rfl, SqT.of (k2), (by first | exact at0 | exact at1 | exact at2 | rfl), ?_⟩
      refine ⟨rfl, _, rfl, ?_⟩
      cases e1 : decide (V.str x = V.str "scale") with
      | true =>
        refine iteT ?_
        rw [e1, Bool.true_or] at ew
        refine .inr ⟨_, rfl, _, _, rfl, rfl, ?_⟩
        rw [← ew, if_pos rfl] at e2
        rw [e2] at q2
        exact q2
      | false =>
        refine iteF ?_
        rw [e1, Bool.false_or] at ew
        refine ⟨_, rfl, ?_⟩
        refine ⟨_, _, _, _, rfl, rfl, SqT.of (k2), (by first | exact at0 | exact at1 | exact at2 | rfl), ?_⟩
        refine ⟨rfl, .inr ⟨_, rfl, _, _, rfl, rfl, ?_⟩⟩
        rw [ew]
        rw [e2] at q2
        exact q2
    refine sci H1 _ (Same.refl _) ?_
    refine ⟨_, rfl, _, _, rfl, rfl, _, rfl, ?_⟩
    refine itD (fun c => ?_) (fun c => ?_)
    · rw [if_pos (by omega)] at q
      exact ⟨rfl, q H1 s1⟩
    rw [if_neg (by omega)] at q
    have hlen : xs.length = d.sub.length := by rw [hin.length, List.length_map]
    have h2 := d.sub_le
    refine ⟨_, rfl, ?_⟩
    refine ⟨_, rfl, ?_⟩
    refine ⟨b, rfl, ⟨xs, SqT.of hb⟩, fun D hD => ?_⟩
    refine lc_opt (rs := d.sub.map fun e => nW e (deep + 1) (scN d sc)) hD (SqT.of hb) (by omega) (by rw [List.length_map]; omega) (fun i x r H2 hi hr2 s2 Q2 q2 => ?_) (fun hall H2 s2 h2D => ?_)
    · refine ⟨rfl, ?_⟩
      obtain ⟨pd, e1, ht⟩ := hin.get hi
      rw [List.getElem?_map] at e1 hr2
      cases eg : d.sub[i]? with
      | none => rw [eg] at e1; cases e1
      | some e =>
        rw [eg] at e1 hr2
        cases e1
        have hrr : nW e (deep + 1) (scN d sc) = r := Option.some.inj hr2
        refine ⟨_, rfl, ?_⟩
        refine ⟨_, rfl, ?_⟩
        refine ⟨_, _, rfl, rfl, ?_⟩
        refine ⟨_, rfl, ?_⟩
        refine ⟨x, e, deep + 1, scN d sc, ?_, Deal.sub_wf wf e (List.mem_of_getElem? eg), ht.up s2.tups, by omega, by omega, ?_⟩
        · rfl
        rw [hrr]
        cases r with
        | some k => exact fun H4 s4 => q2 k rfl H4 s4
        | none =>
          have hnot : (((d.sub.map fun e => nW e (deep + 1) (scN d sc)).all fun x => x.isSome) = true) → False := fun z => by
            rw [List.all_eq_true] at z
            have := z none (by rw [List.mem_map]; exact ⟨e, List.mem_of_getElem? eg, hrr⟩)
            cases this
          rw [if_neg hnot] at q
          exact fun H4 s4 => q H4 (s1.trans (s2.trans s4))
    · rw [if_pos hall] at q
      refine ⟨D, (d.sub.map fun e => nW e (deep + 1) (scN d sc)).map fun r => (r.getD 0 : Nat), rfl, .inl (.inl ?_), ?_⟩
      · rw [List.map_map]; exact h2D
      refine ⟨_, _, rfl, rfl, ?_⟩
      have k := q H2 (s1.trans s2)
      rw [sum_cast] at k
      exact k
theorem ok_need_within (T : Txt K mg A) (G1 : Cl P w K mg base (L2.CX P w) 15 "own_parts" (sp_own A.BadDeal)) (G2 : Cl P w K mg base (L2.CX P w) 1 "refuse" (sp_refuse A.BadDeal)) : ∀ m : Nat, Cl P w K mg base (L2.CX P w) (15 + m) "need_within" (sp_nw A.BadDeal m)
  | 0 => T.f_need_within.none fun vs H Q E ⟨_, _, deep, _, _, _, _, h1, h2, _⟩ => by omega
  | m + 1 => nw_step T G1 G2 (ok_need_within T G1 G2 m)
/-! ### how many words -/
def sp_co (K : PySem.W.Frag) (n : Nat) : Sp := fun vs H Q _ => ∃ (v : V) (k : Addr) (d : PyData) (ws : List Str), vs = [v, .ref k] ∧ Tp H d v ∧ isWd d = true ∧ full d = true ∧ dpt d ≤ n ∧ SqT K H k (ws.map V.str) ∧ ∀ H', Same H H' → Q (.int (cntD ws d : Nat)) H'
theorem s_forNT {σ : L2.St} {H : Hp} {tl : TE} {g : TG} {tu : TS} {D : Ends} {xs : List V} (h : Evl.EvU tl σ H xs) (Pv : Addr → Nat → L2.St → Hp → Prop) (h0 : ∀ p H1, H p = none → Evl.Ex H H1 → H1 p = some (.tup xs) → Pv p 0 σ H1)
    (hl : ∀ p i σ' H', i ≤ xs.length → Pv p i σ' H' → SqT K H' p xs)
    (hs : ∀ p (i : Nat) x σ' H', xs[i]? = some x → Pv p i σ' H' → g x σ' H' fun σ2 H2 => tu { D with nx := Pv p (i + 1), ct := Pv p (i + 1), bk := D.nx } σ2 H2) (hd : ∀ p σ' H', Pv p xs.length σ' H' → D.nx σ' H') : tFor (iTup K tl) g tu D σ H :=
  h H (Evl.Ex.refl H) _ fun p H1 hp e h1 => ⟨p, rfl, ⟨xs, Evl.st_of h1⟩, for_tup (Pv p) (h0 p H1 hp e h1) (hl p) (hs p) (hd p)⟩
theorem q_forNT {σ : L2.St} {H : Hp} {tl : TE} {g : TG} {tu tz : TS} {D : Ends} {xs : List V} (h : Evl.EvU tl σ H xs) (Pv : Addr → Nat → L2.St → Hp → Prop) (h0 : ∀ p H1, H p = none → Evl.Ex H H1 → H1 p = some (.tup xs) → Pv p 0 σ H1)
    (hl : ∀ p i σ' H', i ≤ xs.length → Pv p i σ' H' → SqT K H' p xs)
    (hs : ∀ p (i : Nat) x σ' H', xs[i]? = some x → Pv p i σ' H' → g x σ' H' fun σ2 H2 => tu { D with nx := Pv p (i + 1), ct := Pv p (i + 1), bk := tz D } σ2 H2) (hd : ∀ p σ' H', Pv p xs.length σ' H' → tz D σ' H') : tSeq (tFor (iTup K tl) g tu) tz D σ H :=
  s_forNT (D := { D with nx := tz D }) h Pv h0 hl hs hd
theorem eu_sl1 {σ : L2.St} {H : Hp} {te : TE} {a : Addr} {x : V} {xs : List V} (h : Evl.Ev te σ H (.ref a)) (ha : H a = some (.tup (x :: xs))) : Evl.EvU (tSl (rSlA K) te (tPart (tC (.int 1))) tNoPart) σ H xs := fun H1 e Q q =>
  h H1 e _ fun H2 e2 => ⟨1, rfl, sl1 ((e.trans e2) _ _ ha) fun p np => q p _ (Evl.fresh_back e2 np) (e2.trans (Evl.Ex.new np)) upd_same⟩
theorem cntL_app (ws : List Str) : ∀ (a b : List PyData), cntL ws (a ++ b) = cntL ws a + cntL ws b
  | [], b => by show cntL ws b = 0 + cntL ws b; omega
  | d :: a, b => by show cntD ws d + cntL ws (a ++ b) = cntD ws d + cntL ws a + cntL ws b; rw [cntL_app ws a b]; omega
theorem fullL_mem : ∀ {ds : List PyData} {d : PyData}, fullL ds = true → d ∈ ds → full d = true
  | e :: ds, d, h, m => by
    unfold fullL at h
    rw [Bool.and_eq_true] at h
    rcases List.mem_cons.mp m with rfl | m
    · exact h.1
    · exact fullL_mem h.2 m
theorem dptL_mem : ∀ {ds : List PyData} {d : PyData}, d ∈ ds → dpt d ≤ dptL ds
  | e :: ds, d, m => by
    unfold dptL
    rcases List.mem_cons.mp m with rfl | m
    · omega
    · have := dptL_mem m; omega
theorem co_step (T : Txt K mg A) {n : Nat} (G_count_of : Cl P w K mg base CX0 (1 + n) "count_of" (sp_co K n)) : Cl P w K mg base CX0 (1 + n + 1) "count_of" (sp_co K (n + 1)) := by
  refine T.f_count_of.cl sc_count_of (fun vs H Q E h => ?_) (fun f cdv A' outer s H vs Q E hr h => ?_)
  · obtain ⟨v, k, d, ws, rfl, _⟩ := h; rfl
  obtain ⟨v, k, d, ws, rfl, hd, hw, hf, hn, hk, q⟩ := h
  refine ⟨_, (pss_cons (ps_set (i := 2) sc_count_of.nd rfl (Or.inl rfl) (pe_callTy call_int1 (by rfl) T.z_int (by decide +kernel) (pa_cons (pe_cmpR op_in_seq (pe_ix ix_tup (pv 0) pe_int (fun _ _ => rfl)) (pv 1) (by rfl)) pa_nil))) (pss_cons (ps_for PassesOwn.never rfl (pi_tup (pe_slice sl_tupA (pv 0) (po_some pe_int) po_none)) (pg_name (i := 3) sc_count_of.nd rfl (Or.inl rfl)) (pss_one (ps_if (PW.pt (pw_and (pt_val (pe_callB call_isi (by rfl) T.z_isinstance (by decide +kernel) (pa_cons (pv 3) (pa_cons (pe_bltn (by rfl) T.z_tuple (by decide +kernel) (v := .ty "tuple") rfl) pa_nil)))) (pw_and1 (pt_val (pe_callB call_isi (by rfl) T.z_isinstance (by decide +kernel) (pa_cons (pe_ix ix_tup (pv 3) pe_int (fun _ _ => rfl)) (pa_cons (pe_bltn (by rfl) T.z_str (by decide +kernel) (v := .ty "str") rfl) pa_nil))))))) (pss_one (ps_set (i := 2) sc_count_of.nd rfl (Or.inl rfl) (pe_op op_add (pv 2) (pcl G_count_of hr (by omega) rfl (pa_cons (pv 3) (pa_cons (pv 1) pa_nil)))))) pss_nil))) (pss_one (ps_ret (pv 2))))), ?_⟩
  cases d with
  | tuple ds =>
    cases ds with
    | nil => cases hw
    | cons d0 ds =>
      cases d0 with
      | str x =>
        obtain ⟨a0, us, rfl, ha0, y, ys, rfl, hy, hrest⟩ := id hd
        cases hy
        refine ⟨_, rfl, ?_⟩
        refine ⟨_, _, _, _, rfl, rfl, SqT.of (ha0), (by first | exact at0 | exact at1 | exact at2 | rfl), ?_⟩
        refine ⟨_, rfl, k, _, rfl, .inr hk, rfl, all_flat ws, .inr ⟨_, rfl, ?_⟩⟩
        have e0 : (if (if false = true then !inV (V.str x) (ws.map V.str) else inV (V.str x) (ws.map V.str)) = true then (1 : Int) else 0) = ((if x ∈ ws then 1 else 0 : Nat) : Int) := by
          rw [if_neg Bool.false_ne_true, inV_str]
          by_cases h : x ∈ ws <;> simp [h]
        rw [e0]
        dsimp only [gName]
        refine q_forNT (xs := ys) (eu_sl1 (Evl.ev_var rfl) ha0) (fun p i σ' H' => H' p = some (.tup ys) ∧ Same H H' ∧ ∃ o, σ' = [some (.ref a0), some (.ref k), some (.int ((if x ∈ ws then 1 else 0 : Nat) + cntL ws (ds.take i) : Nat)), o])
          (fun p H1 _ e h => ⟨h, e, _, rfl⟩) (fun p i σ' H' _ h => SqT.of h.1) (fun p i v σ' H' hi hh => ?_) (fun p σ' H' p => ?_)
        · obtain ⟨hp, s1, o, rfl⟩ := hh
          obtain ⟨e, he, ht⟩ := hrest.get hi
          have il : i < ds.length := (List.getElem?_eq_some_iff.mp he).1
          have ht := ht.up s1.tups
          have emem : e ∈ ds := List.mem_of_getElem? he
          have step : cntL ws (ds.take (i + 1)) = cntL ws (ds.take i) + cntD ws e := by
            rw [List.take_succ_eq_append_getElem il, cntL_app]
            rw [List.getElem?_eq_getElem il] at he
            cases he
            rfl
          have skip : cntD ws e = 0 → ∀ H2, Same H' H2 → (fun (σ' : L2.St) H' => H' p = some (.tup ys) ∧ Same H H' ∧ ∃ o, σ' = [some (.ref a0), some (.ref k), some (.int ((if x ∈ ws then 1 else 0 : Nat) + cntL ws (ds.take (i + 1)) : Nat)), o]) [some (.ref a0), some (.ref k), some (.int ((if x ∈ ws then 1 else 0 : Nat) + cntL ws (ds.take i) : Nat)), some v] H2 := fun z H2 s2 => by
            refine ⟨s2 _ _ hp, s1.trans s2, some v, ?_⟩
            rw [step, z]
            rfl
          refine ⟨_, rfl, ?_⟩
          refine ⟨_, _, _, _, _, rfl, .ty _, Tp.ty (K := K) (ht), kit_ty (kit_tuple _), ?_⟩
          refine ⟨_, rfl, ?_⟩
          cases e with
          | tuple es =>
            refine iteT ?_
            have fe : full (.tuple es) = true := fullL_mem (by unfold full at hf; rw [Bool.and_eq_true] at hf; have := hf.2; unfold fullL at this; rw [Bool.and_eq_true] at this; exact this.2) emem
            obtain ⟨b, us, rfl, hb, hus⟩ := id ht
            cases es with
            | nil => cases fe
            | cons e0 es =>
              obtain ⟨u, us2, rfl, hu, hus2⟩ := id hus
              refine ⟨_, rfl, ?_⟩
              refine ⟨_, _, _, _, rfl, rfl, SqT.of (hb), (by first | exact at0 | exact at1 | exact at2 | rfl), ?_⟩
              refine ⟨_, _, _, _, _, rfl, .ty _, Tp.ty (K := K) (hu), kit_ty (kit_str _), ?_⟩
              refine ⟨_, rfl, ?_⟩
              have hv2 : dStr e0 = isWd (.tuple (e0 :: es)) := by cases e0 <;> rfl
              rw [hv2]
              cases ew : isWd (.tuple (e0 :: es)) with
              | false =>
                refine iteF (skip ?_ _ (Same.refl _))
                cases e0 <;> first | rfl | cases ew
              | true =>
                refine iteT ?_
                refine ⟨_, rfl, ?_⟩
                refine ⟨_, rfl, ?_⟩
                refine ⟨_, rfl, ?_⟩
                refine ⟨.ref b, k, .tuple (e0 :: es), ws, rfl, ht, ew, fe, ?_, Evl.ex_t s1 hk, fun H2 s2 => ?_⟩
                · have := dptL_mem emem
                  have h3 : dpt (.tuple (.str x :: ds)) = 1 + max 0 (dptL ds) := rfl
                  omega
                · refine ⟨_, _, rfl, rfl, ?_⟩
                  refine ⟨s2 _ _ hp, s1.trans s2, some (.ref b), ?_⟩
                  rw [step, ← Nat.add_assoc, Int.natCast_add]
                  rfl
          | list _ => exact ht.elim
          | dict _ => exact ht.elim
          | _ => exact iteF (skip rfl _ (Same.refl _))
        · obtain ⟨hp, s1, o, rfl⟩ := p
          refine ⟨_, rfl, ?_⟩
          rw [hrest.length, List.take_length]
          have k := q H' s1
          have ec : cntD ws (.tuple (.str x :: ds)) = (if x ∈ ws then 1 else 0) + cntL ws ds := by
            show (if x ∈ ws then 1 else 0) + (0 + cntL ws ds) = _
            omega
          rw [ec] at k
          exact k
      | _ => cases hw
  | _ => cases hw
theorem ok_count_of (T : Txt K mg A) : ∀ n : Nat, Cl P w K mg base CX0 (1 + n) "count_of" (sp_co K n)
  | 0 => T.f_count_of.none fun vs H Q E ⟨_, _, d, _, _, _, h1, _, h2, _⟩ => by
    cases d with
    | tuple ds => simp [dpt] at h2
    | _ => cases h1
  | n + 1 => co_step T (ok_count_of T n)
def sp_ch (n : Nat) : Sp := fun vs H Q _ => ∃ (v : V) (d : PyData), vs = [v] ∧ Tp H d v ∧ isWd d = true ∧ full d = true ∧ dpt d ≤ n ∧ ∀ H', Same H H' → Q (.int (cntD wEither d : Nat)) H'
theorem ok_choosers (T : Txt K mg A) {n : Nat} (G_count_of : Cl P w K mg base CX0 (1 + n) "count_of" (sp_co K n)) : Cl P w K mg base CX0 (1 + n + 1) "choosers" (sp_ch n) := by
  refine T.f_choosers.cl sc_choosers (fun vs H Q E h => ?_) (fun f cdv A' outer s H vs Q E hr h => ?_)
  · obtain ⟨v, d, rfl, _⟩ := h; rfl
  obtain ⟨v, d, rfl, hd, hw, hf, hn, q⟩ := h
  refine ⟨_, (pss_one (ps_ret (pcl G_count_of hr (by omega) rfl (pa_cons (pv 0) (pa_cons (pe_tup (pa_cons pe_str (pa_cons pe_str pa_nil))) pa_nil))))), ?_⟩
  refine ⟨_, rfl, ?_⟩
  refine ⟨(by show 2 ≤ sizeLine; decide), fun p np => ?_⟩
  have s1 : Same H (upd H p (.tup [.str "either", .str "any"])) := Same.new np
  exact ⟨v, p, d, wEither, rfl, hd.up s1.tups, hw, hf, hn, SqT.of upd_same, fun H' s' => q H' (s1.trans s')⟩
def sp_nd (C : Addr) (n : Nat) : Sp := fun vs H Q E => ∃ (v : V) (d : Deal), vs = [v] ∧ d.wf ∧ Tp H d.pd v ∧ dpt d.pd ≤ n ∧ (goodP d = true → ∀ H', Same H H' → Q .non H') ∧ (goodP d = false → ∀ H', Same H H' → E (.ref C) none H')
mutual
theorem Amt.full : ∀ a : Amt, full a.pd = true
  | .num ds => rfl
  | .price => rfl
  | .time => rfl
  | .most a b => by show (K06.full a.pd && (K06.full b.pd && true)) = true; rw [a.full, b.full]; rfl
  | .least a b => by show (K06.full a.pd && (K06.full b.pd && true)) = true; rw [a.full, b.full]; rfl
  | .pr k a b => by show (K06.full a.pd && (K06.full b.pd && true)) = true; rw [a.full, b.full]; rfl
end
theorem Sgn.full (s : Sgn) : full s.pd = true := by show (K06.full s.a.pd && (K06.full s.b.pd && true)) = true; rw [s.a.full, s.b.full]; rfl
theorem Shr.full (q : Shr) : full q.pd = true := by unfold Shr.pd; split <;> rfl
theorem Deal.full : ∀ d : Deal, full d.pd = true
  | .none => rfl
  | .coin a => by show (K06.full a.pd && true) = true; rw [a.full]; rfl
  | .one w d => by show (K06.full d.pd && true) = true; rw [d.full]; rfl
  | .two w d e => by show (K06.full d.pd && (K06.full e.pd && true)) = true; rw [d.full, e.full]; rfl
  | .later g d => by show (K06.full d.pd && true) = true; rw [d.full]; rfl
  | .when w s d => by show (K06.full s.pd && (K06.full d.pd && true)) = true; rw [s.full, d.full]; rfl
  | .scale a d => by show (K06.full a.pd && (K06.full d.pd && true)) = true; rw [a.full, d.full]; rfl
  | .by q d => by show (K06.full q.pd && (K06.full d.pd && true)) = true; rw [q.full, d.full]; rfl
theorem ok_need_deal (T : Txt K mg A) {n : Nat} (hn : 27 ≤ n) (G_need_within : Cl P w K mg base (L2.CX P w) (15 + 13) "need_within" (sp_nw A.BadDeal 13)) (G_refuse : Cl P w K mg base (L2.CX P w) 1 "refuse" (sp_refuse A.BadDeal))
    (G_choosers : Cl P w K mg base CX0 (1 + n + 1) "choosers" (sp_ch n)) (G_count_of : Cl P w K mg base CX0 (1 + n) "count_of" (sp_co K n)) : Cl P w K mg base (L2.CX P w) (1 + n + 1 + 1) "need_deal" (sp_nd A.BadDeal n) := by
  refine T.f_need_deal.clX sc_need_deal (fun vs H Q E h => ?_) (fun f cdv A' outer s H vs Q E hr h => ?_)
  · obtain ⟨v, d, rfl, _⟩ := h; rfl
  obtain ⟨v, d, rfl, wf, hd, hdp, qg, qb⟩ := h
  refine ⟨_, (pss_cons (ps_if (PW.pt (pw_or (pt_cmpR op_gt (pclX G_need_within hr (by omega) (takes_of rfl rfl rfl rfl) rfl (pa_cons (pv 0) (pa_cons pe_int (pa_cons pe_int pa_nil)))) (pe_gc rfl T.c_MOST_DEAL) (nomark _)) (pw_or1 (pt_cmpR op_gt (pcl G_choosers hr (by omega) rfl (pa_cons (pv 0) pa_nil)) (pe_gc rfl T.c_MOST_CHOOSERS) (nomark _))))) (pss_one (ps_expr (pcl0X G_refuse hr (by omega) (takes_of rfl rfl rfl rfl) rfl))) pss_nil) (pss_one (ps_if (pt_cmpR op_gt (pcl G_count_of hr (by omega) rfl (pa_cons (pv 0) (pa_cons (pe_tup (pa_cons pe_str pa_nil)) pa_nil))) (pe_gc rfl T.c_MOST_ANYS) (nomark _)) (pss_one (ps_expr (pcl0X G_refuse hr (by omega) (takes_of rfl rfl rfl rfl) rfl))) pss_nil))), ?_⟩
  have hw : isWd d.pd = true := by obtain ⟨x, ds, e, _⟩ := Deal.word wf; rw [e]; rfl
  unfold goodP at qg qb
  rw [show Deal.dat Shr.pd d = d.pd from rfl] at qg qb
  refine ⟨_, rfl, ?_⟩
  refine ⟨v, d, 1, 0, rfl, wf, hd, by decide, by decide, ?_⟩
  cases en : nW d 1 0 with
  | none =>
    rw [en] at qb
    exact fun H' s' => qb rfl H' s'
  | some k =>
    rw [en] at qg qb
    intro H1 s1
    refine ⟨_, _, rfl, rfl, _, rfl, ?_⟩
    refine itD (fun c => ?_) (fun c => ?_)
    · exact iteT ⟨rfl, qb (by simp; intro h; omega) H1 s1⟩
    · refine ⟨_, rfl, ?_⟩
      refine ⟨v, d.pd, rfl, hd.up s1.tups, hw, d.full, hdp, fun H2 s2 => ?_⟩
      have s2 := s1.trans s2
      refine ⟨_, _, rfl, rfl, _, rfl, ?_⟩
      refine itD (fun c2 => ?_) (fun c2 => ?_)
      · exact ⟨rfl, qb (by simp; intro h h2; omega) H2 s2⟩
      · refine ⟨_, rfl, ?_⟩
        refine ⟨(by show 1 ≤ sizeLine; decide), fun p np => ?_⟩
        have s3 : Same H2 (upd H2 p (.tup [.str "any"])) := Same.new np
        refine ⟨v, p, d.pd, wAny, rfl, hd.up (s2.trans s3).tups, hw, d.full, hdp, SqT.of upd_same, fun H4 s4 => ?_⟩
        have s4 := s2.trans (s3.trans s4)
        refine ⟨_, _, rfl, rfl, _, rfl, ?_⟩
        refine itD (fun c3 => ?_) (fun c3 => ?_)
        · exact ⟨rfl, qb (by simp; intro h h2; omega) H4 s4⟩
        · exact qg (by simp; omega) H4 s4
end
end K06
end Sec_D5
section Sec_D6
set_option Elab.async false
set_option linter.all false
set_option maxRecDepth 100000
set_option maxHeartbeats 4000000
namespace K06
open PySem PySem.Spec PyProof.Rows L2
open SX (S)
/-! ### texts by their signs -/
theorem S_inj {a b : Tx} (h : S a = S b) : a = b := SX.S_inj h
theorem eqS {a b : Tx} {x : Str} (e : x = S b) : decide (V.str (S a) = V.str x) = decide (a = b) := by
  subst e
  by_cases h : a = b
  · subst h; simp
  · rw [decide_eq_false h]; exact decide_eq_false fun z => h (S_inj (V.str.inj z))
theorem S_size (a : Tx) : (S a).length = a.length := SX.S_len a
theorem cut_from (a : Tx) (i : Nat) : cutS (S a) (some (i : Int)) none = S (a.drop i) := by
  unfold cutS
  rw [HT.sIx_nat, HT.sIx_none, S_size]
  show S ((a.drop (min i a.length)).take (a.length - min i a.length)) = _
  rw [List.take_of_length_le (by rw [List.length_drop]; omega)]
  by_cases h : i ≤ a.length
  · rw [Nat.min_eq_left h]
  · rw [Nat.min_eq_right (by omega), List.drop_eq_nil_of_le (Nat.le_refl _), List.drop_eq_nil_of_le (by omega)]
theorem cut_to (a : Tx) (i : Nat) : cutS (S a) none (some (i : Int)) = S (a.take i) := by
  unfold cutS
  rw [HT.sIx_nat, HT.sIx_none, S_size]
  show S ((a.drop 0).take (min i a.length - 0)) = _
  rw [List.drop_zero, Nat.sub_zero]
  by_cases h : i ≤ a.length
  · rw [Nat.min_eq_left h]
  · rw [Nat.min_eq_right (by omega), List.take_of_length_le (Nat.le_refl _), List.take_of_length_le (by omega)]
theorem cut_mid (a : Tx) (i j : Nat) : cutS (S a) (some (i : Int)) (some (j : Int)) = S ((a.drop i).take (j - i)) := by
  unfold cutS
  rw [HT.sIx_nat, HT.sIx_nat, S_size]
  show S ((a.drop (min i a.length)).take (min j a.length - min i a.length)) = _
  by_cases h : i ≤ a.length
  · rw [Nat.min_eq_left h]
    by_cases h2 : j ≤ a.length
    · rw [Nat.min_eq_left h2]
    · rw [Nat.min_eq_right (show a.length ≤ j by omega), List.take_of_length_le (by rw [List.length_drop]; omega), List.take_of_length_le (by rw [List.length_drop]; omega)]
  · rw [Nat.min_eq_right (show a.length ≤ i by omega), List.drop_eq_nil_of_le (Nat.le_refl _), List.drop_eq_nil_of_le (show a.length ≤ i by omega)]; simp
theorem atI_nat {α : Type} (xs : List α) (i : Nat) (x : α) (h : xs[i]? = some x) : atI xs (i : Int) = some x := by
  have hl : i < xs.length := (List.getElem?_eq_some_iff.mp h).1
  unfold atI
  rw [Evl.ixN_nat hl]
  exact h
theorem lit_nil : ("" : Str) = S [] := by decide +kernel
theorem lit_0 : ("0" : Str) = S [48] := by decide +kernel
theorem lit_minus : ("-" : Str) = S [45] := by decide +kernel
theorem lit_stroke : ("/" : Str) = S [47] := by decide +kernel
theorem figs_in (c : Nat) : decide (c ∈ ("0123456789" : Str).cps.toList) = digit c := by
  have e : ("0123456789" : Str).cps.toList = [48,49,50,51,52,53,54,55,56,57] := by decide +kernel
  rw [e]
  unfold digit
  rw [← Bool.decide_and]
  refine decide_eq_decide.mpr ?_
  simp only [List.mem_cons, List.not_mem_nil, or_false]
  omega
theorem num_text {ds : Tx} (h : ∀ c ∈ ds, digit c = true) (h1 : ds ≠ []) (h2 : ds.length ≤ 4300) : intText? (S ds) = some (numV ds) := by
  refine intText_digits (x := S ds) (fun c hc => ?_) h1 (by rw [S_size]; exact h2)
  have := h c hc
  unfold digit at this
  simp only [Bool.and_eq_true, decide_eq_true_eq] at this
  exact this
theorem s_forS {σ : L2.St} {H : Hp} {te : TE} {g : TG} {tu : TS} {D : Ends} {l : Tx} (h : Evl.Ev te σ H (.str (S l))) (Pv : Nat → L2.St → Hp → Prop) (h0 : ∀ H1, Evl.Ex H H1 → Pv 0 σ H1)
    (hs : ∀ (i c : Nat) σ' H', l[i]? = some c → Pv i σ' H' → g (.str (S [c])) σ' H' fun σ2 H2 => tu { D with nx := Pv (i + 1), ct := Pv (i + 1), bk := D.nx } σ2 H2) (hd : ∀ σ' H', Pv l.length σ' H' → D.nx σ' H') : tFor (iStr te) g tu D σ H :=
  h H (Evl.Ex.refl H) _ fun H1 e => ⟨S l, rfl, by
    have z : (S l).cps.size = l.length := S_size l
    refine for_it walk_str Pv (h0 H1 e) (fun _ _ _ _ _ => trivial) (fun i x σ' H' H'' hi p y => ?_) (fun σ' H' p => hd σ' H' (by rw [← z]; exact p))
    obtain ⟨rfl, c, hc, rfl⟩ := y
    exact hs i c σ' _ (by rw [← hc]; simp) p⟩
theorem q_forS {σ : L2.St} {H : Hp} {te : TE} {g : TG} {tu tz : TS} {D : Ends} {l : Tx} (h : Evl.Ev te σ H (.str (S l))) (Pv : Nat → L2.St → Hp → Prop) (h0 : ∀ H1, Evl.Ex H H1 → Pv 0 σ H1)
    (hs : ∀ (i c : Nat) σ' H', l[i]? = some c → Pv i σ' H' → g (.str (S [c])) σ' H' fun σ2 H2 => tu { D with nx := Pv (i + 1), ct := Pv (i + 1), bk := tz D } σ2 H2) (hd : ∀ σ' H', Pv l.length σ' H' → tz D σ' H') : tSeq (tFor (iStr te) g tu) tz D σ H :=
  s_forS (D := { D with nx := tz D }) h Pv h0 hs hd
section
variable {P : Program} {w : World} {K : PySem.W.Frag} {mg : Str → Option Value} {base : Heap} {A : Ads}
def sp_num : Sp := fun vs H Q _ => ∃ ds m, vs = [.str (S ds)] ∧ Canon m ds ∧ m ≤ 400 ∧ ∀ H', Same H H' → Q (.int (numV ds)) H'
theorem ok_number_of (T : Txt K mg A) : Cl P w K mg base CX0 1 "number_of" sp_num := by
  refine T.f_number_of.cl sc_number_of (fun vs H Q E h => ?_) (fun f cdv A' outer s H vs Q E hr h => ?_)
  · obtain ⟨ds, m, rfl, _⟩ := h; rfl
  obtain ⟨ds, m, rfl, ⟨hn, hl, hd, hz⟩, hm, q⟩ := h
  refine ⟨_, (pss_cons (ps_if (PW.pt (pw_or (pt_cmpR op_eq (pv 0) pe_str (nomark _)) (pw_or (pt_cmpR op_gt (pe_callB call_len_str (by rfl) T.z_len (by decide +kernel) (pa_cons (pv 0) pa_nil)) (pe_gc rfl T.c_MOST_FIGURES) (nomark _)) (pw_or1 (PW.pt (pw_and (pt_cmpR op_eq (pe_ix ix_str (pv 0) pe_int (fun _ _ => rfl)) pe_str (nomark _)) (pw_and1 (pt_cmpR op_ne (pv 0) pe_str (nomark _))))))))) (pss_one (ps_ret pe_non)) pss_nil) (pss_cons (ps_for PassesOwn.never rfl (pi_str (pv 0)) (pg_name (i := 1) sc_number_of.nd rfl (Or.inl rfl)) (pss_one (ps_if (pt_cmpR op_notIn_sign (pv 1) (pe_gc rfl T.c_FIGURES) (by rfl)) (pss_one (ps_ret pe_non)) pss_nil))) (pss_one (ps_ret (pe_callTy call_int_str (by rfl) T.z_int (by decide +kernel) (pa_cons (pv 0) pa_nil)))))), ?_⟩
  cases ds with
  | nil => exact absurd rfl hn
  | cons c r =>
  refine Evl.q_when (b := false) (Evl.et_or (a := false) (b := false) ?_ fun _ => Evl.et_or (a := false) (b := false) ?_ fun _ => ?_) (fun h => Bool.noConfusion h) (fun _ H1 e1 => ?_)
  · exact fun H1 e1 Q1 q1 => ⟨_, rfl, rfl, _, rfl, by rw [eqS lit_nil, decide_eq_false hn]; exact q1 _ (Evl.Ex.refl _)⟩
  · exact fun H1 e1 Q1 q1 => ⟨_, rfl, _, rfl, small _ (by rw [S_size]; omega), _, _, rfl, rfl, _, rfl, by rw [decide_eq_false (show ¬ (400 : Int) < ((S (c :: r)).length : Int) by rw [S_size]; omega)]; exact q1 _ (Evl.Ex.refl _)⟩
  · intro H1 e1 Q1 q1
    refine ⟨_, rfl, ?_⟩
    refine ⟨_, _, c, rfl, rfl, small _ (by rw [S_size]; omega), at0, ?_⟩
    refine ⟨rfl, _, rfl, ?_⟩
    have e2 : decide (V.str ⟨#[c]⟩ = V.str "0") = decide (c = 48) := by
      have := eqS (a := [c]) lit_0
      rw [show V.str ⟨#[c]⟩ = V.str (S [c]) from rfl, this]
      by_cases h : c = 48
      · subst h; rfl
      · rw [decide_eq_false h]; exact decide_eq_false fun z => h (List.cons.inj z).1
    rw [e2]
    refine itD (fun h => ?_) (fun h => q1 _ (Evl.Ex.refl _))
    subst h
    have hz := hz rfl
    refine ⟨_, rfl, rfl, _, rfl, ?_⟩
    rw [eqS lit_0, hz]
    exact q1 _ (Evl.Ex.refl _)
  refine q_forS (l := c :: r) (Evl.ev_var rfl) (fun i σ' H' => Same H H' ∧ ∃ o, σ' = [some (.str (S (c :: r))), o]) (fun H2 e2 => ?_) (fun i d σ' H' hi p => ?_) (fun σ' H' p => ?_)
  · exact ⟨e1.trans e2, none, rfl⟩
  · obtain ⟨s2, o, rfl⟩ := p
    refine ⟨_, rfl, ?_⟩
    refine ⟨_, _, rfl, rfl, _, rfl, ?_⟩
    rw [figs_in, hd d (List.mem_of_getElem? hi)]
    exact iteF ⟨s2, _, rfl⟩
  · obtain ⟨s2, o, rfl⟩ := p
    refine ⟨_, rfl, ?_⟩
    refine ⟨_, _, rfl, num_text hd hn (by omega), by rw [S_size]; omega, ?_⟩
    exact q _ s2
def Shr.ab (q : Shr) : Tx := (if q.neg = true then [45] else []) ++ q.n
def Shr.st (q : Shr) : Tx := if q.d.isSome = true then [47] else []
def Shr.be (q : Shr) : Tx := q.d.getD []
theorem Canon.digit {m : Nat} {ds : Tx} (h : Canon m ds) {c : Nat} (hc : c ∈ ds) : 48 ≤ c ∧ c ≤ 57 := by
  have := h.2.2.1 c hc
  unfold K06.digit at this
  simp only [Bool.and_eq_true, decide_eq_true_eq] at this
  exact this
theorem Shr.part {q : Shr} (wf : q.wf) : Txt.partition (S q.txt) "/" = (S q.ab, S q.st, S q.be) := by
  have h47 : 47 ∉ q.ab := by
    unfold Shr.ab
    intro h
    rw [List.mem_append] at h
    rcases h with h | h
    · split at h <;> simp at h
    · have := wf.1.digit h; omega
  rw [lit_stroke]
  unfold Shr.txt Shr.st Shr.be
  cases hd : q.d with
  | none =>
    have e : (if q.neg = true then [45] else []) ++ (q.n ++ []) = q.ab := by rw [List.append_nil]; rfl
    show Txt.partition (S ((if q.neg = true then [45] else []) ++ (q.n ++ []))) (S [47]) = _
    rw [e, SX.partition_none (by simp) (SX.par_head_none h47)]
    rfl
  | some e =>
    have e1 : (if q.neg = true then [45] else []) ++ (q.n ++ 47 :: e) = q.ab ++ ([47] ++ e) := by unfold Shr.ab; simp
    show Txt.partition (S ((if q.neg = true then [45] else []) ++ (q.n ++ 47 :: e))) (S [47]) = _
    rw [e1, SX.partition_some (by simp) (SX.par_head (sep := []) e h47)]
    rfl
theorem Shr.minus {q : Shr} (wf : q.wf) : decide (q.ab.take 1 = [45]) = q.neg := by
  unfold Shr.ab
  cases q.neg with
  | true => simp
  | false =>
    obtain ⟨h1, h2, h3, h4⟩ := wf.1
    cases hn : q.n with
    | nil => exact absurd hn h1
    | cons c r =>
      have := wf.1.digit (c := c) (by rw [hn]; exact List.mem_cons_self)
      refine decide_eq_false fun z => ?_
      simp at z
      omega
theorem Shr.len {q : Shr} (wf : q.wf) : q.txt.length ≤ 70 := by
  have h1 := wf.1.2.1
  have h3 : (if q.neg = true then [45] else [] : Tx).length ≤ 1 := by split <;> simp
  unfold Shr.txt
  cases hd : q.d with
  | none =>
    show ((if q.neg = true then [45] else [] : Tx) ++ (q.n ++ [])).length ≤ 70
    rw [List.length_append, List.length_append, List.length_nil]; omega
  | some e =>
    have := (wf.2 e hd).2.1
    show ((if q.neg = true then [45] else [] : Tx) ++ (q.n ++ 47 :: e)).length ≤ 70
    rw [List.length_append, List.length_append, List.length_cons]; omega
theorem Shr.ablen {q : Shr} (wf : q.wf) : q.ab.length ≤ 31 := by
  have h1 := wf.1.2.1
  unfold Shr.ab
  rw [List.length_append]
  have h3 : (if q.neg = true then [45] else [] : Tx).length ≤ 1 := by split <;> simp
  omega
def sp_shof : Sp := fun vs H Q _ => ∃ q : Shr, vs = [.str (S q.txt)] ∧ q.wf ∧ ∀ H' v, Same H H' → Tp H' q.pd v → Q v H'
theorem ev_refl {te : TE} {σ : L2.St} {H : Hp} {v : V} (h : ∀ H1, Same H H1 → ∀ Q : VK, Q v H1 → te σ H1 Q) : Evl.Ev te σ H v := fun H1 e Q q => h H1 e Q (q H1 (Evl.Ex.refl _))
theorem et_refl {t : TT} {σ : L2.St} {H : Hp} {b : Bool} (h : ∀ H1, Same H H1 → ∀ Q : Bool → Hp → Prop, Q b H1 → t σ H1 Q) : Evl.EvT t σ H b := fun H1 e Q q => h H1 e Q (q H1 (Evl.Ex.refl _))
theorem ok_share_of (T : Txt K mg A) (G_number_of : Cl P w K mg base CX0 1 "number_of" sp_num) (G_common : Cl P w K mg base CX0 1 "common" sp_common) : Cl P w K mg base CX0 2 "share_of" sp_shof := by
  refine T.f_share_of.cl sc_share_of (fun vs H Q E h => ?_) (fun f cdv A' outer s H vs Q E hr h => ?_)
  · obtain ⟨ds, rfl, _⟩ := h; rfl
  obtain ⟨q, rfl, wf, k⟩ := h
  refine ⟨_, (pss_cons (ps_asg (pe_partition (pv 0) pe_str) (pg_tup rfl (pgs_cons (pg_name (i := 1) sc_share_of.nd rfl (Or.inl rfl)) (pgs_cons (pg_name (i := 2) sc_share_of.nd rfl (Or.inl rfl)) (pgs_cons (pg_name (i := 3) sc_share_of.nd rfl (Or.inl rfl)) pgs_nil))))) (pss_cons (ps_set (i := 4) sc_share_of.nd rfl (Or.inl rfl) (pcl G_number_of hr (by omega) rfl (pa_cons (pe_ifExp (pt_cmpR op_eq (pe_slice sl_str (pv 1) po_none (po_some pe_int)) pe_str (nomark _)) (pe_slice sl_str (pv 1) (po_some pe_int) po_none) (pv 1)) pa_nil))) (pss_cons (ps_set (i := 5) sc_share_of.nd rfl (Or.inl rfl) pe_int) (pss_cons (ps_if (pt_cmpR op_ne (pv 2) pe_str (nomark _)) (pss_one (ps_set (i := 5) sc_share_of.nd rfl (Or.inl rfl) (pcl G_number_of hr (by omega) rfl (pa_cons (pv 3) pa_nil)))) pss_nil) (pss_cons (ps_if (PW.pt (pw_or (pt_cmpR op_isN (pv 4) pe_non (nomark _)) (pw_or (pt_cmpR op_isN (pv 5) pe_non (nomark _)) (pw_or (pt_cmpR op_eq (pv 5) pe_int (nomark _)) (pw_or (PW.pt (pw_and (pt_cmpR op_ne (pv 2) pe_str (nomark _)) (pw_and1 (pt_cmpR op_eq (pv 5) pe_int (nomark _))))) (pw_or1 (PW.pt (pw_and (pt_cmpR op_eq (pe_slice sl_str (pv 1) po_none (po_some pe_int)) pe_str (nomark _)) (pw_and1 (pt_cmpR op_eq (pv 4) pe_int (nomark _))))))))))) (pss_one (ps_ret pe_non)) pss_nil) (pss_cons (ps_if (pt_cmpR op_ne (pcl G_common hr (by omega) rfl (pa_cons (pv 4) (pa_cons (pv 5) pa_nil))) pe_int (nomark _)) (pss_one (ps_ret pe_non)) pss_nil) (pss_one (ps_ret (pe_tup (pa_cons (pe_ifExp (pt_cmpR op_eq (pe_slice sl_str (pv 1) po_none (po_some pe_int)) pe_str (nomark _)) (pe_op op_sub pe_int (pv 4)) (pv 4)) (pa_cons (pv 5) pa_nil))))))))))), ?_⟩
  refine ⟨_, rfl, ?_⟩
  refine ⟨⟨_, rfl⟩, ?_⟩
  refine ⟨_, _, rfl, rfl, by decide +kernel, small _ (by rw [S_size]; have := Shr.len wf; omega), fun p np => ?_⟩
  rw [Shr.part wf]
  have s0 : Same H (upd H p (.tup [.str (S q.ab), .str (S q.st), .str (S q.be)])) := Same.new np
  have h0 : (upd H p (.tup [.str (S q.ab), .str (S q.st), .str (S q.be)])) p = some (.tup [.str (S q.ab), .str (S q.st), .str (S q.be)]) := upd_same
  refine ⟨p, _, rfl, SqT.of h0, rfl, _, _, rfl, _, _, rfl, _, _, rfl, rfl, ?_⟩
  generalize upd H p (.tup [.str (S q.ab), .str (S q.st), .str (S q.be)]) = H1 at s0 h0 ⊢
  have al := Shr.ablen wf
  have em : ∀ {σ : L2.St} {H : Hp}, σ[1]? = some (some (.str (S q.ab))) → Evl.EvT (tTest (tOp rEq (tSl rSlS (tVar 1) tNoPart (tPart (tC (.int 1)))) (tC (.str "-")))) σ H q.neg := fun hs => et_refl fun H1 _ Q q1 => by
    refine ⟨_, hs, _, rfl, _, rfl, small _ (by rw [S_size]; omega), rfl, _, rfl, ?_⟩
    rw [show (1 : Int) = ((1 : Nat) : Int) from rfl, cut_to, eqS lit_minus, Shr.minus wf]
    exact q1
  dsimp only
  refine Evl.q_asg (v := .int (numV q.n)) (fun H1 e1 Q1 q1 => ?_) (fun H2 e2 => ?_)
  · refine em rfl H1 (Evl.Ex.refl _) _ fun H2 e2 => ?_
    have e3 : cutS (S q.ab) (some 1) none = S (q.ab.drop 1) := cut_from q.ab 1
    cases hneg : q.neg with
    | true =>
      refine iteT ?_
      refine ⟨_, rfl, _, rfl, _, rfl, small _ (by rw [S_size]; omega), ?_⟩
      refine ⟨q.n, 30, ?_, wf.1, by decide, fun H3 s3 => q1 _ (Evl.Ex.trans e2 s3)⟩
      rw [e3]
      unfold Shr.ab
      rw [hneg]
      rfl
    | false =>
      refine iteF ?_
      refine ⟨_, rfl, ?_⟩
      refine ⟨q.n, 30, ?_, wf.1, by decide, fun H3 s3 => q1 _ (Evl.Ex.trans e2 s3)⟩
      unfold Shr.ab
      rw [hneg]
      rfl
  refine Evl.q_asg (v := .int 1) Evl.ev_c (fun H3 e3 => ?_)
  have hst : (!decide (V.str (S q.st) = V.str "")) = q.d.isSome := by
    rw [eqS lit_nil]
    unfold Shr.st
    cases q.d <;> simp
  have es : ∀ {σ : L2.St} {H : Hp}, σ[2]? = some (some (.str (S q.st))) → Evl.EvT (tTest (tOp rNe (tVar 2) (tC (.str "")))) σ H q.d.isSome := fun hs => et_refl fun H1 _ Q q1 => by
    refine ⟨_, hs, rfl, _, rfl, ?_⟩
    rw [hst]
    exact q1
  refine Evl.q_ifAsg (i := 5) (v := .int q.dV) (es rfl) (fun hs => ?_) (fun hs => ?_) (fun H4 e4 => ?_)
  · refine fun H1 e1 Q1 q1 => ?_
    cases hd : q.d with
    | none => rw [hd] at hs; cases hs
    | some e =>
      refine ⟨_, rfl, ?_⟩
      refine ⟨e, 30, ?_, wf.2 e hd, by decide, fun H3 s3 => ?_⟩
      · unfold Shr.be; rw [hd]; rfl
      · have := q1 H3 s3
        unfold Shr.dV at this
        rw [hd] at this
        exact this
  · cases hd : q.d with
    | none => unfold Shr.dV; rw [hd]; rfl
    | some e => rw [hd] at hs; cases hs
  have s4 : Same H H4 := s0.trans (Evl.Ex.trans e2 (Evl.Ex.trans e3 e4))
  have iv : ∀ {a b : Int}, decide (V.int a = V.int b) = decide (a = b) := by
    intro a b
    by_cases h : a = b
    · subst h; simp
    · rw [decide_eq_false h]; exact decide_eq_false fun z => h (V.int.inj z)
  have pdF : q.good = false → ∀ H', Same H H' → Q .non H' := fun h H' s' => k H' .non s' (by unfold Shr.pd; rw [if_neg (by rw [h]; exact Bool.false_ne_true)]; rfl)
  generalize hbc : (decide (q.dV = 0) || ((q.d.isSome && decide (q.dV = 1)) || (q.neg && decide (numV q.n = 0)))) = bc
  refine Evl.q_when (b := bc) (Evl.et_is (Evl.et_or (a := false) (b := false || (decide (q.dV = 0) || ((q.d.isSome && decide (q.dV = 1)) || (q.neg && decide (numV q.n = 0)))))
      (et_refl fun H1 _ Q1 q1 => ⟨_, rfl, rfl, _, rfl, q1⟩) fun _ => Evl.et_or (a := false) (et_refl fun H1 _ Q1 q1 => ⟨_, rfl, rfl, _, rfl, q1⟩) fun _ => Evl.et_or (a := decide (q.dV = 0)) (et_refl fun H1 _ Q1 q1 => ⟨_, rfl, rfl, _, rfl, by rw [iv]; exact q1⟩)
        fun _ => Evl.et_or (Evl.et_and (es rfl) fun _ => et_refl fun H1 _ Q1 q1 => ⟨_, rfl, rfl, _, rfl, by rw [iv]; exact q1⟩) fun _ => Evl.et_and (em rfl) fun _ => et_refl fun H1 _ Q1 q1 => ⟨_, rfl, rfl, _, rfl, by rw [iv]; exact q1⟩)
      (by rw [Bool.false_or, Bool.false_or]; exact hbc)) (fun hb H5 e5 => ?_) (fun hb H5 e5 => ?_)
  · refine pdF ?_ _ (s4.trans e5)
    rw [hb] at hbc
    unfold Shr.good
    simp only [Bool.or_eq_true, Bool.and_eq_true, decide_eq_true_eq] at hbc
    rcases hbc with h | ⟨h, h'⟩ | ⟨h, h'⟩
    · simp [h]
    · simp [h, h']
    · simp [h, h']
  have s5 := s4.trans e5
  have nn := natV_nonneg q.n
  have dn := q.dV_nonneg
  refine Evl.q_when (b := !decide (Int.gcd (numV q.n) q.dV = 1)) (et_refl fun H1 _ Q1 q1 => ⟨_, rfl, _, rfl, _, _, rfl, nn, dn, rfl, _, rfl, by rw [iv, show decide (((Int.gcd (numV q.n) q.dV : Nat) : Int) = 1) = decide (Int.gcd (numV q.n) q.dV = 1) from decide_eq_decide.mpr (by omega)]; exact q1⟩) (fun hb2 H6 e6 => ?_) (fun hb2 H6 e6 => ?_)
  · refine pdF ?_ _ (s5.trans e6)
    unfold Shr.good
    rw [Bool.not_eq_true', decide_eq_false_iff_not] at hb2
    rw [decide_eq_false hb2, Bool.and_false]
  have s6 := s5.trans e6
  have hg : q.good = true := by
    unfold Shr.good
    rw [Bool.not_eq_false', decide_eq_true_eq] at hb2
    rw [hb] at hbc
    rw [decide_eq_true hb2, Bool.and_true]
    simp only [Bool.or_eq_false_iff] at hbc
    rw [hbc.2.1, hbc.2.2, decide_eq_true (of_decide_eq_false hbc.1)]; rfl
  have kk : ∀ H' v, Same H H' → Tp H' (.tuple [.int q.nV, .int q.dV]) v → Q v H' := by
    have := k
    unfold Shr.pd at this
    rw [if_pos hg] at this
    exact this
  have fin : ∀ H' (n : Int), Same H H' → n = q.nV → ∀ p, H' p = none → Q (.ref p) (upd H' p (.tup [.int n, .int q.dV])) := fun H' n s' en p np => by
    subst en
    exact kk _ _ (s'.trans (Same.new np)) ⟨p, _, rfl, upd_same, _, _, rfl, rfl, _, _, rfl, rfl, rfl⟩
  refine em rfl H6 (Evl.Ex.refl _) _ fun H7 e7 => ?_
  cases hneg : q.neg with
  | true =>
    refine iteT ?_
    refine ⟨_, rfl, _, _, rfl, rfl, ?_⟩
    refine ⟨_, rfl, (by show 2 ≤ sizeLine; decide), ?_⟩
    exact fin H7 _ (s6.trans e7) (by unfold Shr.nV; rw [hneg, if_pos rfl])
  | false =>
    refine iteF ?_
    refine ⟨_, rfl, ?_⟩
    refine ⟨_, rfl, (by show 2 ≤ sizeLine; decide), ?_⟩
    exact fin H7 _ (s6.trans e7) (by unfold Shr.nV; rw [hneg, if_neg Bool.false_ne_true])
end
end K06
end Sec_D6
section Sec_D7
set_option Elab.async false
set_option linter.all false
set_option maxRecDepth 100000
set_option maxHeartbeats 4000000
namespace K06
open PySem PySem.Spec PyProof.Rows L2
open SX (S)
/-! ### the Reading's steps over its signs -/
theorem take_step {r s : Tx} {k c : Nat} (hs : s[k]? = some c) (h : r.take k = s.take k) : (r.drop k).take 1 = [c] ↔ r.take (k + 1) = s.take (k + 1) := by
  have hk : k < s.length := (List.getElem?_eq_some_iff.mp hs).1
  have e1 : (s.drop k).take 1 = [c] := by
    rw [List.drop_eq_getElem_cons hk]
    rw [List.getElem?_eq_getElem hk] at hs
    cases hs
    rfl
  rw [List.take_add, List.take_add, h, e1]
  exact ⟨fun e => by rw [e], fun e => List.append_cancel_left e⟩
abbrev fl (z : Tx) (i : Nat) (lw lm : Addr) : List (Str × V) := [("signs", .str (S z)), ("at", .int (i : Int)), ("wanted", .ref lw), ("made", .ref lm)]
/-- nothing but a was changed -/
def But (a : Addr) (H H' : Hp) : Prop := ∀ b o, b ≠ a → H b = some o → H' b = some o
theorem But.refl {a : Addr} (H : Hp) : But a H H := fun _ _ _ h => h
theorem But.trans {a : Addr} {H H1 H2 : Hp} (x : But a H H1) (y : But a H1 H2) : But a H H2 := fun b o n h => y b o n (x b o n h)
theorem But.of {a : Addr} {H H' : Hp} (s : Same H H') : But a H H' := fun b o _ h => s b o h
theorem But.upd {a : Addr} {H : Hp} {o : HO} : But a H (upd H a o) := fun b u n h => by rw [upd_ne n]; exact h
structure RdC (K : PySem.W.Frag) (A : Ads) : Prop where
  cls : Cls K A.Reading
  n1 : NoAttr K A.Reading "signs"
  n2 : NoAttr K A.Reading "at"
  n3 : NoAttr K A.Reading "wanted"
  n4 : NoAttr K A.Reading "made"
/-- an instance with its fields -/
abbrev Ins (A : Ads) (H : Hp) (a dx : Addr) (z : Tx) (i : Nat) (lw lm : Addr) : Prop := H a = some (.ins A.Reading dx (fl z i lw lm))
def PstE (A : Ads) (E : XK) (H : Hp) (a : Addr) (p : Nat) : Prop := ∀ H' d, But a H H' → H' d = some (.xd [(("at" : Str), .int (p : Int))]) → E (.ref A.BadText) (some d) H'
def PstA (A : Ads) (Q : VK) (v : V) (H : Hp) (a dx : Addr) (z : Tx) (i : Nat) (lw lm : Addr) : Prop := ∀ H', But a H H' → Ins A H' a dx z i lw lm → Q v H'
section
variable {P : Program} {w : World} {K : PySem.W.Frag} {mg : Str → Option Value} {base : Heap} {A : Ads}
section
variable {σ : L2.St} {H : Hp} {a dx lw lm : Addr} {z : Tx} {i : Nat} {Q : VK}
theorem f_signs (C : RdC K A) (hs : σ[0]? = some (some (.ref a))) (h : Ins A H a dx z i lw lm) (q : Q (.str (S z)) H) : tFld K (tVar 0) "signs" σ H Q := ⟨_, hs, a, _, dx, _, _, rfl, h, C.cls, C.n1, rfl, q⟩
theorem f_at (C : RdC K A) (hs : σ[0]? = some (some (.ref a))) (h : Ins A H a dx z i lw lm) (q : Q (.int (i : Int)) H) : tFld K (tVar 0) "at" σ H Q := ⟨_, hs, a, _, dx, _, _, rfl, h, C.cls, C.n2, rfl, q⟩
theorem f_wanted (C : RdC K A) (hs : σ[0]? = some (some (.ref a))) (h : Ins A H a dx z i lw lm) (q : Q (.ref lw) H) : tFld K (tVar 0) "wanted" σ H Q := ⟨_, hs, a, _, dx, _, _, rfl, h, C.cls, C.n3, rfl, q⟩
theorem f_made (C : RdC K A) (hs : σ[0]? = some (some (.ref a))) (h : Ins A H a dx z i lw lm) (q : Q (.ref lm) H) : tFld K (tVar 0) "made" σ H Q := ⟨_, hs, a, _, dx, _, _, rfl, h, C.cls, C.n4, rfl, q⟩
end
theorem inc_at (C : RdC K A) {σ : L2.St} {H : Hp} {a dx lw lm : Addr} {z : Tx} {i : Nat} {D : Ends} (hs : σ[0]? = some (some (.ref a))) (h : Ins A H a dx z i lw lm) (q : ∀ H', But a H H' → Ins A H' a dx z (i + 1) lw lm → D.nx σ H') :
    sFld K (tVar 0) (tOp (rI0 fun i j => .int (i + j)) (tFld K (tVar 0) "at") (tC (.int 1))) "at" D σ H := by
  refine ⟨_, hs, _, _, _, _, _, rfl, h, C.cls, C.n2, rfl, ?_⟩
  refine ⟨_, _, rfl, rfl, _, hs, a, _, dx, _, rfl, h, C.cls, C.n2, (by show 4 < 1000; decide), q _ But.upd ?_⟩
  have e : (i : Int) + 1 = ((i + 1 : Nat) : Int) := by omega
  show (upd H a (.ins A.Reading dx (putF "at" (.int ((i : Int) + 1)) (fl z i lw lm)))) a = _
  rw [upd_same, e]
  rfl
def sp_refs (A : Ads) : Sp := fun vs H _ E => ∃ a dx z i lw lm, vs = [.ref a] ∧ Ins A H a dx z i lw lm ∧ PstE A E H a i
theorem ok_refuse_sign {fr : Addr} {fd : FuncData} (T : Txt K mg A) (R : Err K mg A) (C : RdC K A) (F : L2.Fun K "refuse_sign" "Reading.refuse_sign" s_Reading_refuse_sign fr fd) : FnOk P w K mg base (L2.CX P w) 3 fr fd ["self"] (sp_refs A) := by
  refine F.okX sc_Reading_refuse_sign (fun vs H Q E h => ?_) (fun cdv A' outer s H vs Q E hr h => ?_)
  · obtain ⟨a, dx, z, i, lw, lm, rfl, _⟩ := h; rfl
  obtain ⟨a, dx, z, i, lw, lm, rfl, h, q⟩ := h
  refine ⟨_, (pss_one (ps_raise rfl (takes_of rfl rfl rfl rfl) (pmkBT R hr (by omega) (by rfl) (pa_cons (pe_fld (pv 0) rfl) pa_nil)))), ?_⟩
  refine ⟨_, rfl, _, _, _, _, _, rfl, h, C.cls, C.n2, rfl, ?_⟩
  exact bt_done fun H2 d s2 _ e => q H2 d (.of s2) e
def sp_next (A : Ads) : Sp := fun vs H Q _ => ∃ a dx z i lw lm, vs = [.ref a] ∧ Ins A H a dx z i lw lm ∧ z.length ≤ 3000 ∧ Q (.str (S ((z.drop i).take 1))) H
theorem ok_next_sign {fr : Addr} {fd : FuncData} (T : Txt K mg A) (C : RdC K A) (F : L2.Fun K "next_sign" "Reading.next_sign" s_Reading_next_sign fr fd) : FnOk P w K mg base CX0 1 fr fd ["self"] (sp_next A) := by
  refine F.ok sc_Reading_next_sign (fun vs H Q E h => ?_) (fun cdv A' outer s H vs Q E hr h => ?_)
  · obtain ⟨a, dx, z, i, lw, lm, rfl, _⟩ := h; rfl
  obtain ⟨a, dx, z, i, lw, lm, rfl, h, hz, q⟩ := h
  refine ⟨_, (pss_one (ps_ret (pe_slice sl_str (pe_fld (pv 0) rfl) (po_some (pe_fld (pv 0) rfl)) (po_some (pe_op op_add (pe_fld (pv 0) rfl) pe_int))))), ?_⟩
  refine ⟨_, rfl, _, _, _, _, _, rfl, h, C.cls, C.n1, rfl, ?_⟩
  refine ⟨_, rfl, _, _, _, _, _, rfl, h, C.cls, C.n2, rfl, ?_⟩
  refine ⟨_, rfl, ?_⟩
  refine ⟨_, rfl, _, _, _, _, _, rfl, h, C.cls, C.n2, rfl, ?_⟩
  refine ⟨_, _, rfl, rfl, _, rfl, _, rfl, small _ (by rw [S_size]; omega), ?_⟩
  have e : (i : Int) + 1 = ((i + 1 : Nat) : Int) := by omega
  rw [e, cut_mid, show i + 1 - i = 1 by omega]
  exact q
abbrev FRef (P : Program) (w : World) (K : PySem.W.Frag) (mg : Str → Option Value) (base : Heap) (A : Ads) := Me P w K mg base (L2.CX P w) 3 A.Reading "refuse_sign" (sp_refs A)
abbrev FNext (P : Program) (w : World) (K : PySem.W.Frag) (mg : Str → Option Value) (base : Heap) (A : Ads) := Me P w K mg base CX0 1 A.Reading "next_sign" (sp_next A)
def sp_tt (A : Ads) : Sp := fun vs H Q E => ∃ a dx z i lw lm s, vs = [.ref a, .str (S s)] ∧ Ins A H a dx z i lw lm ∧ z.length ≤ 3000 ∧ match pL s i (z.drop i) with
  | .ok (i', _) => PstA A Q .non H a dx z i' lw lm
  | .error p => PstE A E H a p
theorem ok_take_text {fr : Addr} {fd : FuncData} (T : Txt K mg A) (C : RdC K A) (G_Reading_next_sign : FNext P w K mg base A) (G_Reading_refuse_sign : FRef P w K mg base A)
    (F : L2.Fun K "take_text" "Reading.take_text" s_Reading_take_text fr fd) : FnOk P w K mg base (L2.CX P w) 4 fr fd ["self", "text"] (sp_tt A) := by
  refine F.okX sc_Reading_take_text (fun vs H Q E h => ?_) (fun cdv A' outer s H vs Q E hr h => ?_)
  · obtain ⟨a, dx, z, i, lw, lm, s, rfl, _⟩ := h; rfl
  obtain ⟨a, dx, z, i, lw, lm, t, rfl, h, hz, q⟩ := h
  refine ⟨_, (pss_one (ps_for (passes_of rfl) rfl (pi_str (pv 1)) (pg_name (i := 2) sc_Reading_take_text.nd rfl (Or.inl rfl)) (pss_cons (ps_if (pt_cmpR op_ne (pmeS0 G_Reading_next_sign hr (by omega) (fun _ => passS0) (pv 0)) (pv 2) (nomark _)) (pss_one (ps_expr (pmeS0 G_Reading_refuse_sign hr (by omega) (fun σ => passAt (takes_of rfl rfl rfl rfl) σ) (pv 0)))) pss_nil) (pss_one (ps_fld (pv 0) (pe_op op_add (pe_fld (pv 0) rfl) pe_int) rfl))))), ?_⟩
  refine s_forS (l := t) (Evl.ev_var rfl) (fun k σ' H' => But a H H' ∧ Ins A H' a dx z (i + k) lw lm ∧ (z.drop i).take k = t.take k ∧ ∃ o, σ' = [some (.ref a), some (.str (S t)), o]) (fun H1 e1 => ⟨.of e1, e1 _ _ h, by simp, _, rfl⟩) (fun k c σ' H' hk p => ?_) (fun σ' H' p => ?_)
  · obtain ⟨b1, h1, ht, o, rfl⟩ := p
    have il : k < t.length := (List.getElem?_eq_some_iff.mp hk).1
    refine ⟨_, rfl, ?_⟩
    refine ⟨a, dx, _, rfl, h1, rfl, ?_⟩
    refine ⟨a, dx, z, i + k, lw, lm, rfl, h1, hz, ?_⟩
    refine ⟨_, rfl, rfl, _, rfl, ?_⟩
    have hd : (z.drop (i + k)).take 1 = ((z.drop i).drop k).take 1 := by rw [List.drop_drop]
    rw [eqS (b := [c]) rfl, hd]
    refine itDN (fun c2 => ?_) (fun c2 => ?_)
    · refine ⟨_, rfl, ?_⟩
      refine ⟨a, dx, _, rfl, h1, rfl, ?_⟩
      refine ⟨a, dx, z, i + k, lw, lm, rfl, h1, ?_⟩
      rw [take_step hk ht] at c2
      have hl : lcp t (z.drop i) = k := by
        have h1 : k ≤ lcp t (z.drop i) := (lcp_ge _ _ _ (by omega)).mpr ht
        have h2 : ¬ k + 1 ≤ lcp t (z.drop i) := fun z => c2 ((lcp_ge _ _ _ (by omega)).mp z)
        omega
      have np : ¬ pre t (z.drop i) = true := fun z => by rw [pre_iff] at z; omega
      unfold pL at q
      rw [if_neg np, hl] at q
      exact fun H2 d b2 => q H2 d (b1.trans b2)
    · rw [take_step hk ht] at c2
      exact inc_at C rfl h1 fun H2 b2 h2 => ⟨b1.trans b2, h2, c2, _, rfl⟩
  · obtain ⟨b1, h1, ht, o, rfl⟩ := p
    rw [List.take_length] at ht
    unfold pL at q
    rw [if_pos ((pre_take _ _).mpr ht)] at q
    exact q _ b1 h1
end
end K06
end Sec_D7
section Sec_D8
set_option Elab.async false
set_option linter.all false
set_option maxRecDepth 100000
set_option maxHeartbeats 4000000
namespace K06
open PySem PySem.Spec PyProof.Rows L2
open SX (S)
theorem tw_at : ∀ (r : Tx) (k : Nat), k ≤ (r.takeWhile digit).length → (k < (r.takeWhile digit).length ↔ ∃ d t, r.drop k = d :: t ∧ digit d = true)
  | [], k, h => by simp
  | c :: r, 0, h => by
    by_cases hc : digit c = true
    · rw [List.takeWhile_cons_of_pos hc]; simp [hc]
    · rw [List.takeWhile_cons_of_neg hc]; simp [hc]
  | c :: r, k + 1, h => by
    by_cases hc : digit c = true
    · rw [List.takeWhile_cons_of_pos hc] at h ⊢
      rw [List.length_cons] at h ⊢
      have := tw_at r k (by omega)
      rw [List.drop_succ_cons, ← this]
      omega
    · rw [List.takeWhile_cons_of_neg hc] at h; simp at h
section
variable {P : Program} {w : World} {K : PySem.W.Frag} {mg : Str → Option Value} {base : Heap} {A : Ads}
def sp_tf (A : Ads) : Sp := fun vs H Q E => ∃ a dx z i lw lm most, vs = [.ref a, .int (most : Nat)] ∧ Ins A H a dx z i lw lm ∧ z.length ≤ 3000 ∧ 0 < most ∧ match pF most i (z.drop i) with
  | .ok (ds, i', _) => PstA A Q (.str (S ds)) H a dx z i' lw lm
  | .error p => PstE A E H a p
theorem ok_take_figures {fr : Addr} {fd : FuncData} (T : Txt K mg A) (C : RdC K A) (G_Reading_next_sign : FNext P w K mg base A) (G_Reading_refuse_sign : FRef P w K mg base A)
    (F : L2.Fun K "take_figures" "Reading.take_figures" s_Reading_take_figures fr fd) : FnOk P w K mg base (L2.CX P w) 4 fr fd ["self", "most"] (sp_tf A) := by
  refine F.okX sc_Reading_take_figures (fun vs H Q E h => ?_) (fun cdv A' outer s H vs Q E hr h => ?_)
  · obtain ⟨a, dx, z, i, lw, lm, s, rfl, _⟩ := h; rfl
  obtain ⟨a, dx, z, i, lw, lm, most, rfl, h, hz, hm, q⟩ := h
  refine ⟨_, (pss_cons (ps_set (i := 2) sc_Reading_take_figures.nd rfl (Or.inl rfl) (pe_fld (pv 0) rfl)) (pss_cons (ps_if (PW.pt (pw_or (pt_cmpR op_eq (pmeS0 G_Reading_next_sign hr (by omega) (fun _ => passS0) (pv 0)) pe_str (nomark _)) (pw_or1 (pt_cmpR op_notIn_sign (pmeS0 G_Reading_next_sign hr (by omega) (fun _ => passS0) (pv 0)) (pe_gc rfl T.c_FIGURES) (by rfl))))) (pss_one (ps_expr (pmeS0 G_Reading_refuse_sign hr (by omega) (fun σ => passAt (takes_of rfl rfl rfl rfl) σ) (pv 0)))) pss_nil) (pss_cons (ps_fld (pv 0) (pe_op op_add (pe_fld (pv 0) rfl) pe_int) rfl) (pss_cons (ps_if (pt_cmpR op_ne (pe_ix ix_str (pe_fld (pv 0) rfl) (pv 2) (fun _ _ => rfl)) pe_str (nomark _)) (pss_one (ps_while (passes_of rfl) (PW.pt (pw_and (pt_cmpR op_lt (pe_op op_sub (pe_fld (pv 0) rfl) (pv 2)) (pv 1) (nomark _)) (pw_and (pt_cmpR op_ne (pmeS0 G_Reading_next_sign hr (by omega) (fun _ => passS0) (pv 0)) pe_str (nomark _)) (pw_and1 (pt_cmpR op_in_sign (pmeS0 G_Reading_next_sign hr (by omega) (fun _ => passS0) (pv 0)) (pe_gc rfl T.c_FIGURES) (by rfl)))))) (pss_one (ps_fld (pv 0) (pe_op op_add (pe_fld (pv 0) rfl) pe_int) rfl)))) pss_nil) (pss_one (ps_ret (pe_slice sl_str (pe_fld (pv 0) rfl) (po_some (pv 2)) (po_some (pe_fld (pv 0) rfl))))))))), ?_⟩
  refine ⟨_, rfl, _, _, _, _, _, rfl, h, C.cls, C.n2, rfl, ?_⟩
  generalize hr0 : z.drop i = r at q
  have refu : figs most r = [] → ∀ D : L2.Ends, ∀ σ : L2.St, σ[0]? = some (some (.ref a)) → tDrop (tMeS A.Reading "refuse_sign" (sp_refs A) (fun _ cls d H => E cls d H) (tVar 0) tNil) D σ H := fun hf D σ hs => by
    refine ⟨_, hs, a, dx, _, rfl, h, rfl, ?_⟩
    refine ⟨a, dx, z, i, lw, lm, rfl, h, ?_⟩
    unfold pF at q
    rw [if_pos hf] at q
    exact q
  refine ⟨_, rfl, ?_⟩
  refine ⟨a, dx, _, rfl, h, rfl, ?_⟩
  refine ⟨a, dx, z, i, lw, lm, rfl, h, hz, ?_⟩
  refine ⟨rfl, _, rfl, ?_⟩
  rw [hr0, eqS lit_nil]
  cases r with
  | nil => exact iteT (refu rfl _ _ rfl)
  | cons c r =>
  refine tF (by simp) ?_
  refine ⟨_, rfl, ?_⟩
  refine ⟨a, dx, _, rfl, h, rfl, ?_⟩
  refine ⟨a, dx, z, i, lw, lm, rfl, h, hz, ?_⟩
  rw [hr0]
  refine ⟨c, _, rfl, rfl, _, rfl, ?_⟩
  rw [figs_in]
  cases hc : digit c with
  | false => exact iteT (refu (by rw [figs_cons, if_neg (by rw [hc]; exact Bool.false_ne_true)]) _ _ rfl)
  | true =>
  refine iteF ?_
  refine inc_at C rfl h fun H1 b1 h1 => ?_
  have il : i < z.length := by
    have : (z.drop i).length = (c :: r).length := by rw [hr0]
    rw [List.length_drop, List.length_cons] at this
    omega
  have zi : z[i]? = some c := by
    have := congrArg (fun l => l[0]?) hr0
    simpa using this
  have ne : figs most (c :: r) ≠ [] := by rw [figs_cons, if_pos hc]; split <;> simp
  unfold pF at q
  rw [if_neg ne] at q
  -- the end: the place is i + n, the figures are the text's next n
  have fin : ∀ (n : Nat) H2 (D : L2.Ends), D.rt = Q → But a H H2 → Ins A H2 a dx z (i + n) lw lm → figs most (c :: r) = (c :: r).take n → n ≤ (c :: r).length →
      tRet (tSl rSlS (tFld K (tVar 0) "signs") (tPart (tVar 2)) (tPart (tFld K (tVar 0) "at"))) D [some (.ref a), some (.int (most : Nat)), some (.int (i : Int))] H2 := by
    intro n H2 D eD b2 h2 e hn
    refine ⟨_, rfl, _, _, _, _, _, rfl, h2, C.cls, C.n1, rfl, ?_⟩
    refine ⟨_, rfl, ?_⟩
    refine ⟨_, rfl, ?_⟩
    refine ⟨_, rfl, _, _, _, _, _, rfl, h2, C.cls, C.n2, rfl, ?_⟩
    refine ⟨_, rfl, _, rfl, small _ (by rw [S_size]; omega), ?_⟩
    rw [cut_mid, hr0, show i + n - i = n by omega, ← e, eD]
    have hl : i + (figs most (c :: r)).length = i + n := by rw [e, List.length_take]; omega
    rw [hl] at q
    exact q H2 b2 h2
  refine ⟨_, rfl, _, _, _, _, _, rfl, h1, C.cls, C.n1, rfl, ?_⟩
  refine ⟨_, rfl, ?_⟩
  refine ⟨_, _, c, rfl, rfl, small _ (by rw [S_size]; omega), atI_nat _ _ _ zi, ?_⟩
  refine ⟨rfl, _, rfl, ?_⟩
  rw [show V.str ⟨#[c]⟩ = V.str (S [c]) from rfl, eqS lit_0]
  refine itDN (fun c48 => ?_) (fun c48 => ?_)
  · have c48 : ¬ c = 48 := fun z => c48 (by rw [z])
    have ef : figs most (c :: r) = c :: (r.takeWhile digit).take (most - 1) := by rw [figs_cons, if_pos hc, if_neg c48]
    refine Evl.s_while (fun m σ' H' => σ' = [some (.ref a), some (.int (most : Nat)), some (.int (i : Int))] ∧ ∃ k, m = most - k ∧ k ≤ ((r.takeWhile digit).take (most - 1)).length ∧ But a H H' ∧ Ins A H' a dx z (i + 1 + k) lw lm) most ⟨rfl, 0, by omega, Nat.zero_le _, b1, h1⟩ (fun m σ' H' hw => ?_)
    obtain ⟨rfl, k, rfl, hk, b2, h2⟩ := hw
    have hk2 : k ≤ (r.takeWhile digit).length := by rw [List.length_take] at hk; omega
    have ta := tw_at r k hk2
    have hd : z.drop (i + 1 + k) = r.drop k := by
      have : z.drop (i + (1 + k)) = (z.drop i).drop (1 + k) := by rw [List.drop_drop]
      rw [Nat.add_assoc, this, hr0, Nat.add_comm 1 k, List.drop_succ_cons]
    refine ⟨decide (k < ((r.takeWhile digit).take (most - 1)).length), et_refl fun H3 e3 Q1 q1 => ?_, fun hb H3 e3 => ?_, fun hb H3 e3 => ?_⟩
    · have h3 : Ins A H3 a dx z (i + 1 + k) lw lm := e3 _ _ h2
      refine ⟨_, rfl, _, _, _, _, _, rfl, h3, C.cls, C.n2, rfl, ?_⟩
      refine ⟨_, rfl, _, _, rfl, rfl, _, rfl, _, _, rfl, rfl, _, rfl, ?_⟩
      refine itD (fun cm => ?_) (fun cm => ?_)
      · refine ⟨_, rfl, ?_⟩
        refine ⟨a, dx, _, rfl, h3, rfl, ?_⟩
        refine ⟨a, dx, z, i + 1 + k, lw, lm, rfl, h3, hz, ?_⟩
        refine ⟨rfl, _, rfl, ?_⟩
        rw [hd, eqS lit_nil]
        cases hdk : r.drop k with
        | nil =>
          have e : decide (k < ((r.takeWhile digit).take (most - 1)).length) = false := decide_eq_false fun z => by
            rw [List.length_take] at z
            obtain ⟨d, t, e, _⟩ := ta.mp (by omega)
            rw [hdk] at e
            cases e
          rw [e] at q1
          exact iteF q1
        | cons d t =>
          refine iteT ?_
          refine ⟨_, rfl, ?_⟩
          refine ⟨a, dx, _, rfl, h3, rfl, ?_⟩
          refine ⟨a, dx, z, i + 1 + k, lw, lm, rfl, h3, hz, ?_⟩
          rw [hd, hdk]
          refine ⟨d, _, rfl, rfl, _, rfl, ?_⟩
          rw [figs_in]
          have e : decide (k < ((r.takeWhile digit).take (most - 1)).length) = digit d := by
            cases hdd : digit d with
            | true =>
              refine decide_eq_true ?_
              have := ta.mpr ⟨d, t, hdk, hdd⟩
              rw [List.length_take]
              omega
            | false =>
              refine decide_eq_false fun z => ?_
              rw [List.length_take] at z
              obtain ⟨d', t', e, e2⟩ := ta.mp (by omega)
              rw [hdk] at e
              cases e
              rw [hdd] at e2
              cases e2
          rw [← e]
          exact q1
      · have e : decide (k < ((r.takeWhile digit).take (most - 1)).length) = false := decide_eq_false fun z => by
          rw [List.length_take] at z
          omega
        rw [e] at q1
        exact q1
    · have hb := of_decide_eq_true hb
      have h3 : Ins A H3 a dx z (i + 1 + k) lw lm := e3 _ _ h2
      have hkm : k < most := by rw [List.length_take] at hb; omega
      refine ⟨fun σ2 H2 => σ2 = [some (.ref a), some (.int (most : Nat)), some (.int (i : Int))] ∧ But a H H2 ∧ Ins A H2 a dx z (i + 1 + (k + 1)) lw lm, fun σ2 H2 hn => ⟨most - (k + 1), by omega, hn.1, k + 1, rfl, hb, hn.2.1, hn.2.2⟩, ?_⟩
      exact inc_at C rfl h3 fun H4 b4 h4 => ⟨rfl, (b2.trans (.of e3)).trans b4, h4⟩
    · have hb := of_decide_eq_false hb
      have hke : k = ((r.takeWhile digit).take (most - 1)).length := by omega
      have h3 : Ins A H3 a dx z (i + (k + 1)) lw lm := by
        have := e3 _ _ h2
        rw [show i + (k + 1) = i + 1 + k by omega]
        exact this
      refine fin (k + 1) H3 _ rfl (b2.trans (.of e3)) h3 ?_ ?_
      · rw [ef, List.take_succ_cons, hke, ← takeWhile_pre]
      · rw [List.length_cons]
        have := (List.takeWhile_prefix digit (l := r)).length_le
        omega
  · have c48 : c = 48 := by
      have := List.cons.inj c48
      exact this.1
    refine fin 1 H1 _ rfl b1 h1 ?_ (by rw [List.length_cons]; omega)
    rw [figs_cons, if_pos hc, if_pos c48, c48]
    rfl
end
end K06
end Sec_D8
section Sec_D9
set_option Elab.async false
set_option linter.all false
set_option maxRecDepth 100000
set_option maxHeartbeats 4000000
namespace K06
open PySem PySem.Spec PyProof.Rows L2
open SX (S)
theorem starts (a b : Tx) : Txt.startswith (S a) (S b) = pre b a := by
  unfold Txt.startswith
  rw [StrLaws.subAt_eq]
  show (decide (0 + (S b).length ≤ (S a).length) && ((a.drop 0).take (S b).length == b)) = pre b a
  rw [S_size, S_size, List.drop_zero, Nat.zero_add]
  cases h : pre b a with
  | true =>
    have := (pre_take b a).mp h
    rw [this]
    have hl : b.length ≤ a.length := by rw [← this, List.length_take]; omega
    simp [hl]
  | false =>
    have : ¬ a.take b.length = b := fun z => by rw [(pre_take b a).mpr z] at h; cases h
    have e : (a.take b.length == b) = false := by
      cases hb : (a.take b.length == b)
      · rfl
      · exact absurd (eq_of_beq hb) this
    rw [e, Bool.and_false]
theorem pre_lcp {w r : Tx} {n : Nat} (hn : n ≤ r.length) : pre (r.take n) w = true ↔ n ≤ lcp w r := by
  rw [pre_take, List.length_take, Nat.min_eq_left hn]
  by_cases hw : n ≤ w.length
  · rw [lcp_ge w r n hw]
    exact ⟨fun h => h.symm, fun h => h.symm⟩
  · constructor
    · intro h
      have := congrArg List.length h
      rw [List.length_take, List.length_take] at this
      omega
    · intro h
      have := (lcp_le w r).1
      omega
/-- a sequence of the heap -/
def Sqz (H : Hp) (p : Addr) (xs : List V) : Prop := H p = some (.lst xs) ∨ H p = some (.tup xs)
theorem Sqz.but {H H' : Hp} {a p C dx : Addr} {fs : List (Str × V)} {xs : List V} (h : Sqz H p xs) (ha : H a = some (.ins C dx fs)) (b : But a H H') : Sqz H' p xs := by
  have ne : p ≠ a := fun z => by
    subst z
    rcases h with h | h <;> rw [ha] at h <;> cases h
  rcases h with h | h
  · exact .inl (b _ _ ne h)
  · exact .inr (b _ _ ne h)
theorem Sqz.up {H H' : Hp} {p : Addr} {xs : List V} (h : Sqz H p xs) (b : Same H H') : Sqz H' p xs := h.elim (fun h => .inl (b _ _ h)) (fun h => .inr (b _ _ h))
section
variable {P : Program} {w : World} {K : PySem.W.Frag} {mg : Str → Option Value} {base : Heap} {A : Ads}
theorem Sqz.sq {H : Hp} {p : Addr} {xs : List V} (h : Sqz H p xs) : SqL K H p xs ∨ SqT K H p xs := h.elim (fun h => .inl (Evl.sq_of h)) (fun h => .inr (Evl.st_of h))
/-- what the words are like over what follows -/
theorem find_take {ws : List Tx} (ap : Apart ws) {r : Tx} {k : Nat} (h : r.take k ∈ ws) : ws.find? (fun w => pre w r) = some (r.take k) := by
  have hp : pre (r.take k) r = true := by
    rw [pre_take, List.length_take]
    by_cases hk : k ≤ r.length
    · rw [Nat.min_eq_left hk]
    · rw [Nat.min_eq_right (by omega), List.take_of_length_le (Nat.le_refl _), List.take_of_length_le (by omega)]
  cases hf : ws.find? (fun w => pre w r) with
  | none =>
    rw [List.find?_eq_none] at hf
    exact absurd hp (hf _ h)
  | some v => rw [ap.one (List.mem_of_find?_eq_some hf) h (List.find?_some (p := fun w => pre w r) hf) hp]
theorem find_no {ws : List Tx} {r : Tx} {k : Nat} (hk : k ≤ r.length) (no : ∀ j, j ≤ k → r.take j ∉ ws) (hf : far ws r ≤ k) : ws.find? (fun w => pre w r) = none := by
  rw [List.find?_eq_none]
  intro v hv hp
  have hl := lcp_far (r := r) hv
  have e := (pre_iff v r).mp hp
  have e2 := (pre_take v r).mp hp
  exact no v.length (by omega) (by rw [e2]; exact hv)
/-- [f(x) for x in xs] -/
theorem lc_vals {J : It} {G : Hp → Prop} {xs : List V} (f : V → V) {g : TG} {te : TE} {vs : List Nat} {σ : L2.St} {H1 : Hp} {D : Addr} {Qd : Hp → Prop} (wk : Walk J xs.length G (YAt xs)) (hG : ∀ H', Same H1 H' → G H') (hD : H1 D = none) (hz : xs.length ≤ 100000)
    (hs : ∀ (x : V) (H : Hp), x ∈ xs → Same H1 H → ∀ Q : VK, (∀ H4, Same H H4 → Q (f x) H4) → g x (wipe σ vs) H fun σ2 H2 => wipe σ2 vs = wipe σ vs ∧ te σ2 H2 Q)
    (hd : ∀ H, Same H1 H → H D = some (.lst (xs.map f)) → Qd H) :
    ∃ W : Nat → Nat → Hp → Prop, (∃ m, W 0 m (upd H1 D (.lst []))) ∧ ∀ i m H, W i m H →
      (J.stop i H ∧ Qd H) ∨ (J.go i H ∧ ∃ Nx : Hp → Prop, (∀ H', Nx H' → ∃ m', m' < m ∧ W (i + 1) m' H') ∧ ∀ x H', J.yld i H x H' → g x (wipe σ vs) H' fun σ2 H2 => wipe σ2 vs = wipe σ vs ∧ tYes σ2 H2 fun b H3 =>
        if b = true then te σ2 H3 fun y H4 => ∃ acc, H4 D = some (.lst acc) ∧ acc.length < sizeLine ∧ Nx (upd H4 D (.lst (acc ++ [y]))) else Nx H3) := by
  refine lc_it wk (fun i H => Same H1 H ∧ H D = some (.lst ((xs.take i).map f))) ⟨Same.new hD, upd_same⟩ (fun i H _ p => hG H p.1) (fun i x H H' hi p y => ?_) (fun H p => ?_)
  · obtain ⟨rfl, hx⟩ := y
    refine hs x _ (List.mem_of_getElem? hx) p.1 _ fun H4 s4 => ?_
    refine ⟨_, s4 _ _ p.2, ?_, (Evl.Ex.mut (Evl.Ex.trans p.1 s4) hD : Same _ _), ?_⟩
    · rw [List.length_map, List.length_take]
      exact Nat.lt_of_lt_of_le (show min i xs.length < 100001 by omega) (by decide)
    · rw [upd_same, List.take_succ_eq_append_getElem hi, List.map_append]
      rw [List.getElem?_eq_getElem hi] at hx
      cases hx
      rfl
  · have p2 := p.2
    rw [List.take_length] at p2
    exact hd H p.1 p2
def sp_tw (A : Ads) : Sp := fun vs H Q E => ∃ a dx z i lw lm p ws, vs = [.ref a, .ref p] ∧ Ins A H a dx z i lw lm ∧ z.length ≤ 3000 ∧ i ≤ z.length ∧ Sqz H p (ws.map fun w => V.str (S w)) ∧ Apart ws ∧ [] ∉ ws ∧ ws.length ≤ 1000 ∧ match ws.find? (fun w => pre w (z.drop i)) with
  | some v => PstA A Q (.str (S v)) H a dx z (i + v.length) lw lm
  | none => PstE A E H a (i + far ws (z.drop i))
theorem mapS (ws : List Tx) : ws.map (fun w => V.str (S w)) = (ws.map S).map V.str := by rw [List.map_map]; rfl
theorem ok_take_word {fr : Addr} {fd : FuncData} (T : Txt K mg A) (C : RdC K A) (G_Reading_refuse_sign : FRef P w K mg base A)
    (F : L2.Fun K "take_word" "Reading.take_word" s_Reading_take_word fr fd) : FnOk P w K mg base (L2.CX P w) 4 fr fd ["self", "words"] (sp_tw A) := by
  refine F.okX sc_Reading_take_word (fun vs H Q E h => ?_) (fun cdv A' outer s H vs Q E hr h => ?_)
  · obtain ⟨a, dx, z, i, lw, lm, p, ws, rfl, _⟩ := h; rfl
  obtain ⟨a, dx, z, i, lw, lm, p, ws, rfl, h, hz, hi, hp, ap, n0, wl, q⟩ := h
  refine ⟨_, (pss_cons (ps_set (i := 2) sc_Reading_take_word.nd rfl (Or.inl rfl) (pe_fld (pv 0) rfl)) (pss_cons (ps_while (passes_of rfl) (pt_cmpR op_notIn_seq (pe_slice sl_str (pe_fld (pv 0) rfl) (po_some (pv 2)) (po_some (pe_fld (pv 0) rfl))) (pv 1) (by rfl)) (pss_cons (ps_set (i := 3) sc_Reading_take_word.nd rfl (Or.inr rfl) (pe_slice sl_str (pe_fld (pv 0) rfl) (po_some (pv 2)) (po_some (pe_op op_add (pe_fld (pv 0) rfl) pe_int)))) (pss_cons (ps_if (PW.pt (pw_or (pt_cmpR op_eq (pe_fld (pv 0) rfl) (pe_callB call_len_str (by rfl) T.z_len (by decide +kernel) (pa_cons (pe_fld (pv 0) rfl) pa_nil)) (nomark _)) (pw_or1 (pt_not (pt_val (pe_callB (cr_any rfl) (by rfl) T.z_any (by decide +kernel) (pa_cons (pe_lc (own := [("word", 4)]) (g := gName 4) rfl sc_Reading_take_word.nd (pi_sq (pv 1)) (blkOk_by (own := [("word", 4)]) (N := N_Reading_take_word) (sc := defScope s_Reading_take_word) (by decide +kernel)) (fun _ _ _ _ _ => pg_name (i := 4) sc_Reading_take_word.nd rfl (Or.inl rfl)) (fun _ _ _ _ _ => pts_nil) (fun _ _ _ _ _ => (pe_m1 PySem.F.slot_str_startswith PySem.F.type_str_startswith mt_startswith (pv 4) (pv 3)))) pa_nil))))))) (pss_one (ps_expr (pmeS0 G_Reading_refuse_sign hr (by omega) (fun σ => passAt (takes_of rfl rfl rfl rfl) σ) (pv 0)))) pss_nil) (pss_one (ps_fld (pv 0) (pe_op op_add (pe_fld (pv 0) rfl) pe_int) rfl))))) (pss_one (ps_ret (pe_slice sl_str (pe_fld (pv 0) rfl) (po_some (pv 2)) (po_some (pe_fld (pv 0) rfl))))))), ?_⟩
  refine ⟨_, rfl, _, _, _, _, _, rfl, h, C.cls, C.n2, rfl, ?_⟩
  generalize hr0 : z.drop i = r at q
  have rl : r.length = z.length - i := by rw [← hr0, List.length_drop]
  have cutk : ∀ k, cutS (S z) (some (i : Int)) (some ((i + k : Nat) : Int)) = S (r.take k) := fun k => by rw [cut_mid, hr0, show i + k - i = k by omega]
  refine Evl.q_while (fun m σ' H' => ∃ k o3 o4, m = r.length - k ∧ k ≤ r.length ∧ (∀ j, j < k → r.take j ∉ ws) ∧ k ≤ far ws r ∧ But a H H' ∧ Ins A H' a dx z (i + k) lw lm ∧ σ' = [some (.ref a), some (.ref p), some (.int (i : Int)), o3, o4]) r.length ⟨0, none, none, rfl, Nat.zero_le _, fun j hj => absurd hj (Nat.not_lt_zero _), Nat.zero_le _, .refl _, h, rfl⟩ (fun m σ' H' hw => ?_)
  obtain ⟨k, o3, o4, rfl, hk, no, hfar, b1, h1, rfl⟩ := hw
  have hp1 := hp.but h b1
  refine ⟨!decide (r.take k ∈ ws), et_refl fun H3 e3 Q1 q1 => ?_, fun hb H3 e3 => ?_, fun hb H3 e3 => ?_⟩
  · have h3 : Ins A H3 a dx z (i + k) lw lm := e3 _ _ h1
    refine ⟨_, rfl, _, _, _, _, _, rfl, h3, C.cls, C.n1, rfl, ?_⟩
    refine ⟨_, rfl, ?_⟩
    refine ⟨_, rfl, ?_⟩
    refine ⟨_, rfl, _, _, _, _, _, rfl, h3, C.cls, C.n2, rfl, ?_⟩
    refine ⟨_, rfl, _, rfl, small _ (by rw [S_size]; omega), ?_⟩
    rw [cutk]
    refine ⟨_, rfl, p, _, rfl, (hp1.up e3).sq, rfl, by rw [mapS]; exact all_flat _, _, rfl, ?_⟩
    have e : (if true = true then !inV (V.str (S (r.take k))) (ws.map fun w => V.str (S w)) else inV (V.str (S (r.take k))) (ws.map fun w => V.str (S w))) = !decide (r.take k ∈ ws) := by
      rw [if_pos rfl, mapS, inV_str]
      congr 1
      refine decide_eq_decide.mpr ?_
      rw [List.mem_map]
      exact ⟨fun ⟨x, hx, e⟩ => by rw [← S_inj e]; exact hx, fun hx => ⟨_, hx, rfl⟩⟩
    rw [e]
    exact q1
  · have hb : r.take k ∉ ws := by rw [Bool.not_eq_true', decide_eq_false_iff_not] at hb; exact hb
    have h3 : Ins A H3 a dx z (i + k) lw lm := e3 _ _ h1
    have hp3 := hp1.up e3
    have no1 : ∀ j, j ≤ k → r.take j ∉ ws := fun j hj => by
      by_cases e : j = k
      · subst e; exact hb
      · exact no j (by omega)
    refine ⟨fun σ2 H2 => k + 1 ≤ r.length ∧ k + 1 ≤ far ws r ∧ But a H H2 ∧ Ins A H2 a dx z (i + (k + 1)) lw lm ∧ ∃ o3 o4, σ2 = [some (.ref a), some (.ref p), some (.int (i : Int)), o3, o4],
      fun σ2 H2 ⟨n1, n2, n3, n4, o3, o4, n5⟩ => ⟨r.length - (k + 1), by omega, k + 1, o3, o4, rfl, n1, fun j hj => no1 j (by omega), n2, n3, n4, n5⟩, ?_⟩
    refine ⟨_, rfl, _, _, _, _, _, rfl, h3, C.cls, C.n1, rfl, ?_⟩
    refine ⟨_, rfl, ?_⟩
    refine ⟨_, rfl, ?_⟩
    refine ⟨_, rfl, _, _, _, _, _, rfl, h3, C.cls, C.n2, rfl, ?_⟩
    refine ⟨_, _, rfl, rfl, _, rfl, _, rfl, small _ (by rw [S_size]; omega), ?_⟩
    have ek : ((i + k : Nat) : Int) + 1 = ((i + (k + 1) : Nat) : Int) := by omega
    rw [ek, cutk]
    have refu : far ws r ≤ k → ∀ H4, Same H3 H4 → ∀ D : L2.Ends, ∀ σ : L2.St, σ[0]? = some (some (.ref a)) → tDrop (tMeS A.Reading "refuse_sign" (sp_refs A) (fun _ cls d H => E cls d H) (tVar 0) tNil) D σ H4 := fun hf H4 s4 D σ hs => by
      have h4 : Ins A H4 a dx z (i + k) lw lm := s4 _ _ h3
      refine ⟨_, hs, a, dx, _, rfl, h4, rfl, ?_⟩
      refine ⟨a, dx, z, i + k, lw, lm, rfl, h4, ?_⟩
      rw [find_no hk no1 hf, show far ws r = k by omega] at q
      exact fun H2 d b2 => q H2 d (b1.trans ((But.of (Same.trans e3 s4)).trans b2))
    refine ⟨_, rfl, _, _, _, _, _, rfl, h3, C.cls, C.n2, rfl, ?_⟩
    refine ⟨_, rfl, _, _, _, _, _, rfl, h3, C.cls, C.n1, rfl, ?_⟩
    refine ⟨_, rfl, small _ (by rw [S_size]; omega), rfl, _, rfl, ?_⟩
    have elen : decide (V.int ((i + k : Nat) : Int) = V.int ((S z).length : Int)) = decide (k = r.length) := by
      refine decide_eq_decide.mpr ?_
      rw [S_size, V.int.injEq]
      omega
    rw [elen]
    refine itD (fun ck => ?_) (fun ck => ?_)
    · refine iteT ?_
      have := far_len ws r
      exact refu (by omega) H3 (Same.refl _) _ _ rfl
    · have anyd : ∀ (D : Addr) (H4 : Hp), Same H3 H4 → H4 D = some (.lst (ws.map fun w => V.bl (pre (r.take (k + 1)) w))) → ∀ Q4 : VK, Q4 (.bl (decide (k + 1 ≤ far ws r))) H4 → rAny K [.ref D] H4 Q4 := fun D H4 s4 hD Q4 q4 => by
        refine ⟨D, ws.map fun w => pre (r.take (k + 1)) w, rfl, .inl (.inl ?_), ?_⟩
        · rw [hD, List.map_map]; rfl
        · have e : ((ws.map fun w => pre (r.take (k + 1)) w).any id) = decide (k + 1 ≤ far ws r) := by
            rw [List.any_map]
            cases hd : decide (k + 1 ≤ far ws r) with
            | true =>
              have hd := of_decide_eq_true hd
              rw [List.any_eq_true]
              by_cases hall : ∀ w ∈ ws, lcp w r ≤ k
              · have := far_le hall; omega
              · obtain ⟨v, hv, hl⟩ : ∃ v ∈ ws, ¬ lcp v r ≤ k := by
                  apply Classical.byContradiction
                  intro hc
                  exact hall fun w hw => Classical.byContradiction fun hn => hc ⟨w, hw, hn⟩
                exact ⟨v, hv, (pre_lcp (by omega)).mpr (by omega)⟩
            | false =>
              have hd := of_decide_eq_false hd
              rw [List.any_eq_false]
              intro v hv hc
              have h1 : pre (r.take (k + 1)) v = true := hc
              have := (pre_lcp (by omega)).mp h1
              have := lcp_far (r := r) hv
              omega
          rw [e]
          exact q4
      have wlen : (ws.map fun w => V.str (S w)).length ≤ 100000 := by rw [List.length_map]; omega
      have elem : ∀ (H1 : Hp) (x : V) (H : Hp), x ∈ (ws.map fun w => V.str (S w)) → Same H1 H → ∀ Q : VK, (∀ H4, Same H H4 → Q (match x with | .str y => .bl (Txt.startswith y (S (r.take (k + 1)))) | _ => .non) H4) →
          gName 4 x (wipe [some (.ref a), some (.ref p), some (.int (i : Int)), some (.str (S (r.take (k + 1)))), o4] [4]) H fun σ2 H2 => wipe σ2 [4] = wipe [some (.ref a), some (.ref p), some (.int (i : Int)), some (.str (S (r.take (k + 1)))), o4] [4] ∧
            tM1 (fun x xs H Q => ∃ a b, x = .str a ∧ xs = [.str b] ∧ Q (.bl (Txt.startswith a b)) H) (tVar 4) (tVar 3) σ2 H2 Q := fun H1 x H hx s4 Q q4 => by
        obtain ⟨v, hv, rfl⟩ := List.mem_map.mp hx
        exact ⟨rfl, _, rfl, ⟨_, rfl⟩, _, rfl, _, _, rfl, rfl, q4 H (Same.refl _)⟩
      have emap : ((ws.map fun w => V.str (S w)).map fun x => match x with | .str y => V.bl (Txt.startswith y (S (r.take (k + 1)))) | _ => .non) = ws.map fun w => V.bl (pre (r.take (k + 1)) w) := by
        rw [List.map_map]
        refine List.map_congr_left fun v _ => ?_
        show V.bl (Txt.startswith (S v) (S (r.take (k + 1)))) = _
        rw [starts]
      have after : ∀ (D : Addr) (H4 : Hp), Same H3 H4 → H4 D = some (.lst ((ws.map fun w => V.str (S w)).map fun x => match x with | .str y => V.bl (Txt.startswith y (S (r.take (k + 1)))) | _ => .non)) → ∀ (Q4 : Bool → Hp → Prop), Q4 (decide (k + 1 ≤ far ws r)) H4 →
          rAny K [.ref D] H4 fun x H' => ∃ c, x = .bl c ∧ Q4 c H' := fun D H4 s4 hD Q4 q4 => by
        rw [emap] at hD
        exact anyd D H4 s4 hD _ ⟨_, rfl, q4⟩
      have fin : ∀ H4, Same H3 H4 → ∀ D : L2.Ends, D.nx = (fun σ2 H2 => k + 1 ≤ r.length ∧ k + 1 ≤ far ws r ∧ But a H H2 ∧ Ins A H2 a dx z (i + (k + 1)) lw lm ∧ ∃ o3 o4, σ2 = [some (.ref a), some (.ref p), some (.int (i : Int)), o3, o4]) →
          (fun b H1 => if b = true then tDrop (tMeS A.Reading "refuse_sign" (sp_refs A) (fun _ cls d H => E cls d H) (tVar 0) tNil) { D with nx := sFld K (tVar 0) (tOp (rI0 fun i j => .int (i + j)) (tFld K (tVar 0) "at") (tC (.int 1))) "at" D } [some (.ref a), some (.ref p), some (.int (i : Int)), some (.str (S (r.take (k + 1)))), o4] H1
            else tNext { D with nx := sFld K (tVar 0) (tOp (rI0 fun i j => .int (i + j)) (tFld K (tVar 0) "at") (tC (.int 1))) "at" D } [some (.ref a), some (.ref p), some (.int (i : Int)), some (.str (S (r.take (k + 1)))), o4] H1) (!decide (k + 1 ≤ far ws r)) H4 := fun H4 s4 D eD => by
        refine itDN (fun cf => ?_) (fun cf => ?_)
        · exact refu (by omega) H4 s4 _ _ rfl
        · refine inc_at C rfl (s4 _ _ h3) fun H5 b5 h5 => ?_
          rw [eD]
          exact ⟨by omega, cf, (b1.trans (But.of (Same.trans e3 s4))).trans b5, h5, _, _, rfl⟩
      refine ⟨_, rfl, ?_⟩
      rcases hp3 with hl3 | ht3
      · refine .inl ⟨p, _, rfl, Evl.sq_of hl3, fun D hD => ?_⟩
        refine lc_vals _ (walk_list (K := K) (a := p)) (fun H' s' => Evl.sq_of (s' _ _ hl3)) hD wlen (elem H3) (fun H4 s4 h4 => ?_)
        exact after D H4 s4 h4 _ (fin H4 s4 _ rfl)
      · refine .inr ⟨p, _, rfl, Evl.st_of ht3, fun D hD => ?_⟩
        refine lc_vals _ (walk_tup (K := K) (a := p)) (fun H' s' => Evl.st_of (s' _ _ ht3)) hD wlen (elem H3) (fun H4 s4 h4 => ?_)
        exact after D H4 s4 h4 _ (fin H4 s4 _ rfl)
  · have hb : r.take k ∈ ws := by rw [Bool.not_eq_false', decide_eq_true_eq] at hb; exact hb
    have h3 : Ins A H3 a dx z (i + k) lw lm := e3 _ _ h1
    refine ⟨_, rfl, _, _, _, _, _, rfl, h3, C.cls, C.n1, rfl, ?_⟩
    refine ⟨_, rfl, ?_⟩
    refine ⟨_, rfl, ?_⟩
    refine ⟨_, rfl, _, _, _, _, _, rfl, h3, C.cls, C.n2, rfl, ?_⟩
    refine ⟨_, rfl, _, rfl, small _ (by rw [S_size]; omega), ?_⟩
    rw [cutk]
    rw [find_take ap hb] at q
    have hl : (r.take k).length = k := by rw [List.length_take]; omega
    simp only [hl] at q
    exact q H3 (b1.trans (.of e3)) h3
end
end K06
end Sec_D9
section Sec_D10
set_option Elab.async false
set_option linter.all false
set_option maxRecDepth 100000
set_option maxHeartbeats 4000000
namespace K06
open PySem PySem.Spec PyProof.Rows L2
open SX (S)
/-! ### the Reading's lists -/
def Kind.tx : Kind → Str
  | .deal => "deal" | .amount => "amount" | .sign => "sign" | .share => "share" | .figure => "figure"
def Task.pd : Task → PyData
  | .text s => .tuple [.str "text", st s.tx]
  | .part k => .tuple [.str "part", .str k.tx]
  | .mark true => .tuple [.str "mark", .tuple [st Mk.plus.nm, st Mk.minus.nm, st Mk.times.nm]]
  | .mark false => .tuple [.str "mark", .tuple [st Mk.below.nm, st Mk.upto.nm]]
  | .pair => .tuple [.str "pair"]
  | .make w n => .tuple [.str "make", st w.tx, .int (n : Nat)]
structure RdX (A : Ads) (B H : Hp) (a dx lw lm : Addr) (z : Tx) (i : Nat) (W : List Task) (ms : List PyData) : Prop where
  sB : Same B H
  na : B a = none
  nlw : B lw = none
  nlm : B lm = none
  ne : lw ≠ lm
  hi : i ≤ z.length
  hz : z.length ≤ 3000
  ins : Ins A H a dx z i lw lm
  hw : ∃ xs, H lw = some (.lst xs) ∧ TpL H (W.reverse.map Task.pd) xs
  hm : ∃ ys, H lm = some (.lst ys) ∧ TpL H ms.reverse ys
theorem But.tups {a C dx : Addr} {fs : List (Str × V)} {H H' : Hp} (b : But a H H') (h : H a = some (.ins C dx fs)) : Tups H H' := fun p xs e => b p _ (fun z => by rw [z, h] at e; cases e) e
section
variable {A : Ads} {B H : Hp} {a dx lw lm : Addr} {z : Tx} {i : Nat} {W : List Task} {ms : List PyData}
theorem RdX.but (R : RdX A B H a dx lw lm z i W ms) {H' : Hp} {i' : Nat} (b : But a H H') (h : Ins A H' a dx z i' lw lm) (hi : i' ≤ z.length) : RdX A B H' a dx lw lm z i' W ms := by
  obtain ⟨xs, h1, h2⟩ := R.hw
  obtain ⟨ys, h3, h4⟩ := R.hm
  have t := b.tups R.ins
  refine ⟨fun p o e => b p o (fun z => by rw [z, R.na] at e; cases e) (R.sB p o e), R.na, R.nlw, R.nlm, R.ne, hi, R.hz, h, ⟨xs, b _ _ (fun z => ?_) h1, h2.up t⟩, ⟨ys, b _ _ (fun z => ?_) h3, h4.up t⟩⟩
  · rw [z, R.ins] at h1; cases h1
  · rw [z, R.ins] at h3; cases h3
theorem RdX.same (R : RdX A B H a dx lw lm z i W ms) {H' : Hp} (s : Same H H') : RdX A B H' a dx lw lm z i W ms := R.but (.of s) (s _ _ R.ins) R.hi
theorem RdX.exc (R : RdX A B H a dx lw lm z i W ms) {H' : Hp} (b : But a H H') : Same B H' := fun p o e => b p o (fun z => by rw [z, R.na] at e; cases e) (R.sB p o e)
theorem RdX.a_lw (R : RdX A B H a dx lw lm z i W ms) : lw ≠ a := fun z => by obtain ⟨xs, h, _⟩ := R.hw; rw [z, R.ins] at h; cases h
theorem RdX.a_lm (R : RdX A B H a dx lw lm z i W ms) : lm ≠ a := fun z => by obtain ⟨xs, h, _⟩ := R.hm; rw [z, R.ins] at h; cases h
/-- the tuples stay where a list is changed -/
theorem tups_lst {H : Hp} {l : Addr} {xs : List V} {o : HO} (h : H l = some (.lst xs)) : Tups H (upd H l o) := Tups.upd h (fun _ z => by cases z)
/-- new wanted -/
theorem RdX.setW (R : RdX A B H a dx lw lm z i W ms) {W' : List Task} {xs : List V} (h : TpL H (W'.reverse.map Task.pd) xs) : Tups H (upd H lw (.lst xs)) ∧ RdX A B (upd H lw (.lst xs)) a dx lw lm z i W' ms := by
  obtain ⟨xs0, h1, h2⟩ := R.hw
  obtain ⟨ys, h3, h4⟩ := R.hm
  have t : Tups H (upd H lw (.lst xs)) := tups_lst h1
  exact ⟨t, Evl.Ex.mut R.sB R.nlw, R.na, R.nlw, R.nlm, R.ne, R.hi, R.hz, by rw [Ins, upd_ne (Ne.symm R.a_lw)]; exact R.ins, ⟨xs, upd_same, h.up t⟩, ⟨ys, by rw [upd_ne (Ne.symm R.ne)]; exact h3, h4.up t⟩⟩
theorem RdX.setM (R : RdX A B H a dx lw lm z i W ms) {ms' : List PyData} {xs : List V} (h : TpL H ms'.reverse xs) : Tups H (upd H lm (.lst xs)) ∧ RdX A B (upd H lm (.lst xs)) a dx lw lm z i W ms' := by
  obtain ⟨xs0, h1, h2⟩ := R.hw
  obtain ⟨ys, h3, h4⟩ := R.hm
  have t : Tups H (upd H lm (.lst xs)) := tups_lst h3
  exact ⟨t, Evl.Ex.mut R.sB R.nlm, R.na, R.nlw, R.nlm, R.ne, R.hi, R.hz, by rw [Ins, upd_ne (Ne.symm R.a_lm)]; exact R.ins, ⟨xs0, by rw [upd_ne R.ne]; exact h1, h2.up t⟩, ⟨xs, upd_same, h.up t⟩⟩
end
/-! ### readings that give data -/
def EvD (te : TE) (σ : L2.St) (H : Hp) (d : PyData) : Prop := ∀ H1, Same H H1 → ∀ Q : VK, (∀ v H2, Same H1 H2 → Tp H2 d v → Q v H2) → te σ H1 Q
def EvDs (ta : TA) (σ : L2.St) (H : Hp) (ds : List PyData) : Prop := ∀ H1, Same H H1 → ∀ Q : List V → Hp → Prop, (∀ vs H2, Same H1 H2 → TpL H2 ds vs → Q vs H2) → ta σ H1 Q
section
variable {σ : L2.St} {H : Hp} {te : TE} {ta : TA}
theorem ed_c {v : V} {d : PyData} (h : ∀ H, Tp H d v) : EvD (tC v) σ H d := fun H1 _ Q q => q v H1 (Same.refl _) (h H1)
theorem ed_str {x y : Str} (e : x = y) : EvD (tC (.str x)) σ H (.str y) := ed_c fun _ => by rw [e]; rfl
theorem ed_var {i : Nat} {v : V} {d : PyData} (hs : σ[i]? = some (some v)) (h : Tp H d v) : EvD (tVar i) σ H d := fun H1 s1 Q q => ⟨v, hs, q v H1 (Same.refl _) (h.up (Same.tups s1))⟩
theorem eds_nil : EvDs tNil σ H [] := fun H1 _ Q q => q [] H1 (Same.refl _) rfl
theorem eds_cons {d : PyData} {ds : List PyData} (h : EvD te σ H d) (hr : EvDs ta σ H ds) : EvDs (tCons te ta) σ H (d :: ds) := fun H1 s1 Q q =>
  h H1 s1 _ fun v H2 s2 hv => hr H2 (s1.trans s2) _ fun vs H3 s3 hvs => q _ H3 (s2.trans s3) ⟨v, vs, rfl, hv.up (Same.tups s3), hvs⟩
theorem ed_tup {ds : List PyData} (h : EvDs ta σ H ds) (hl : ds.length ≤ 100000) : EvD (tTup ta) σ H (.tuple ds) := fun H1 s1 Q q =>
  h H1 s1 _ fun vs H2 s2 hvs => ⟨small _ (by rw [hvs.length]; exact hl), fun p np => q _ _ (s2.trans (Same.new np)) ⟨p, vs, rfl, upd_same, hvs.up (Same.tups (Same.new np))⟩⟩
end
section
variable {P : Program} {w : World} {K : PySem.W.Frag} {mg : Str → Option Value} {base : Heap} {A : Ads}
section
variable {σ : L2.St} {B H : Hp} {a dx lw lm : Addr} {z : Tx} {i : Nat} {W : List Task} {ms : List PyData} {D : Ends} {tz : TS} {te : TE} {ta : TA}
theorem TpL.snoc {H : Hp} {ds : List PyData} {d : PyData} {xs : List V} {v : V} (h : TpL H ds xs) (hd : Tp H d v) : TpL H (ds ++ [d]) (xs ++ [v]) := TpL.app h ⟨v, [], rfl, hd, rfl⟩
theorem app_w (C : RdC K A) (hs : σ[0]? = some (some (.ref a))) (R : RdX A B H a dx lw lm z i W ms) (hW : W.length < 100000) {t : Task} (hd : EvD te σ H t.pd) (k : ∀ H', Tups H H' → RdX A B H' a dx lw lm z i (t :: W) ms → D.nx σ H') :
    tDrop (tBM K "list" rAppend (tFld K (tVar 0) "wanted") (tCons te tNil)) D σ H := by
  refine ⟨_, hs, _, _, _, _, _, rfl, R.ins, C.cls, C.n3, rfl, ?_⟩
  obtain ⟨xs, h1, h2⟩ := R.hw
  refine ⟨.inl ⟨rfl, xs, .inl (.inl h1)⟩, hd H (Same.refl _) _ fun v H2 s2 hv => ?_⟩
  have R2 := R.same s2
  have hl : xs.length = W.length := by rw [h2.length, List.length_map, List.length_reverse]
  have t2 : TpL H2 ((t :: W).reverse.map Task.pd) (xs ++ [v]) := by
    rw [List.reverse_cons, List.map_append]
    exact (h2.up (Same.tups s2)).snoc hv
  have r := R2.setW (W' := t :: W) t2
  exact ⟨lw, xs, v, rfl, rfl, s2 _ _ h1, Nat.lt_of_lt_of_le (show xs.length < 100000 by omega) (by decide), k _ ((Same.tups s2).trans r.1) r.2⟩
theorem q_app_w (C : RdC K A) (hs : σ[0]? = some (some (.ref a))) (R : RdX A B H a dx lw lm z i W ms) (hW : W.length < 100000) {t : Task} (hd : EvD te σ H t.pd) (k : ∀ H', Tups H H' → RdX A B H' a dx lw lm z i (t :: W) ms → tz D σ H') :
    tSeq (tDrop (tBM K "list" rAppend (tFld K (tVar 0) "wanted") (tCons te tNil))) tz D σ H := app_w (D := { D with nx := tz D }) C hs R hW hd k
theorem app_m (C : RdC K A) (hs : σ[0]? = some (some (.ref a))) (R : RdX A B H a dx lw lm z i W ms) (hW : ms.length < 100000) {t : PyData} (hd : EvD te σ H t) (k : ∀ H', Tups H H' → RdX A B H' a dx lw lm z i W (t :: ms) → D.nx σ H') :
    tDrop (tBM K "list" rAppend (tFld K (tVar 0) "made") (tCons te tNil)) D σ H := by
  refine ⟨_, hs, _, _, _, _, _, rfl, R.ins, C.cls, C.n4, rfl, ?_⟩
  obtain ⟨xs, h1, h2⟩ := R.hm
  refine ⟨.inl ⟨rfl, xs, .inl (.inl h1)⟩, hd H (Same.refl _) _ fun v H2 s2 hv => ?_⟩
  have R2 := R.same s2
  have hl : xs.length = ms.length := by rw [h2.length, List.length_reverse]
  have t2 : TpL H2 (t :: ms).reverse (xs ++ [v]) := by
    rw [List.reverse_cons]
    exact (h2.up (Same.tups s2)).snoc hv
  have r := R2.setM (ms' := t :: ms) t2
  exact ⟨lm, xs, v, rfl, rfl, s2 _ _ h1, Nat.lt_of_lt_of_le (show xs.length < 100000 by omega) (by decide), k _ ((Same.tups s2).trans r.1) r.2⟩
/-- self.wanted.extend([..]), the last one is wanted first -/
theorem ext_w (C : RdC K A) (hs : σ[0]? = some (some (.ref a))) (R : RdX A B H a dx lw lm z i W ms) (hW : W.length < 100000) {ts : List Task} (hl : ts.length ≤ 100) (hd : EvDs ta σ H (ts.reverse.map Task.pd)) (k : ∀ H', Tups H H' → RdX A B H' a dx lw lm z i (ts ++ W) ms → D.nx σ H') :
    tDrop (tBM K "list" rExtend (tFld K (tVar 0) "wanted") (tCons (tLst ta) tNil)) D σ H := by
  refine ⟨_, hs, _, _, _, _, _, rfl, R.ins, C.cls, C.n3, rfl, ?_⟩
  obtain ⟨xs, h1, h2⟩ := R.hw
  refine ⟨.inl ⟨rfl, xs, .inl (.inl h1)⟩, hd H (Same.refl _) _ fun vs H2 s2 hv => ?_⟩
  have hl2 : vs.length = ts.length := by rw [hv.length, List.length_map, List.length_reverse]
  refine ⟨small _ (by omega), fun p np => ?_⟩
  have s3 : Same H2 (upd H2 p (.lst vs)) := Same.new np
  have h3 : (upd H2 p (.lst vs)) p = some (.lst vs) := upd_same
  have s23 := s2.trans s3
  generalize upd H2 p (.lst vs) = H3 at s3 h3 s23 ⊢
  have R2 := R.same s23
  have hlx : xs.length = W.length := by rw [h2.length, List.length_map, List.length_reverse]
  have t2 : TpL H3 ((ts ++ W).reverse.map Task.pd) (xs ++ vs) := by
    rw [List.reverse_append, List.map_append]
    exact (h2.up (Same.tups s23)).app (hv.up (Same.tups s3))
  have r := R2.setW (W' := ts ++ W) t2
  exact ⟨lw, p, xs, vs, rfl, rfl, s23 _ _ h1, h3, Nat.le_trans (show xs.length + vs.length ≤ 100100 by omega) (by decide), k _ ((Same.tups s23).trans r.1) r.2⟩
end
theorem s_forC {σ : L2.St} {H : Hp} {ta : TA} {g : TG} {tu : TS} {D : Ends} {n : Nat} (h : Evl.EvA ta σ H [.int ((n : Int) - 1), .int (-1), .int (-1)]) (hn : n ≤ 100000) (Pv : Nat → L2.St → Hp → Prop) (h0 : ∀ H1, Same H H1 → Pv 0 σ H1)
    (hs : ∀ (i : Nat) σ' H', i < n → Pv i σ' H' → g (.int ((n - 1 - i : Nat) : Int)) σ' H' fun σ2 H2 => tu { D with nx := Pv (i + 1), ct := Pv (i + 1), bk := D.nx } σ2 H2) (hd : ∀ σ' H', Pv n σ' H' → D.nx σ' H') : tFor (iRng3 ta) g tu D σ H :=
  h H (Evl.Ex.refl H) _ fun H1 e => ⟨(n : Int) - 1, -1, -1, n, rfl, by
    have := RgC.neg (i := (n : Int) - 1) (j := -1) (by omega) (by omega) (by omega) (by omega)
    rw [show ((n : Int) - 1 - -1).toNat = n by omega] at this
    exact this, for_rangeC Pv (h0 H1 e) (fun i σ' H' hi p => by
      have e0 : (n : Int) - 1 + ((i : Nat) : Int) * (-1) = ((n - 1 - i : Nat) : Int) := by omega
      rw [e0]
      exact hs i σ' H' hi p) hd⟩
/-- the last j arguments' tasks -/
def stp (ks : List Kind) : Nat → List Task
  | 0 => []
  | j + 1 => .text (if 0 < ks.length - 1 - j then .comma else .open) :: .part (ks.getD (ks.length - 1 - j) .deal) :: stp ks j
theorem wantForm_eq (w : Word) (h : w.kinds ≠ []) : wantForm w = stp w.kinds w.kinds.length ++ [.text .close, .make w w.kinds.length] := by
  cases w <;> first | rfl | exact absurd rfl h
theorem stp_len (ks : List Kind) : ∀ j, (stp ks j).length = 2 * j
  | 0 => rfl
  | j + 1 => by show (stp ks j).length + 1 + 1 = _; rw [stp_len ks j]; omega
theorem kinds_le (w : Word) : w.kinds.length ≤ 2 := by cases w <;> decide
abbrev kvs (w : Word) : List V := w.kinds.map fun k => V.str k.tx
def sp_wf (K : PySem.W.Frag) (A : Ads) : Sp := fun vs H Q _ => ∃ a k B dx lw lm z i W ms wd, vs = [.ref a, .str (S wd.tx), .ref k] ∧ KTup K k (kvs wd) ∧ RdX A B H a dx lw lm z i W ms ∧ W.length ≤ 90000 ∧ ∀ H', Tups H H' → RdX A B H' a dx lw lm z i (wantForm wd ++ W) ms → Q .non H'
theorem ok_want_form {fr : Addr} {fd : FuncData} (T : Txt K mg A) (C : RdC K A) (F : L2.Fun K "want_form" "Reading.want_form" s_Reading_want_form fr fd) : FnOk P w K mg base CX0 1 fr fd ["self", "word", "kinds"] (sp_wf K A) := by
  refine F.ok sc_Reading_want_form (fun vs H Q E h => ?_) (fun cdv A' outer s H vs Q E hr h => ?_)
  · obtain ⟨a, k, B, dx, lw, lm, z, i, W, ms, wd, rfl, _⟩ := h; rfl
  obtain ⟨a, k, B, dx, lw, lm, z, i, W, ms, wd, rfl, hk, R, hW, q⟩ := h
  refine ⟨_, (pss_cons (ps_expr (pe_bm PySem.F.plainAttrs_list PySem.F.slot_list_append PySem.F.type_list_append mt_append (pe_fld (pv 0) rfl) (pa_cons (pe_tup (pa_cons pe_str (pa_cons (pv 1) (pa_cons (pe_callB call_len_seq (by rfl) T.z_len (by decide +kernel) (pa_cons (pv 2) pa_nil)) pa_nil)))) pa_nil))) (pss_cons (ps_if (pt_cmpR (op_eqD hr.units) (pv 2) (pe_tup pa_nil) (nomark _)) (pss_one (ps_retN)) pss_nil) (pss_cons (ps_expr (pe_bm PySem.F.plainAttrs_list PySem.F.slot_list_append PySem.F.type_list_append mt_append (pe_fld (pv 0) rfl) (pa_cons (pe_tup (pa_cons pe_str (pa_cons pe_str pa_nil))) pa_nil))) (pss_one (ps_for PassesOwn.never rfl (pi_range3 (by rfl) T.z_range (pa_cons (pe_op op_sub (pe_callB call_len_seq (by rfl) T.z_len (by decide +kernel) (pa_cons (pv 2) pa_nil)) pe_int) (pa_cons (pe_un un_neg pe_int) (pa_cons (pe_un un_neg pe_int) pa_nil)))) (pg_name (i := 3) sc_Reading_want_form.nd rfl (Or.inl rfl)) (pss_cons (ps_expr (pe_bm PySem.F.plainAttrs_list PySem.F.slot_list_append PySem.F.type_list_append mt_append (pe_fld (pv 0) rfl) (pa_cons (pe_tup (pa_cons pe_str (pa_cons (pe_ix ix_tup (pv 2) (pv 3) (fun _ _ => rfl)) pa_nil))) pa_nil))) (pss_one (ps_expr (pe_bm PySem.F.plainAttrs_list PySem.F.slot_list_append PySem.F.type_list_append mt_append (pe_fld (pv 0) rfl) (pa_cons (pe_tup (pa_cons pe_str (pa_cons (pe_ifExp (pt_cmpR op_gt (pv 3) pe_int (nomark _)) pe_str pe_str) pa_nil))) pa_nil)))))))))), ?_⟩
  have kl : (kvs wd).length = wd.kinds.length := by simp [kvs]
  have k2 := kinds_le wd
  refine q_app_w C rfl R (by omega) (t := .make wd wd.kinds.length) (ed_tup (eds_cons (ed_str (by decide +kernel)) (eds_cons (ed_var rfl rfl) (eds_cons (fun H1 s1 Q1 q1 => ⟨_, rfl, k, _, rfl, .inr hk.sq, q1 _ _ (Same.refl _) (by rw [kl]; rfl)⟩) eds_nil))) (by simp)) (fun H1 t1 R1 => ?_)
  have eqk : ∀ (H : Hp) (Q1 : VK) (p : Addr), H p = some (.tup []) → Q1 (.bl (decide (wd.kinds = []))) H → rEqD K (.ref k) (.ref p) H Q1 := fun H Q1 p hp q1 => by
    refine ⟨.tuple (wd.kinds.map fun k => .str k.tx), .tuple [], .tup hk.sq ?_, .tup (Evl.st_of hp) .nil, ?_, by decide, ?_⟩
    · clear q1 hk kl R R1 q hW
      unfold kvs
      generalize wd.kinds = l
      induction l with
      | nil => exact .nil
      | cons x l ih => exact .cons (.str _) ih
    · cases wd <;> decide +kernel
    · have e : PyData.eqv (.tuple (wd.kinds.map fun k => .str k.tx)) (.tuple []) = decide (wd.kinds = []) := by cases wd <;> decide +kernel
      rw [e]
      exact q1
  refine Evl.q_when (b := decide (wd.kinds = [])) (fun H2 e2 Q1 q1 => ?_) (fun hb H2 e2 => ?_) (fun hb H2 e2 => ?_)
  · refine ⟨_, rfl, ?_⟩
    refine ⟨(by show 0 ≤ sizeLine; decide), fun p np => ?_⟩
    exact eqk _ _ p upd_same ⟨_, rfl, q1 _ (Same.new np)⟩
  · have hb := of_decide_eq_true hb
    refine q H2 (t1.trans (Same.tups e2)) ?_
    have e : wantForm wd = [.make wd wd.kinds.length] := by cases wd <;> first | rfl | (exact absurd hb (by decide))
    rw [e]
    exact R1.same e2
  · have hb := of_decide_eq_false hb
    refine q_app_w C rfl (R1.same e2) (by simp; omega) (t := .text .close) (ed_tup (eds_cons (ed_str (by decide +kernel)) (eds_cons (ed_str (by decide +kernel)) eds_nil)) (by simp)) (fun H3 t3 R3 => ?_)
    refine s_forC (n := wd.kinds.length) (fun H4 e4 Q1 q1 => ?_) (by omega) (fun j σ' H' => Tups H H' ∧ RdX A B H' a dx lw lm z i (stp wd.kinds j ++ (.text .close :: .make wd wd.kinds.length :: W)) ms ∧ ∃ o, σ' = [some (.ref a), some (.str (S wd.tx)), some (.ref k), o])
      (fun H4 e4 => ⟨((t1.trans (Same.tups e2)).trans t3).trans (Same.tups e4), R3.same e4, none, rfl⟩) (fun j σ' H' hj p => ?_) (fun σ' H' p => ?_)
    · refine ⟨_, rfl, k, _, rfl, .inr hk.sq, _, _, rfl, rfl, _, rfl, _, rfl, ?_⟩
      rw [kl]
      exact q1 H4 (Evl.Ex.refl _)
    · obtain ⟨t4, R4, o, rfl⟩ := p
      have W4 : (stp wd.kinds j ++ (.text .close :: .make wd wd.kinds.length :: W)).length ≤ 90010 := by
        rw [List.length_append, stp_len, List.length_cons, List.length_cons]; omega
      have hp : wd.kinds.length - 1 - j < wd.kinds.length := by omega
      refine q_app_w C rfl R4 (by omega) (t := .part (wd.kinds.getD (wd.kinds.length - 1 - j) .deal)) (ed_tup (eds_cons (ed_str (by decide +kernel)) (eds_cons (fun H1 s1 Q1 q1 => ?_) eds_nil)) (by simp)) (fun H5 t5 R5 => ?_)
      · refine ⟨_, rfl, _, rfl, k, _, _, _, rfl, rfl, hk.sq, atI_nat _ _ (V.str (wd.kinds.getD (wd.kinds.length - 1 - j) .deal).tx) ?_, q1 _ _ (Same.refl _) rfl⟩
        unfold kvs
        rw [List.getElem?_map, List.getD_eq_getElem?_getD, List.getElem?_eq_getElem hp]
        rfl
      · refine app_w C rfl R5 (by rw [List.length_cons]; omega) (t := .text (if 0 < wd.kinds.length - 1 - j then .comma else .open)) (ed_tup (eds_cons (ed_str (by decide +kernel)) (eds_cons (fun H1 s1 Q1 q1 => ?_) eds_nil)) (by simp)) (fun H6 t6 R6 => ⟨(t4.trans t5).trans t6, R6, _, rfl⟩)
        refine ⟨_, rfl, _, _, rfl, rfl, _, rfl, ?_⟩
        refine itD (fun c => ?_) (fun c => ?_)
        · refine q1 _ _ (Same.refl _) ?_
          rw [if_pos (by omega)]
          exact (congrArg V.str (show (", " : Str) = S tComma by decide +kernel))
        · refine q1 _ _ (Same.refl _) ?_
          rw [if_neg (by omega)]
          exact (congrArg V.str (show ("(" : Str) = S tOpen by decide +kernel))
    · obtain ⟨t4, R4, o, rfl⟩ := p
      refine q H' t4 ?_
      rw [wantForm_eq wd hb]
      simpa using R4
end
end K06
end Sec_D10
section Sec_D11
set_option Elab.async false
set_option linter.all false
set_option maxRecDepth 100000
set_option maxHeartbeats 4000000
namespace K06
open PySem PySem.Spec PyProof.Rows L2
open SX (S)
theorem apart_forms : Apart (forms.map Word.tx) := by unfold Apart; decide +kernel
theorem apart_numbers : Apart (numbers.map Word.tx) := by unfold Apart; decide +kernel
theorem apart_pairs : Apart (pairs.map Mk.tx) := by unfold Apart; decide +kernel
theorem apart_signs : Apart (signs.map Mk.tx) := by unfold Apart; decide +kernel
/-- the text's dicts -/
structure DicF (K : PySem.W.Frag) (w : World) (A : Ads) : Prop where
  kf : KKeys K A.FORMS (forms.map fun w => S w.tx)
  kn : KKeys K A.NUMBERS (numbers.map fun w => S w.tx)
  vf : ∀ wd ∈ forms, ∃ k, KDct K w A.FORMS (S wd.tx) (.ref k) ∧ KTup K k (kvs wd)
  vn : ∀ wd ∈ numbers, ∃ k, KDct K w A.NUMBERS (S wd.tx) (.ref k) ∧ KTup K k (kvs wd)
  vm : ∀ m : Mk, KDct K w A.MARKS (S m.nm) (.str (S m.tx))
def StepQ (A : Ads) (B : Hp) (Q : VK) (E : XK) (a dx lw lm : Addr) (z : Tx) (H : Hp) (x : Except Nat (Nat × Tx × List Task × List PyData)) : Prop := match x with
  | .ok (i', _, W', ms') => ∀ H', Tups H H' → RdX A B H' a dx lw lm z i' W' ms' → Q .non H'
  | .error p => ∀ H' d, Same B H' → H' d = some (.xd [(("at" : Str), .int (p : Int))]) → E (.ref A.BadText) (some d) H'
section
variable {P : Program} {w : World} {K : PySem.W.Frag} {mg : Str → Option Value} {base : Heap} {A : Ads}
abbrev FTw (P : Program) (w : World) (K : PySem.W.Frag) (mg : Str → Option Value) (base : Heap) (A : Ads) := Me P w K mg base (L2.CX P w) 4 A.Reading "take_word" (sp_tw A)
abbrev FTf (P : Program) (w : World) (K : PySem.W.Frag) (mg : Str → Option Value) (base : Heap) (A : Ads) := Me P w K mg base (L2.CX P w) 4 A.Reading "take_figures" (sp_tf A)
abbrev FWf (P : Program) (w : World) (K : PySem.W.Frag) (mg : Str → Option Value) (base : Heap) (A : Ads) := Me P w K mg base CX0 1 A.Reading "want_form" (sp_wf K A)
abbrev FTt (P : Program) (w : World) (K : PySem.W.Frag) (mg : Str → Option Value) (base : Heap) (A : Ads) := Me P w K mg base (L2.CX P w) 4 A.Reading "take_text" (sp_tt A)
abbrev eX (E : XK) : L2.St → XK := fun _ cls d H => E cls d H
section
variable {σ : L2.St} {B H : Hp} {a dx lw lm : Addr} {z : Tx} {i : Nat} {W : List Task} {ms : List PyData} {D : Ends} {E : XK}
theorem drop_len {t : Tx} {r' : Tx} {i' : Nat} (h : Rd t i (z.drop i) i' r') (hi : i ≤ z.length) : i' ≤ z.length ∧ r' = z.drop i' := by
  have h1 := h.len
  rw [List.length_drop] at h1
  have h2 := h.at'
  refine ⟨by omega, ?_⟩
  have := congrArg (List.drop t.length) h.tx
  rw [List.drop_drop, List.drop_left] at this
  rw [h2, this]
theorem word_step {Dc : Addr} {fs : List Word} {v : V} (hv : σ[0]? = some (some (.ref a))) (hl : 2 < σ.length) (hk : KKeys K Dc (fs.map fun w => S w.tx)) (hd : ∀ wd ∈ fs, ∃ k, KDct K w Dc (S wd.tx) (.ref k) ∧ KTup K k (kvs wd)) (ap : Apart (fs.map Word.tx)) (n0 : [] ∉ fs.map Word.tx) (hf : fs.length ≤ 1000)
    (R : RdX A B H a dx lw lm z i W ms) (hW : W.length ≤ 80000)
    (h : match pW fs i (z.drop i) with
      | .ok (wd, i', _) => ∀ H' σ', Tups H H' → RdX A B H' a dx lw lm z i' (wantForm wd ++ W) ms → D.nx σ' H'
      | .error p => ∀ H' d, Same B H' → H' d = some (.xd [(("at" : Str), .int (p : Int))]) → E (.ref A.BadText) (some d) H') :
    tSeq (tAsg (tMeS A.Reading "take_word" (sp_tw A) (eX E) (tVar 0) (tCons (tCB (rTupD K) (tCons (tC (.ref Dc)) tNil)) tNil)) (gName 2))
      (tDrop (tMeS A.Reading "want_form" (sp_wf K A) (fun _ => E0) (tVar 0) (tCons (tVar 2) (tCons (tOp (rIxD K w) (tC (.ref Dc)) (tVar 2)) tNil)))) D σ H := by
  refine ⟨_, hv, a, dx, _, rfl, R.ins, rfl, ?_⟩
  refine ⟨Dc, _, rfl, hk, fun p np => ?_⟩
  have s1 : Same H (upd H p (.tup ((fs.map fun w => S w.tx).map V.str))) := Same.new np
  have h1 : (upd H p (.tup ((fs.map fun w => S w.tx).map V.str))) p = some (.tup ((fs.map fun w => S w.tx).map V.str)) := upd_same
  generalize upd H p (.tup ((fs.map fun w => S w.tx).map V.str)) = H1 at s1 h1 ⊢
  have R1 := R.same s1
  refine ⟨a, dx, z, i, lw, lm, p, fs.map Word.tx, rfl, R1.ins, R1.hz, R1.hi, .inr ?_, ap, n0, by rw [List.length_map]; exact hf, ?_⟩
  · rw [h1, List.map_map, List.map_map]; rfl
  rw [List.find?_map]
  unfold pW at h
  have hc : ((fun w => pre w (z.drop i)) ∘ Word.tx) = fun w : Word => pre w.tx (z.drop i) := rfl
  rw [hc]
  cases hfd : fs.find? (fun w => pre w.tx (z.drop i)) with
  | none =>
    rw [hfd] at h
    exact fun H2 d b2 e => h H2 d (R1.exc b2) e
  | some wd =>
    rw [hfd] at h
    intro H2 b2 i2
    have hwd := List.mem_of_find?_eq_some hfd
    have hpre := List.find?_some (p := fun w : Word => pre w.tx (z.drop i)) hfd
    have hlen := drop_len (z := z) (i := i) (t := wd.tx) ⟨pre_app hpre, rfl⟩ R.hi
    have R2 := R1.but b2 i2 hlen.1
    obtain ⟨k, hk1, hk2⟩ := hd wd hwd
    have hv2 : (σ.set 2 (some (.str (S wd.tx))))[0]? = some (some (.ref a)) := by rw [List.getElem?_set_ne (by decide)]; exact hv
    have hv3 : (σ.set 2 (some (.str (S wd.tx))))[2]? = some (some (.str (S wd.tx))) := by rw [List.getElem?_set_self hl]
    refine ⟨_, hv2, a, dx, _, rfl, R2.ins, rfl, ?_⟩
    refine ⟨_, hv3, _, hv3, Dc, _, _, rfl, rfl, hk1, ?_⟩
    exact ⟨a, k, B, dx, lw, lm, z, _, W, ms, wd, rfl, hk2, R2, by omega, fun H3 t3 R3 => h H3 _ (((Same.tups s1).trans (b2.tups R1.ins)).trans t3) R3⟩
end
theorem r_app_m {B H : Hp} {a dx lw lm : Addr} {z : Tx} {i : Nat} {W : List Task} {ms : List PyData} (R : RdX A B H a dx lw lm z i W ms) (hM : ms.length < 100000) {d : PyData} {v : V} (hd : Tp H d v) {Q : VK} (k : ∀ H', Tups H H' → RdX A B H' a dx lw lm z i W (d :: ms) → Q .non H') : rAppend (.ref lm) [v] H Q := by
  obtain ⟨xs, h1, h2⟩ := R.hm
  have hl : xs.length = ms.length := by rw [h2.length, List.length_reverse]
  have t2 : TpL H (d :: ms).reverse (xs ++ [v]) := by
    rw [List.reverse_cons]
    exact h2.snoc hd
  have r := R.setM (ms' := d :: ms) t2
  exact ⟨lm, xs, v, rfl, rfl, h1, Nat.lt_of_lt_of_le (show xs.length < 100000 by omega) (by decide), k _ r.1 r.2⟩
theorem ty_made {B H : Hp} {a dx lw lm : Addr} {z : Tx} {i : Nat} {W : List Task} {ms : List PyData} (R : RdX A B H a dx lw lm z i W ms) : tyV K "list" (.ref lm) H := by
  obtain ⟨xs, h1, h2⟩ := R.hm
  exact .inl ⟨rfl, xs, .inl (.inl h1)⟩
theorem ty_wanted {B H : Hp} {a dx lw lm : Addr} {z : Tx} {i : Nat} {W : List Task} {ms : List PyData} (R : RdX A B H a dx lw lm z i W ms) : tyV K "list" (.ref lw) H := by
  obtain ⟨xs, h1, h2⟩ := R.hw
  exact .inl ⟨rfl, xs, .inl (.inl h1)⟩
def sp_ra (A : Ads) : Sp := fun vs H Q E => ∃ a B dx lw lm z i W ms, vs = [.ref a] ∧ RdX A B H a dx lw lm z i W ms ∧ W.length ≤ 80000 ∧ ms.length ≤ 80000 ∧ StepQ A B Q E a dx lw lm z H (stepP i (z.drop i) (.part .amount) W ms)
theorem lit_open : ("(" : Str) = S [40] := by decide +kernel
theorem ok_read_amount {fr : Addr} {fd : FuncData} (T : Txt K mg A) (C : RdC K A) (Df : DicF K w A) (G_Reading_next_sign : FNext P w K mg base A) (G_Reading_take_word : FTw P w K mg base A) (G_Reading_take_figures : FTf P w K mg base A) (G_Reading_want_form : FWf P w K mg base A)
    (F : L2.Fun K "read_amount" "Reading.read_amount" s_Reading_read_amount fr fd) : FnOk P w K mg base (L2.CX P w) 5 fr fd ["self"] (sp_ra A) := by
  refine F.okX sc_Reading_read_amount (fun vs H Q E h => ?_) (fun cdv A' outer s H vs Q E hr h => ?_)
  · obtain ⟨a, B, dx, lw, lm, z, i, W, ms, rfl, _⟩ := h; rfl
  obtain ⟨a, B, dx, lw, lm, z, i, W, ms, rfl, R, hW, hM, q⟩ := h
  refine ⟨_, (pss_one (ps_if (PW.pt (pw_and (pt_cmpR op_ne (pmeS0 G_Reading_next_sign hr (by omega) (fun _ => passS0) (pv 0)) pe_str (nomark _)) (pw_and1 (pt_cmpR op_in_sign (pmeS0 G_Reading_next_sign hr (by omega) (fun _ => passS0) (pv 0)) (pe_gc rfl T.c_FIGURES) (by rfl))))) (pss_one (ps_expr (pe_bm PySem.F.plainAttrs_list PySem.F.slot_list_append PySem.F.type_list_append mt_append (pe_fld (pv 0) rfl) (pa_cons (pe_tup (pa_cons pe_str (pa_cons (pe_callTy call_int_str (by rfl) T.z_int (by decide +kernel) (pa_cons (pmeS G_Reading_take_figures hr (by omega) (fun σ => passAt (takes_of rfl rfl rfl rfl) σ) (pv 0) (pa_cons pe_int pa_nil)) pa_nil)) pa_nil))) pa_nil)))) (pss_one (ps_if (pt_cmpR op_eq (pmeS0 G_Reading_next_sign hr (by omega) (fun _ => passS0) (pv 0)) pe_str (nomark _)) (pss_cons (ps_fld (pv 0) (pe_op op_add (pe_fld (pv 0) rfl) pe_int) rfl) (pss_cons (ps_set (i := 1) sc_Reading_read_amount.nd rfl (Or.inl rfl) (pe_tup (pa_cons pe_str (pa_cons (pe_tup (pa_cons pe_str (pa_cons pe_str (pa_cons pe_str pa_nil)))) pa_nil)))) (pss_one (ps_expr (pe_bm PySem.F.plainAttrs_list PySem.F.slot_list_extend PySem.F.type_list_extend mt_extend (pe_fld (pv 0) rfl) (pa_cons (pe_lst (pa_cons (pe_tup (pa_cons pe_str pa_nil)) (pa_cons (pe_tup (pa_cons pe_str (pa_cons pe_str pa_nil))) (pa_cons (pe_tup (pa_cons pe_str (pa_cons pe_str pa_nil))) (pa_cons (pv 1) (pa_cons (pe_tup (pa_cons pe_str (pa_cons pe_str pa_nil))) pa_nil)))))) pa_nil)))))) (pss_cons (ps_set (i := 2) sc_Reading_read_amount.nd rfl (Or.inl rfl) (pmeS G_Reading_take_word hr (by omega) (fun σ => passAt (takes_of rfl rfl rfl rfl) σ) (pv 0) (pa_cons (pe_callTy (call_tupD rfl) (by rfl) T.z_tuple (by decide +kernel) (pa_cons (pe_gc rfl T.c_NUMBERS) pa_nil)) pa_nil))) (pss_one (ps_expr (pmeS G_Reading_want_form hr (by omega) (fun _ => passS0) (pv 0) (pa_cons (pv 2) (pa_cons (pe_ix (r := rIxD K w) ix_kdict (pe_gc rfl T.c_NUMBERS) (pv 2) (fun _ _ => rfl)) pa_nil)))))))))), ?_⟩
  have hz := R.hz
  generalize hr0 : z.drop i = r at q
  have dig : Evl.EvT (tAnd (tTest (tOp rNe (tMeS A.Reading "next_sign" (sp_next A) (fun _ => E0) (tVar 0) tNil) (tC (.str "")))) (tTest (tOp (fun x y H Q => ∃ (c : Nat) (z : Str), x = .str ⟨#[c]⟩ ∧ y = .str z ∧ Q (.bl (decide (c ∈ z.cps.toList))) H) (tMeS A.Reading "next_sign" (sp_next A) (fun _ => E0) (tVar 0) tNil) (tC (.str "0123456789")))))
      (L2.start N_Reading_read_amount [.ref a]) H (isDig r) := et_refl fun H1 e1 Q1 q1 => by
    have h1 := (R.same e1).ins
    refine ⟨_, rfl, a, dx, _, rfl, h1, rfl, ?_⟩
    refine ⟨a, dx, z, i, lw, lm, rfl, h1, hz, ?_⟩
    refine ⟨rfl, _, rfl, ?_⟩
    rw [hr0, eqS lit_nil]
    cases r with
    | nil => exact iteF q1
    | cons c r =>
      refine iteT ?_
      refine ⟨_, rfl, a, dx, _, rfl, h1, rfl, ?_⟩
      refine ⟨a, dx, z, i, lw, lm, rfl, h1, hz, ?_⟩
      rw [hr0]
      refine ⟨c, _, rfl, rfl, _, rfl, ?_⟩
      rw [figs_in]
      exact q1
  unfold stepP at q
  refine Evl.s_if dig (fun hb H1 e1 => ?_) (fun hb H1 e1 => ?_)
  · rw [hb] at q
    simp only [if_pos] at q
    have R1 := R.same e1
    refine ⟨_, rfl, _, _, _, _, _, rfl, R1.ins, C.cls, C.n4, rfl, ?_⟩
    refine ⟨ty_made R1, ?_⟩
    refine ⟨_, rfl, a, dx, _, rfl, R1.ins, rfl, ?_⟩
    refine ⟨a, dx, z, i, lw, lm, 10, rfl, R1.ins, hz, by decide, ?_⟩
    rw [hr0]
    cases hp : pF 10 i r with
    | error p =>
      rw [hp] at q
      exact fun H2 d b2 e => q H2 d (R1.exc b2) e
    | ok y =>
      obtain ⟨ds, i', r'⟩ := y
      rw [hp] at q
      intro H2 b2 i2
      obtain ⟨cd, rd⟩ := pF_ok (by decide) hp
      rw [← hr0] at rd
      have hlen := drop_len rd R.hi
      have R2 := R1.but b2 i2 hlen.1
      have hcl := cd.2.1
      refine ⟨_, _, rfl, num_text cd.2.2.1 cd.1 (by omega), by rw [S_size]; omega, ?_⟩
      refine ⟨(by show 2 ≤ sizeLine; decide), fun p np => ?_⟩
      have s3 : Same H2 (upd H2 p (.tup [.str "number", .int (numV ds)])) := Same.new np
      exact r_app_m (R2.same s3) (by omega) (d := .tuple [st tNumber, .int (numV ds)]) ⟨p, _, rfl, upd_same, _, _, rfl, (congrArg V.str (show ("number" : Str) = S tNumber by decide +kernel)), _, _, rfl, rfl, rfl⟩
        (fun H4 t4 R4 => q H4 ((((Same.tups e1).trans (b2.tups R1.ins)).trans (Same.tups s3)).trans t4) R4)
  · rw [hb] at q
    simp only [if_neg Bool.false_ne_true] at q
    have R1 := R.same e1
    refine Evl.s_if (b := isOpen r) (et_refl fun H2 e2 Q1 q1 => ?_) (fun hb H2 e2 => ?_) (fun hb H2 e2 => ?_)
    · have h2 := (R1.same e2).ins
      refine ⟨_, rfl, a, dx, _, rfl, h2, rfl, ?_⟩
      refine ⟨a, dx, z, i, lw, lm, rfl, h2, hz, ?_⟩
      refine ⟨rfl, _, rfl, ?_⟩
      rw [hr0, eqS lit_open]
      have e : decide (r.take 1 = [40]) = isOpen r := by
        unfold isOpen
        cases r with
        | nil => rfl
        | cons c r => simp
      rw [e]
      exact q1
    · have R2 := R1.same e2
      rw [if_pos hb] at q
      refine inc_at C rfl R2.ins fun H3 b3 h3 => ?_
      have hh : r.head? = some 40 := by unfold isOpen at hb; exact of_decide_eq_true hb
      have il : i + 1 ≤ z.length := by
        cases hrr : r with
        | nil => rw [hrr] at hh; cases hh
        | cons c t =>
          have := congrArg List.length hr0
          rw [List.length_drop, hrr, List.length_cons] at this
          omega
      have R3 := R2.but b3 h3 il
      refine ⟨(by show 3 ≤ sizeLine; decide), fun p1 n1 => ?_⟩
      have s4 : Same H3 (upd H3 p1 (.tup [.str "plus", .str "minus", .str "times"])) := Same.new n1
      have h4 : (upd H3 p1 (.tup [.str "plus", .str "minus", .str "times"])) p1 = some (.tup [.str "plus", .str "minus", .str "times"]) := upd_same
      generalize upd H3 p1 (.tup [.str "plus", .str "minus", .str "times"]) = H4 at s4 h4 ⊢
      refine ⟨(by show 2 ≤ sizeLine; decide), fun p2 n2 => ?_⟩
      have s5 : Same H4 (upd H4 p2 (.tup [.str "mark", .ref p1])) := Same.new n2
      have h5 : (upd H4 p2 (.tup [.str "mark", .ref p1])) p2 = some (.tup [.str "mark", .ref p1]) := upd_same
      generalize upd H4 p2 (.tup [.str "mark", .ref p1]) = H5 at s5 h5 ⊢
      have R5 := R3.same (Same.trans s4 s5)
      have tm : Tp H5 (Task.mark true).pd (.ref p2) := ⟨p2, _, rfl, h5, _, _, rfl, rfl, _, _, rfl, ⟨p1, _, rfl, s5 _ _ h4, _, _, rfl, (congrArg V.str (show ("plus" : Str) = S Mk.plus.nm by decide +kernel)), _, _, rfl, (congrArg V.str (show ("minus" : Str) = S Mk.minus.nm by decide +kernel)), _, _, rfl, (congrArg V.str (show ("times" : Str) = S Mk.times.nm by decide +kernel)), rfl⟩, rfl⟩
      refine ext_w C rfl R5 (by omega) (ts := [.part .amount, .mark true, .part .amount, .text .close, .pair]) (by decide) ?_ (fun H6 t6 R6 => q H6 (((((Same.tups e1).trans (Same.tups e2)).trans (b3.tups R2.ins)).trans (Same.tups (Same.trans s4 s5))).trans t6) R6)
      have am : EvD (tTup (tCons (tC (.str "part")) (tCons (tC (.str "amount")) tNil))) [some (.ref a), some (.ref p2), none] H5 (Task.part .amount).pd := ed_tup (eds_cons (ed_str rfl) (eds_cons (ed_str rfl) eds_nil)) (by simp)
      exact eds_cons (ed_tup (eds_cons (ed_str rfl) eds_nil) (by simp)) (eds_cons (ed_tup (eds_cons (ed_str rfl) (eds_cons (ed_str (by decide +kernel)) eds_nil)) (by simp)) (eds_cons am (eds_cons (ed_var rfl tm) (eds_cons am eds_nil))))
    · have R2 := R1.same e2
      rw [if_neg (by rw [hb]; exact Bool.false_ne_true)] at q
      refine word_step (v := .non) rfl (by show 2 < 3; decide) Df.kn Df.vn apart_numbers (by decide) (by decide) R2 hW ?_
      rw [hr0]
      cases hp : pW numbers i r with
      | error p =>
        rw [hp] at q
        exact q
      | ok y =>
        obtain ⟨wd, i', r'⟩ := y
        rw [hp] at q
        exact fun H3 σ' t3 R3 => q H3 (((Same.tups e1).trans (Same.tups e2)).trans t3) R3
end
end K06
end Sec_D11
section Sec_D12
set_option Elab.async false
set_option linter.all false
set_option maxRecDepth 100000
set_option maxHeartbeats 4000000
namespace K06
open PySem PySem.Spec PyProof.Rows L2
open SX (S)
section
variable {P : Program} {w : World} {K : PySem.W.Frag} {mg : Str → Option Value} {base : Heap} {A : Ads}
theorem head_take (r : Tx) (c : Nat) : decide (r.take 1 = [c]) = decide (r.head? = some c) := by
  cases r with
  | nil => rfl
  | cons d r => simp
def sp_rs (A : Ads) : Sp := fun vs H Q E => ∃ a B dx lw lm z i W ms, vs = [.ref a] ∧ RdX A B H a dx lw lm z i W ms ∧ W.length ≤ 80000 ∧ ms.length ≤ 80000 ∧ StepQ A B Q E a dx lw lm z H (stepP i (z.drop i) (.part .share) W ms)
theorem ok_read_share {fr : Addr} {fd : FuncData} (T : Txt K mg A) (C : RdC K A) (G_Reading_next_sign : FNext P w K mg base A) (G_Reading_take_figures : FTf P w K mg base A) (G_share_of : Cl P w K mg base CX0 2 "share_of" sp_shof)
    (F : L2.Fun K "read_share" "Reading.read_share" s_Reading_read_share fr fd) : FnOk P w K mg base (L2.CX P w) 5 fr fd ["self"] (sp_rs A) := by
  refine F.okX sc_Reading_read_share (fun vs H Q E h => ?_) (fun cdv A' outer s H vs Q E hr h => ?_)
  · obtain ⟨a, B, dx, lw, lm, z, i, W, ms, rfl, _⟩ := h; rfl
  obtain ⟨a, B, dx, lw, lm, z, i, W, ms, rfl, R, hW, hM, q⟩ := h
  refine ⟨_, (pss_cons (ps_set (i := 1) sc_Reading_read_share.nd rfl (Or.inl rfl) (pe_fld (pv 0) rfl)) (Evl.pss_cut (ps_if (pt_cmpR op_eq (pmeS0 G_Reading_next_sign hr (by omega) (fun _ => passS0) (pv 0)) pe_str (nomark _)) (pss_one (ps_fld (pv 0) (pe_op op_add (pe_fld (pv 0) rfl) pe_int) rfl)) pss_nil) (pss_cons (ps_expr (pmeS G_Reading_take_figures hr (by omega) (fun σ => passAt (takes_of rfl rfl rfl rfl) σ) (pv 0) (pa_cons pe_int pa_nil))) (Evl.pss_cut (ps_if (pt_cmpR op_eq (pmeS0 G_Reading_next_sign hr (by omega) (fun _ => passS0) (pv 0)) pe_str (nomark _)) (pss_cons (ps_fld (pv 0) (pe_op op_add (pe_fld (pv 0) rfl) pe_int) rfl) (pss_one (ps_expr (pmeS G_Reading_take_figures hr (by omega) (fun σ => passAt (takes_of rfl rfl rfl rfl) σ) (pv 0) (pa_cons pe_int pa_nil))))) pss_nil) (pss_one (ps_expr (pe_bm PySem.F.plainAttrs_list PySem.F.slot_list_append PySem.F.type_list_append mt_append (pe_fld (pv 0) rfl) (pa_cons (pcl G_share_of hr (by omega) rfl (pa_cons (pe_slice sl_str (pe_fld (pv 0) rfl) (po_some (pv 1)) (po_some (pe_fld (pv 0) rfl))) pa_nil)) pa_nil)))))))), ?_⟩
  have hz := R.hz
  generalize hr0 : z.drop i = r at q
  have nxt : ∀ {σ : L2.St} {H : Hp} {j : Nat} {c : Nat} {x : Str}, x = S [c] → σ[0]? = some (some (.ref a)) → RdX A B H a dx lw lm z j W ms → Evl.EvT (tTest (tOp rEq (tMeS A.Reading "next_sign" (sp_next A) (fun _ => E0) (tVar 0) tNil) (tC (.str x)))) σ H (decide ((z.drop j).head? = some c)) := fun {σ H j c x} hx hs R => et_refl fun H1 e1 Q1 q1 => by
    have h1 := (R.same e1).ins
    refine ⟨_, hs, a, dx, _, rfl, h1, rfl, ?_⟩
    refine ⟨a, dx, z, j, lw, lm, rfl, h1, hz, ?_⟩
    refine ⟨rfl, _, rfl, ?_⟩
    rw [eqS hx, head_take]
    exact q1
  have hlt : ∀ {j c : Nat}, (z.drop j).head? = some c → j + 1 ≤ z.length := fun {j c} h => by
    cases hd : z.drop j with
    | nil => rw [hd] at h; cases h
    | cons d t =>
      have := congrArg List.length hd
      rw [List.length_drop, List.length_cons] at this
      omega
  have htf : ∀ {σ : L2.St} {H : Hp} {j : Nat} {D : L2.Ends}, σ[0]? = some (some (.ref a)) → RdX A B H a dx lw lm z j W ms → (match pF 30 j (z.drop j) with
      | .ok (ds, i', _) => ∀ H', Tups H H' → RdX A B H' a dx lw lm z i' W ms → D.nx σ H'
      | .error p => ∀ H' d, Same B H' → H' d = some (.xd [(("at" : Str), .int (p : Int))]) → E (.ref A.BadText) (some d) H') →
      tDrop (tMeS A.Reading "take_figures" (sp_tf A) (eX E) (tVar 0) (tCons (tC (.int 30)) tNil)) D σ H := fun {σ H j D} hs R h => by
    refine ⟨_, hs, a, dx, _, rfl, R.ins, rfl, ?_⟩
    refine ⟨a, dx, z, j, lw, lm, 30, rfl, R.ins, hz, by decide, ?_⟩
    cases hp : pF 30 j (z.drop j) with
    | error p =>
      rw [hp] at h
      exact fun H2 d b2 e => h H2 d (R.exc b2) e
    | ok y =>
      obtain ⟨ds, i', r'⟩ := y
      rw [hp] at h
      exact fun H2 b2 i2 => h H2 (b2.tups R.ins) (R.but b2 i2 (drop_len (pF_ok (by decide) hp).2 R.hi).1)
  refine ⟨_, rfl, _, _, _, _, _, rfl, R.ins, C.cls, C.n2, rfl, ?_⟩
  refine Evl.q_cut (M := fun σ' H' => σ' = [some (.ref a), some (.int (i : Int))] ∧ Tups H H' ∧ RdX A B H' a dx lw lm z (i + (if isMinus r = true then 1 else 0)) W ms) ?_ ?_
  · refine Evl.s_when (nxt lit_minus rfl R) (fun hb H1 e1 => ?_) (fun hb H1 e1 => ?_)
    · have hm : isMinus r = true := by unfold isMinus; rw [← hr0]; exact hb
      have R1 := R.same e1
      exact inc_at C rfl R1.ins fun H2 b2 h2 => ⟨rfl, (Same.tups e1).trans (b2.tups R1.ins), by rw [if_pos hm]; exact R1.but b2 h2 (hlt (of_decide_eq_true hb))⟩
    · have hm : ¬ isMinus r = true := by unfold isMinus; rw [← hr0, hb]; exact Bool.false_ne_true
      exact ⟨rfl, Same.tups e1, by rw [if_neg hm]; exact R.same e1⟩
  rintro σ1 H1 ⟨rfl, t1, R1⟩
  have hd1 : z.drop (i + (if isMinus r = true then 1 else 0)) = r.drop (if isMinus r = true then 1 else 0) := by rw [← List.drop_drop, hr0]
  unfold stepP at q
  have qok : ∀ qq i' r', pQ i r = .ok (qq, i', r') → ∀ H', Tups H H' → RdX A B H' a dx lw lm z i' W (qq.pd :: ms) → Q .non H' := fun qq i' r' h => by simp only [h] at q; exact q
  have qer : ∀ p, pQ i r = .error p → ∀ H' d, Same B H' → H' d = some (.xd [(("at" : Str), .int (p : Int))]) → E (.ref A.BadText) (some d) H' := fun p h => by simp only [h] at q; exact q
  have epq : pQ i r = (match pF 30 (i + (if isMinus r = true then 1 else 0)) (r.drop (if isMinus r = true then 1 else 0)) with
    | .error p => .error p
    | .ok (n, i2, r2) => if isStroke r2 = true then
        (match pF 30 (i2 + 1) (r2.drop 1) with
        | .error p => .error p
        | .ok (d, i3, r3) => .ok (⟨isMinus r, n, some d⟩, i3, r3))
      else .ok (⟨isMinus r, n, none⟩, i2, r2)) := rfl
  refine htf (D := { nx := _, rt := _ }) rfl R1 ?_
  rw [hd1]
  cases h1 : pF 30 (i + (if isMinus r = true then 1 else 0)) (r.drop (if isMinus r = true then 1 else 0)) with
  | error p => exact qer p (by rw [epq, h1])
  | ok y =>
  obtain ⟨n, i2, r2⟩ := y
  rw [h1] at epq
  have rd1 := (pF_ok (by decide) h1).2
  rw [← hd1] at rd1
  have er2 := (drop_len rd1 R1.hi).2
  intro H2 t2 R2
  refine Evl.q_cut (M := fun σ' H' => σ' = [some (.ref a), some (.int (i : Int))] ∧ Tups H H' ∧ ∃ qq i' r', pQ i r = .ok (qq, i', r') ∧ RdX A B H' a dx lw lm z i' W ms) ?_ ?_
  · refine Evl.s_when (nxt lit_stroke rfl R2) (fun hb H3 e3 => ?_) (fun hb H3 e3 => ?_)
    · have hm : isStroke r2 = true := by unfold isStroke; rw [er2]; exact hb
      simp only [hm, if_true] at epq
      have R3 := R2.same e3
      refine inc_at C rfl R3.ins fun H4 b4 h4 => ?_
      have R4 := R3.but b4 h4 (hlt (of_decide_eq_true hb))
      refine htf (D := { nx := _, rt := _ }) rfl R4 ?_
      have hd2 : z.drop (i2 + 1) = r2.drop 1 := by rw [← List.drop_drop, er2]
      rw [hd2]
      cases h2 : pF 30 (i2 + 1) (r2.drop 1) with
      | error p => exact qer p (by rw [epq, h2])
      | ok y =>
        obtain ⟨d, i3, r3⟩ := y
        rw [h2] at epq
        exact fun H5 t5 R5 => ⟨rfl, (((t1.trans t2).trans (Same.tups e3)).trans (b4.tups R3.ins)).trans t5, _, _, _, epq, R5⟩
    · have hm : ¬ isStroke r2 = true := by unfold isStroke; rw [er2, hb]; exact Bool.false_ne_true
      simp only [if_neg hm] at epq
      exact ⟨rfl, (t1.trans t2).trans (Same.tups e3), _, _, _, epq, R2.same e3⟩
  rintro σ3 H3 ⟨rfl, t3, qq, i', r', hq, R3⟩
  obtain ⟨wq, rdq⟩ := pQ_ok hq
  refine ⟨_, rfl, _, _, _, _, _, rfl, R3.ins, C.cls, C.n4, rfl, ?_⟩
  refine ⟨ty_made R3, ?_⟩
  refine ⟨_, rfl, _, _, _, _, _, rfl, R3.ins, C.cls, C.n1, rfl, ?_⟩
  refine ⟨_, rfl, ?_⟩
  refine ⟨_, rfl, ?_⟩
  refine ⟨_, rfl, _, _, _, _, _, rfl, R3.ins, C.cls, C.n2, rfl, ?_⟩
  refine ⟨_, rfl, _, rfl, small _ (by rw [S_size]; omega), ?_⟩
  have ei := rdq.at'
  have et : (z.drop i).take (i' - i) = qq.txt := by
    rw [hr0, rdq.tx, ei, show i + qq.txt.length - i = qq.txt.length by omega]
    exact List.take_left' rfl
  rw [cut_mid, et]
  refine ⟨qq, rfl, wq, fun H4 v s4 hv => ?_⟩
  exact r_app_m (R3.same s4) (by omega) hv fun H5 t5 R5 => qok _ _ _ hq H5 ((t3.trans (Same.tups s4)).trans t5) R5
def sp_rp (A : Ads) : Sp := fun vs H Q E => ∃ a B dx lw lm z i W ms k, vs = [.ref a, .str (Kind.tx k)] ∧ RdX A B H a dx lw lm z i W ms ∧ W.length ≤ 80000 ∧ ms.length ≤ 80000 ∧ StepQ A B Q E a dx lw lm z H (stepP i (z.drop i) (.part k) W ms)
abbrev FRa (P : Program) (w : World) (K : PySem.W.Frag) (mg : Str → Option Value) (base : Heap) (A : Ads) := Me P w K mg base (L2.CX P w) 5 A.Reading "read_amount" (sp_ra A)
abbrev FRs (P : Program) (w : World) (K : PySem.W.Frag) (mg : Str → Option Value) (base : Heap) (A : Ads) := Me P w K mg base (L2.CX P w) 5 A.Reading "read_share" (sp_rs A)
theorem ok_read_part {fr : Addr} {fd : FuncData} (T : Txt K mg A) (C : RdC K A) (Df : DicF K w A) (G_Reading_read_amount : FRa P w K mg base A) (G_Reading_read_share : FRs P w K mg base A) (G_Reading_take_word : FTw P w K mg base A) (G_Reading_take_figures : FTf P w K mg base A) (G_Reading_want_form : FWf P w K mg base A)
    (F : L2.Fun K "read_part" "Reading.read_part" s_Reading_read_part fr fd) : FnOk P w K mg base (L2.CX P w) 6 fr fd ["self", "kind"] (sp_rp A) := by
  refine F.okX sc_Reading_read_part (fun vs H Q E h => ?_) (fun cdv A' outer s H vs Q E hr h => ?_)
  · obtain ⟨a, B, dx, lw, lm, z, i, W, ms, k, rfl, _⟩ := h; rfl
  obtain ⟨a, B, dx, lw, lm, z, i, W, ms, k, rfl, R, hW, hM, q⟩ := h
  refine ⟨_, (pss_one (ps_if (pt_cmpR op_eq (pv 1) pe_str (nomark _)) (pss_cons (ps_set (i := 2) sc_Reading_read_part.nd rfl (Or.inl rfl) (pmeS G_Reading_take_word hr (by omega) (fun σ => passAt (takes_of rfl rfl rfl rfl) σ) (pv 0) (pa_cons (pe_callTy (call_tupD rfl) (by rfl) T.z_tuple (by decide +kernel) (pa_cons (pe_gc rfl T.c_FORMS) pa_nil)) pa_nil))) (pss_one (ps_expr (pmeS G_Reading_want_form hr (by omega) (fun _ => passS0) (pv 0) (pa_cons (pv 2) (pa_cons (pe_ix (r := rIxD K w) ix_kdict (pe_gc rfl T.c_FORMS) (pv 2) (fun _ _ => rfl)) pa_nil)))))) (pss_one (ps_if (pt_cmpR op_eq (pv 1) pe_str (nomark _)) (pss_one (ps_expr (pmeS0 G_Reading_read_amount hr (by omega) (fun σ => passAt (takes_of rfl rfl rfl rfl) σ) (pv 0)))) (pss_one (ps_if (pt_cmpR op_eq (pv 1) pe_str (nomark _)) (pss_one (ps_expr (pe_bm PySem.F.plainAttrs_list PySem.F.slot_list_extend PySem.F.type_list_extend mt_extend (pe_fld (pv 0) rfl) (pa_cons (pe_lst (pa_cons (pe_tup (pa_cons pe_str pa_nil)) (pa_cons (pe_tup (pa_cons pe_str (pa_cons pe_str pa_nil))) (pa_cons (pe_tup (pa_cons pe_str (pa_cons (pe_tup (pa_cons pe_str (pa_cons pe_str pa_nil))) pa_nil))) (pa_cons (pe_tup (pa_cons pe_str (pa_cons pe_str pa_nil))) pa_nil))))) pa_nil)))) (pss_one (ps_if (pt_cmpR op_eq (pv 1) pe_str (nomark _)) (pss_one (ps_expr (pmeS0 G_Reading_read_share hr (by omega) (fun σ => passAt (takes_of rfl rfl rfl rfl) σ) (pv 0)))) (pss_one (ps_expr (pe_bm PySem.F.plainAttrs_list PySem.F.slot_list_append PySem.F.type_list_append mt_append (pe_fld (pv 0) rfl) (pa_cons (pe_callTy call_int_str (by rfl) T.z_int (by decide +kernel) (pa_cons (pmeS G_Reading_take_figures hr (by omega) (fun σ => passAt (takes_of rfl rfl rfl rfl) σ) (pv 0) (pa_cons pe_int pa_nil)) pa_nil)) pa_nil)))))))))))), ?_⟩
  have hz := R.hz
  cases k with
  | deal =>
    refine ⟨_, rfl, rfl, _, rfl, tT (by decide +kernel) ?_⟩
    refine word_step (v := .non) rfl (by show 2 < 3; decide) Df.kf Df.vf apart_forms (by decide) (by decide) R hW ?_
    unfold stepP at q
    cases hp : pW forms i (z.drop i) with
    | error p =>
      simp only [hp] at q
      exact q
    | ok y =>
      obtain ⟨wd, i', r'⟩ := y
      simp only [hp] at q
      exact fun H3 σ' t3 R3 => q H3 t3 R3
  | amount =>
    refine ⟨_, rfl, rfl, _, rfl, tF (by decide +kernel) ?_⟩
    refine ⟨_, rfl, rfl, _, rfl, tT (by decide +kernel) ?_⟩
    refine ⟨_, rfl, a, dx, _, rfl, R.ins, rfl, ?_⟩
    exact ⟨a, B, dx, lw, lm, z, i, W, ms, rfl, R, hW, hM, q⟩
  | sign =>
    refine ⟨_, rfl, rfl, _, rfl, tF (by decide +kernel) ?_⟩
    refine ⟨_, rfl, rfl, _, rfl, tF (by decide +kernel) ?_⟩
    refine ⟨_, rfl, rfl, _, rfl, tT (by decide +kernel) ?_⟩
    refine ext_w C rfl R (by omega) (ts := [.part .amount, .mark false, .part .amount, .pair]) (by decide) ?_ (fun H6 t6 R6 => q H6 t6 R6)
    have am : EvD (tTup (tCons (tC (.str "part")) (tCons (tC (.str "amount")) tNil))) (L2.start N_Reading_read_part [.ref a, .str (Kind.tx .sign)]) H (Task.part .amount).pd := ed_tup (eds_cons (ed_str rfl) (eds_cons (ed_str rfl) eds_nil)) (by simp)
    exact eds_cons (ed_tup (eds_cons (ed_str rfl) eds_nil) (by simp)) (eds_cons am (eds_cons (ed_tup (eds_cons (ed_str rfl) (eds_cons (ed_tup (eds_cons (ed_str (by decide +kernel)) (eds_cons (ed_str (by decide +kernel)) eds_nil)) (by simp)) eds_nil)) (by simp)) (eds_cons am eds_nil)))
  | share =>
    refine ⟨_, rfl, rfl, _, rfl, tF (by decide +kernel) ?_⟩
    refine ⟨_, rfl, rfl, _, rfl, tF (by decide +kernel) ?_⟩
    refine ⟨_, rfl, rfl, _, rfl, tF (by decide +kernel) ?_⟩
    refine ⟨_, rfl, rfl, _, rfl, tT (by decide +kernel) ?_⟩
    refine ⟨_, rfl, a, dx, _, rfl, R.ins, rfl, ?_⟩
    exact ⟨a, B, dx, lw, lm, z, i, W, ms, rfl, R, hW, hM, q⟩
  | figure =>
    refine ⟨_, rfl, rfl, _, rfl, tF (by decide +kernel) ?_⟩
    refine ⟨_, rfl, rfl, _, rfl, tF (by decide +kernel) ?_⟩
    refine ⟨_, rfl, rfl, _, rfl, tF (by decide +kernel) ?_⟩
    refine ⟨_, rfl, rfl, _, rfl, tF (by decide +kernel) ?_⟩
    refine ⟨_, rfl, _, _, _, _, _, rfl, R.ins, C.cls, C.n4, rfl, ?_⟩
    refine ⟨ty_made R, ?_⟩
    refine ⟨_, rfl, a, dx, _, rfl, R.ins, rfl, ?_⟩
    refine ⟨a, dx, z, i, lw, lm, 1, rfl, R.ins, hz, by decide, ?_⟩
    unfold stepP at q
    cases hp : pF 1 i (z.drop i) with
    | error p =>
      simp only [hp] at q
      exact fun H2 d b2 e => q H2 d (R.exc b2) e
    | ok y =>
      obtain ⟨ds, i', r'⟩ := y
      simp only [hp] at q
      intro H2 b2 i2
      obtain ⟨cd, rd⟩ := pF_ok (by decide) hp
      have R2 := R.but b2 i2 (drop_len rd R.hi).1
      have hcl := cd.2.1
      refine ⟨_, _, rfl, num_text cd.2.2.1 cd.1 (by omega), by rw [S_size]; omega, ?_⟩
      exact r_app_m R2 (by omega) (d := .int (numV ds)) rfl (fun H4 t4 R4 => q H4 ((b2.tups R.ins).trans t4) R4)
end
end K06
end Sec_D12
section Sec_D13
set_option Elab.async false
set_option linter.all false
set_option maxRecDepth 100000
set_option maxHeartbeats 4000000
namespace K06
open PySem PySem.Spec PyProof.Rows L2
open SX (S)
section
variable {P : Program} {w : World} {K : PySem.W.Frag} {mg : Str → Option Value} {base : Heap} {A : Ads}
def mks (ps : Bool) : List Mk := if ps = true then pairs else signs
def markV (x : V) : V := match [Mk.plus, .minus, .times, .below, .upto].find? (fun m => decide (x = .str (S m.nm))) with
  | some m => .str (S m.tx)
  | none => .non
theorem markV_eq (m : Mk) : markV (.str (S m.nm)) = .str (S m.tx) := by cases m <;> rfl
theorem first_at {m : Mk} : ∀ {l : List Mk}, m ∈ l → ∃ j : Nat, l[j]? = some m ∧ ∀ k : Nat, k < j → l[k]? ≠ some m
  | x :: l, h => by
    by_cases e : x = m
    · exact ⟨0, by rw [e]; rfl, fun k hk => absurd hk (Nat.not_lt_zero _)⟩
    · have h2 : m ∈ l := by
        rcases List.mem_cons.mp h with h | h
        · exact absurd h.symm e
        · exact h
      obtain ⟨j, h1, h3⟩ := first_at h2
      refine ⟨j + 1, h1, fun k hk => ?_⟩
      cases k with
      | zero => exact fun z => e (Option.some.inj z)
      | succ k => exact h3 k (by omega)
theorem eqV_tx (m m' : Mk) : eqV (.str (S m.tx)) (.str (S m'.tx)) = decide (m = m') := by cases m <;> cases m' <;> decide +kernel
def sp_rm (A : Ads) : Sp := fun vs H Q E => ∃ a B dx lw lm z i W ms p ps, vs = [.ref a, .ref p] ∧ RdX A B H a dx lw lm z i W ms ∧ W.length ≤ 80000 ∧ ms.length ≤ 80000 ∧ H p = some (.tup ((mks ps).map fun m => .str (S m.nm))) ∧ StepQ A B Q E a dx lw lm z H (stepP i (z.drop i) (.mark ps) W ms)
theorem ok_read_mark {fr : Addr} {fd : FuncData} (T : Txt K mg A) (C : RdC K A) (Df : DicF K w A) (G_Reading_take_word : FTw P w K mg base A)
    (F : L2.Fun K "read_mark" "Reading.read_mark" s_Reading_read_mark fr fd) : FnOk P w K mg base (L2.CX P w) 5 fr fd ["self", "kinds"] (sp_rm A) := by
  refine F.okX sc_Reading_read_mark (fun vs H Q E h => ?_) (fun cdv A' outer s H vs Q E hr h => ?_)
  · obtain ⟨a, B, dx, lw, lm, z, i, W, ms, p, ps, rfl, _⟩ := h; rfl
  obtain ⟨a, B, dx, lw, lm, z, i, W, ms, p, ps, rfl, R, hW, hM, hp, q⟩ := h
  refine ⟨_, (pss_cons (ps_setLc (i := 2) (own := [("kind", 3)]) (g := gName 3) rfl sc_Reading_read_mark.nd rfl rfl (sw_true rfl rfl rfl (by decide +kernel)) (pi_tup (pv 1)) (blkOk_by (own := [("kind", 3)]) (N := N_Reading_read_mark) (sc := defScope s_Reading_read_mark) (by decide +kernel)) (fun _ _ _ _ _ => pg_name (i := 3) sc_Reading_read_mark.nd rfl (Or.inl rfl)) (fun _ _ _ _ _ => pts_nil) (fun _ _ _ _ _ => (pe_ix (r := rIxD K w) ix_kdict (pe_gc rfl T.c_MARKS) (pv 3) (fun _ _ => rfl)))) (pss_one (ps_expr (pe_bm PySem.F.plainAttrs_list PySem.F.slot_list_append PySem.F.type_list_append mt_append (pe_fld (pv 0) rfl) (pa_cons (pe_ix ix_tup (pv 1) (pe_bm PySem.F.plainAttrs_list PySem.F.slot_list_index PySem.F.type_list_index mt_index (pv 2) (pa_cons (pmeS G_Reading_take_word hr (by omega) (fun σ => passAt (takes_of rfl rfl rfl rfl) σ) (pv 0) (pa_cons (pv 2) pa_nil)) pa_nil)) (fun _ _ => rfl)) pa_nil))))), ?_⟩
  have hz := R.hz
  have l3 : (mks ps).length ≤ 3 := by cases ps <;> decide
  refine ⟨_, rfl, ?_⟩
  refine ⟨p, rfl, ⟨_, Evl.st_of hp⟩, fun D hD => ?_⟩
  refine lc_vals markV (walk_tup (K := K) (a := p)) (fun H' s' => Evl.st_of (s' _ _ hp)) hD (by rw [List.length_map]; omega) (fun x H1 hx s1 Q1 q1 => ?_) (fun H1 s1 h1 => ?_)
  · obtain ⟨m, hm, rfl⟩ := List.mem_map.mp hx
    refine ⟨rfl, _, rfl, A.MARKS, _, _, rfl, rfl, Df.vm m, ?_⟩
    have := q1 H1 (Same.refl _)
    rw [markV_eq] at this
    exact this
  have em : ((mks ps).map fun m => V.str (S m.nm)).map markV = (mks ps).map fun m => V.str (S m.tx) := by
    rw [List.map_map]
    exact List.map_congr_left fun m _ => markV_eq m
  rw [em] at h1
  have R1 := R.same s1
  refine ⟨_, rfl, _, _, _, _, _, rfl, R1.ins, C.cls, C.n4, rfl, ?_⟩
  refine ⟨ty_made R1, ?_⟩
  refine ⟨_, rfl, _, rfl, .inl ⟨rfl, _, Evl.sq_of h1⟩, ?_⟩
  refine ⟨_, rfl, a, dx, _, rfl, R1.ins, rfl, ?_⟩
  refine ⟨_, rfl, ?_⟩
  have ap : Apart ((mks ps).map Mk.tx) := by cases ps; exact apart_signs; exact apart_pairs
  have n0 : [] ∉ (mks ps).map Mk.tx := by cases ps <;> decide
  refine ⟨a, dx, z, i, lw, lm, D, (mks ps).map Mk.tx, rfl, R1.ins, hz, R1.hi, .inl (by rw [h1, List.map_map]; rfl), ap, n0, by rw [List.length_map]; omega, ?_⟩
  rw [List.find?_map]
  unfold stepP at q
  unfold pM at q
  have hc : ((fun w => pre w (z.drop i)) ∘ Mk.tx) = fun m : Mk => pre m.tx (z.drop i) := rfl
  have he : (if ps = true then pairs else signs) = mks ps := rfl
  rw [hc]
  simp only [he] at q
  cases hfd : (mks ps).find? (fun m => pre m.tx (z.drop i)) with
  | none =>
    rw [hfd] at q
    exact fun H2 d b2 e => q H2 d (R1.exc b2) e
  | some m =>
    rw [hfd] at q
    intro H2 b2 i2
    have hpre := List.find?_some (p := fun m : Mk => pre m.tx (z.drop i)) hfd
    have hlen := drop_len (z := z) (i := i) (t := m.tx) ⟨pre_app hpre, rfl⟩ R.hi
    have R2 := R1.but b2 i2 hlen.1
    have nD : D ≠ a := fun e => by rw [e, R1.ins] at h1; cases h1
    have h2 : H2 D = some (.lst ((mks ps).map fun m => .str (S m.tx))) := b2 _ _ nD h1
    obtain ⟨j, hj, hno⟩ := first_at (List.mem_of_find?_eq_some hfd)
    refine ⟨D, _, _, j, .str (S m.tx), rfl, rfl, Evl.sq_of h2, rfl, ?_, ?_, ?_, ?_, ?_⟩
    · rw [List.all_map]; exact List.all_eq_true.mpr fun m _ => rfl
    · rw [List.getElem?_map, hj]; rfl
    · rw [eqV_tx]; simp
    · intro k z' hk hz'
      rw [List.getElem?_map] at hz'
      cases hmk : (mks ps)[k]? with
      | none => rw [hmk] at hz'; cases hz'
      | some m' =>
        rw [hmk] at hz'
        cases hz'
        rw [eqV_tx]
        refine decide_eq_false fun e => hno k hk ?_
        rw [hmk, e]
    · have hp2 : H2 p = some (.tup ((mks ps).map fun m => .str (S m.nm))) := (b2.tups R1.ins) _ _ (s1 _ _ hp)
      refine ⟨p, _, _, .str (S m.nm), rfl, rfl, Evl.st_of hp2, atI_nat _ _ _ (by rw [List.getElem?_map, hj]; rfl), ?_⟩
      exact r_app_m R2 (by omega) (d := st m.nm) rfl fun H3 t3 R3 => q H3 (((Same.tups s1).trans (b2.tups R1.ins)).trans t3) R3
end
end K06
end Sec_D13
section Sec_D14
set_option Elab.async false
set_option linter.all false
set_option maxRecDepth 100000
set_option maxHeartbeats 4000000
namespace K06
open PySem PySem.Spec PyProof.Rows L2
open SX (S)
/-- a task that finds what it needs -/
def okT (t : Task) (n : Nat) : Prop := match t with
  | .pair => 3 ≤ n
  | .make _ k => k ≤ n
  | _ => True
def StepN (A : Ads) (B : Hp) (Q : VK) (E : XK) (a dx lw : Addr) (z : Tx) (H : Hp) (x : Except Nat (Nat × Tx × List Task × List PyData)) : Prop := match x with
  | .ok (i', _, W', ms') => ∀ H' lm', Tups H H' → RdX A B H' a dx lw lm' z i' W' ms' → Q .non H'
  | .error p => ∀ H' d, Same B H' → H' d = some (.xd [(("at" : Str), .int (p : Int))]) → E (.ref A.BadText) (some d) H'
theorem StepN.up {A : Ads} {B : Hp} {Q : VK} {E : XK} {a dx lw lm : Addr} {z : Tx} {H H1 : Hp} {x : Except Nat (Nat × Tx × List Task × List PyData)} (q : StepN A B Q E a dx lw z H x) (t : Tups H H1) : StepQ A B Q E a dx lw lm z H1 x := by
  cases x with
  | error p => exact q
  | ok y => exact fun H' t' R' => q H' lm (t.trans t') R'
theorem cutV_from (xs : List V) (k : Nat) : cutV xs (some (k : Int)) none = xs.drop k := by
  unfold cutV
  rw [HT.sIx_nat, HT.sIx_none, List.take_of_length_le (by rw [List.length_drop]; omega)]
  by_cases h : k ≤ xs.length
  · rw [Nat.min_eq_left h]
  · rw [Nat.min_eq_right (by omega), List.drop_eq_nil_of_le (Nat.le_refl _), List.drop_eq_nil_of_le (by omega)]
theorem cutV_to (xs : List V) (k : Nat) : cutV xs none (some (k : Int)) = xs.take k := by
  unfold cutV
  rw [HT.sIx_nat, HT.sIx_none, List.drop_zero, Nat.sub_zero]
  by_cases h : k ≤ xs.length
  · rw [Nat.min_eq_left h]
  · rw [Nat.min_eq_right (by omega), List.take_of_length_le (Nat.le_refl _), List.take_of_length_le (by omega)]
theorem three (ms : List PyData) (h : 3 ≤ ms.length) : ∃ d1 d2 d3 ms', ms = d1 :: d2 :: d3 :: ms' := by
  cases ms with
  | nil => cases h
  | cons d1 ms =>
    cases ms with
    | nil => rw [List.length_cons, List.length_nil] at h; omega
    | cons d2 ms =>
      cases ms with
      | nil => rw [List.length_cons, List.length_cons, List.length_nil] at h; omega
      | cons d3 ms => exact ⟨d1, d2, d3, ms, rfl⟩
theorem TpL.unsnoc {H : Hp} : ∀ {ds : List PyData} {d : PyData} {xs : List V}, TpL H (ds ++ [d]) xs → ∃ xs' v, xs = xs' ++ [v] ∧ TpL H ds xs' ∧ Tp H d v
  | [], d, xs, h => by
    obtain ⟨v, vs, rfl, hv, hn⟩ := h
    cases hn
    exact ⟨[], v, rfl, rfl, hv⟩
  | e :: ds, d, xs, h => by
    obtain ⟨v, vs, rfl, hv, hr⟩ := h
    obtain ⟨xs', u, rfl, h1, h2⟩ := TpL.unsnoc (ds := ds) (d := d) hr
    exact ⟨v :: xs', u, rfl, ⟨v, xs', rfl, hv, h1⟩, h2⟩
section
variable {P : Program} {w : World} {K : PySem.W.Frag} {mg : Str → Option Value} {base : Heap} {A : Ads}
abbrev FRp (P : Program) (w : World) (K : PySem.W.Frag) (mg : Str → Option Value) (base : Heap) (A : Ads) := Me P w K mg base (L2.CX P w) 6 A.Reading "read_part" (sp_rp A)
abbrev FRm (P : Program) (w : World) (K : PySem.W.Frag) (mg : Str → Option Value) (base : Heap) (A : Ads) := Me P w K mg base (L2.CX P w) 5 A.Reading "read_mark" (sp_rm A)
theorem pop_w {B H : Hp} {a dx lw lm : Addr} {z : Tx} {i : Nat} {t : Task} {W : List Task} {ms : List PyData} (R : RdX A B H a dx lw lm z i (t :: W) ms) {Q : VK} (k : ∀ H' v, Tups H H' → Tp H' t.pd v → RdX A B H' a dx lw lm z i W ms → Q v H') : rPop (.ref lw) [] H Q := by
  obtain ⟨xs, h1, h2⟩ := R.hw
  rw [List.reverse_cons, List.map_append] at h2
  obtain ⟨xs', v, rfl, h3, h4⟩ := TpL.unsnoc (d := t.pd) h2
  have r := R.setW (W' := W) h3
  refine ⟨lw, _, v, rfl, rfl, h1, by simp, ?_⟩
  rw [List.dropLast_concat]
  exact k _ _ r.1 (h4.up r.1) r.2
theorem pop_m {B H : Hp} {a dx lw lm : Addr} {z : Tx} {i : Nat} {W : List Task} {d : PyData} {ms : List PyData} (R : RdX A B H a dx lw lm z i W (d :: ms)) {Q : VK} (k : ∀ H' v, Tups H H' → Tp H' d v → RdX A B H' a dx lw lm z i W ms → Q v H') : rPop (.ref lm) [] H Q := by
  obtain ⟨xs, h1, h2⟩ := R.hm
  rw [List.reverse_cons] at h2
  obtain ⟨xs', v, rfl, h3, h4⟩ := TpL.unsnoc (d := d) h2
  have r := R.setM (ms' := ms) h3
  refine ⟨lm, _, v, rfl, rfl, h1, by simp, ?_⟩
  rw [List.dropLast_concat]
  exact k _ _ r.1 (h4.up r.1) r.2
/-- the made list is another one -/
theorem RdX.newM {B H : Hp} {a dx lw lm : Addr} {z : Tx} {i : Nat} {W : List Task} {ms : List PyData} (R : RdX A B H a dx lw lm z i W ms) {p : Addr} {ms' : List PyData} {xs : List V} (np : H p = none) (h : TpL H ms'.reverse xs) :
    Tups H (upd (upd H p (.lst xs)) a (.ins A.Reading dx (fl z i lw p))) ∧ RdX A B (upd (upd H p (.lst xs)) a (.ins A.Reading dx (fl z i lw p))) a dx lw p z i W ms' := by
  obtain ⟨ws, h1, h2⟩ := R.hw
  have hpa : p ≠ a := fun e => by rw [e, R.ins] at np; cases np
  have hpl : p ≠ lw := fun e => by rw [e, h1] at np; cases np
  have s1 : Same H (upd H p (.lst xs)) := Same.new np
  have b : But a (upd H p (.lst xs)) (upd (upd H p (.lst xs)) a (.ins A.Reading dx (fl z i lw p))) := .upd
  have t : Tups H (upd (upd H p (.lst xs)) a (.ins A.Reading dx (fl z i lw p))) := (Same.tups s1).trans (b.tups (s1 _ _ R.ins))
  have nB : B p = none := Evl.fresh_back (p := p) R.sB np
  refine ⟨t, fun q o e => b q o (fun z => by rw [z, R.na] at e; cases e) (s1 _ _ (R.sB q o e)), R.na, R.nlw, nB, Ne.symm hpl, R.hi, R.hz, upd_same, ⟨ws, b _ _ R.a_lw (s1 _ _ h1), h2.up t⟩, ⟨xs, ?_, h.up t⟩⟩
  rw [upd_ne hpa]
  exact upd_same
def sp_rn (A : Ads) : Sp := fun vs H Q E => ∃ a B dx lw lm z i t W ms, vs = [.ref a] ∧ RdX A B H a dx lw lm z i (t :: W) ms ∧ W.length ≤ 80000 ∧ ms.length ≤ 80000 ∧ okT t ms.length ∧ StepN A B Q E a dx lw z H (stepP i (z.drop i) t W ms)
theorem ok_read_next {fr : Addr} {fd : FuncData} (T : Txt K mg A) (C : RdC K A) (G_Reading_take_text : FTt P w K mg base A) (G_Reading_read_part : FRp P w K mg base A) (G_Reading_read_mark : FRm P w K mg base A)
    (F : L2.Fun K "read_next" "Reading.read_next" s_Reading_read_next fr fd) : FnOk P w K mg base (L2.CX P w) 7 fr fd ["self"] (sp_rn A) := by
  refine F.okX sc_Reading_read_next (fun vs H Q E h => ?_) (fun cdv A' outer s H vs Q E hr h => ?_)
  · obtain ⟨a, B, dx, lw, lm, z, i, t, W, ms, rfl, _⟩ := h; rfl
  obtain ⟨a, B, dx, lw, lm, z, i, t, W, ms, rfl, R, hW, hM, ht, q⟩ := h
  refine ⟨_, (pss_cons (ps_set (i := 1) sc_Reading_read_next.nd rfl (Or.inl rfl) (pe_bm0 PySem.F.plainAttrs_list PySem.F.slot_list_pop PySem.F.type_list_pop mt_pop (pe_fld (pv 0) rfl))) (pss_one (ps_if (pt_cmpR op_eq (pe_ix ix_tup (pv 1) pe_int (fun _ _ => rfl)) pe_str (nomark _)) (pss_one (ps_expr (pmeS G_Reading_take_text hr (by omega) (fun σ => passAt (takes_of rfl rfl rfl rfl) σ) (pv 0) (pa_cons (pe_ix ix_tup (pv 1) pe_int (fun _ _ => rfl)) pa_nil)))) (pss_one (ps_if (pt_cmpR op_eq (pe_ix ix_tup (pv 1) pe_int (fun _ _ => rfl)) pe_str (nomark _)) (pss_one (ps_expr (pmeS G_Reading_read_part hr (by omega) (fun σ => passAt (takes_of rfl rfl rfl rfl) σ) (pv 0) (pa_cons (pe_ix ix_tup (pv 1) pe_int (fun _ _ => rfl)) pa_nil)))) (pss_one (ps_if (pt_cmpR op_eq (pe_ix ix_tup (pv 1) pe_int (fun _ _ => rfl)) pe_str (nomark _)) (pss_one (ps_expr (pmeS G_Reading_read_mark hr (by omega) (fun σ => passAt (takes_of rfl rfl rfl rfl) σ) (pv 0) (pa_cons (pe_ix ix_tup (pv 1) pe_int (fun _ _ => rfl)) pa_nil)))) (pss_one (ps_if (pt_cmpR op_eq (pe_ix ix_tup (pv 1) pe_int (fun _ _ => rfl)) pe_str (nomark _)) (pss_cons (ps_set (i := 2) sc_Reading_read_next.nd rfl (Or.inl rfl) (pe_bm0 PySem.F.plainAttrs_list PySem.F.slot_list_pop PySem.F.type_list_pop mt_pop (pe_fld (pv 0) rfl))) (pss_cons (ps_set (i := 3) sc_Reading_read_next.nd rfl (Or.inl rfl) (pe_bm0 PySem.F.plainAttrs_list PySem.F.slot_list_pop PySem.F.type_list_pop mt_pop (pe_fld (pv 0) rfl))) (pss_one (ps_expr (pe_bm PySem.F.plainAttrs_list PySem.F.slot_list_append PySem.F.type_list_append mt_append (pe_fld (pv 0) rfl) (pa_cons (pe_tup (pa_cons (pv 3) (pa_cons (pe_bm0 PySem.F.plainAttrs_list PySem.F.slot_list_pop PySem.F.type_list_pop mt_pop (pe_fld (pv 0) rfl)) (pa_cons (pv 2) pa_nil)))) pa_nil)))))) (pss_cons (ps_set (i := 4) sc_Reading_read_next.nd rfl (Or.inl rfl) (pe_op op_sub (pe_callB call_len_seq (by rfl) T.z_len (by decide +kernel) (pa_cons (pe_fld (pv 0) rfl) pa_nil)) (pe_ix ix_tup (pv 1) pe_int (fun _ _ => rfl)))) (pss_cons (ps_set (i := 5) sc_Reading_read_next.nd rfl (Or.inl rfl) (pe_callTy call_tuple_of (by rfl) T.z_tuple (by decide +kernel) (pa_cons (pe_slice sl_list (pe_fld (pv 0) rfl) (po_some (pv 4)) po_none) pa_nil))) (pss_cons (ps_fld (pv 0) (pe_slice sl_list (pe_fld (pv 0) rfl) po_none (po_some (pv 4))) rfl) (pss_one (ps_expr (pe_bm PySem.F.plainAttrs_list PySem.F.slot_list_append PySem.F.type_list_append mt_append (pe_fld (pv 0) rfl) (pa_cons (pe_op op_catA (pe_tup (pa_cons (pe_ix ix_tup (pv 1) pe_int (fun _ _ => rfl)) pa_nil)) (pv 5)) pa_nil)))))))))))))))), ?_⟩
  have hz := R.hz
  refine ⟨_, rfl, _, _, _, _, _, rfl, R.ins, C.cls, C.n3, rfl, ?_⟩
  refine ⟨ty_wanted R, ?_⟩
  refine pop_w R fun H1 tv t1 htv R1 => ?_
  have q1 := fun lm => StepN.up (lm := lm) q t1
  obtain ⟨i0, x0, hx0, ha⟩ : ∃ (b : Addr) (rest : List V), True ∧ True := ⟨0, [], trivial, trivial⟩
  clear ha hx0 x0 i0
  cases t with
  | text s0 =>
    obtain ⟨b, xs, rfl, hb, y, ys, rfl, hy, u, us, rfl, hu, hn⟩ := id htv
    cases hy; cases hu; cases hn
    dsimp only [gName]
    refine ⟨_, rfl, ?_⟩
    refine ⟨_, _, _, _, rfl, rfl, SqT.of (hb), (by first | exact at0 | exact at1 | exact at2 | rfl), ?_⟩
    refine ⟨rfl, _, rfl, tT (by decide +kernel) ?_⟩
    refine ⟨_, rfl, a, dx, _, rfl, R1.ins, rfl, ?_⟩
    refine ⟨_, rfl, ?_⟩
    refine ⟨_, _, _, _, rfl, rfl, SqT.of (hb), (by first | exact at0 | exact at1 | exact at2 | rfl), ?_⟩
    refine ⟨a, dx, z, i, lw, lm, s0.tx, rfl, R1.ins, hz, ?_⟩
    have q2 := q1 lm
    unfold stepP at q2
    cases hp : pL s0.tx i (z.drop i) with
    | error p =>
      simp only [hp] at q2
      exact fun H2 d b2 e => q2 H2 d (R1.exc b2) e
    | ok y =>
      obtain ⟨i', r'⟩ := y
      simp only [hp] at q2
      exact fun H2 b2 i2 => q2 H2 (b2.tups R1.ins) (R1.but b2 i2 (drop_len (pL_ok hp) R1.hi).1)
  | part k =>
    obtain ⟨b, xs, rfl, hb, y, ys, rfl, hy, u, us, rfl, hu, hn⟩ := id htv
    cases hy; cases hu; cases hn
    dsimp only [gName]
    refine ⟨_, rfl, ?_⟩
    refine ⟨_, _, _, _, rfl, rfl, SqT.of (hb), (by first | exact at0 | exact at1 | exact at2 | rfl), ?_⟩
    refine ⟨rfl, _, rfl, tF (by decide +kernel) ?_⟩
    refine ⟨_, rfl, ?_⟩
    refine ⟨_, _, _, _, rfl, rfl, SqT.of (hb), (by first | exact at0 | exact at1 | exact at2 | rfl), ?_⟩
    refine ⟨rfl, _, rfl, tT (by decide +kernel) ?_⟩
    refine ⟨_, rfl, a, dx, _, rfl, R1.ins, rfl, ?_⟩
    refine ⟨_, rfl, ?_⟩
    refine ⟨_, _, _, _, rfl, rfl, SqT.of (hb), (by first | exact at0 | exact at1 | exact at2 | rfl), ?_⟩
    exact ⟨a, B, dx, lw, lm, z, i, W, ms, k, rfl, R1, hW, hM, q1 lm⟩
  | mark ps =>
    have hps : ∃ b p, tv = .ref b ∧ H1 b = some (.tup [.str "mark", .ref p]) ∧ H1 p = some (.tup ((mks ps).map fun m => .str (S m.nm))) := by
      cases ps with
      | true =>
        obtain ⟨b, xs, rfl, hb, y, ys, rfl, hy, u, us, rfl, hu, hn⟩ := id htv
        cases hy; cases hn
        obtain ⟨p, xs, rfl, hp, _, _, rfl, h1, _, _, rfl, h2, _, _, rfl, h3, h4⟩ := hu
        cases h1; cases h2; cases h3; cases h4
        exact ⟨b, p, rfl, hb, hp⟩
      | false =>
        obtain ⟨b, xs, rfl, hb, y, ys, rfl, hy, u, us, rfl, hu, hn⟩ := id htv
        cases hy; cases hn
        obtain ⟨p, xs, rfl, hp, _, _, rfl, h1, _, _, rfl, h2, h4⟩ := hu
        cases h1; cases h2; cases h4
        exact ⟨b, p, rfl, hb, hp⟩
    obtain ⟨b, p, rfl, hb, hp⟩ := hps
    dsimp only [gName]
    refine ⟨_, rfl, ?_⟩
    refine ⟨_, _, _, _, rfl, rfl, SqT.of (hb), (by first | exact at0 | exact at1 | exact at2 | rfl), ?_⟩
    refine ⟨rfl, _, rfl, tF (by decide +kernel) ?_⟩
    refine ⟨_, rfl, ?_⟩
    refine ⟨_, _, _, _, rfl, rfl, SqT.of (hb), (by first | exact at0 | exact at1 | exact at2 | rfl), ?_⟩
    refine ⟨rfl, _, rfl, tF (by decide +kernel) ?_⟩
    refine ⟨_, rfl, ?_⟩
    refine ⟨_, _, _, _, rfl, rfl, SqT.of (hb), (by first | exact at0 | exact at1 | exact at2 | rfl), ?_⟩
    refine ⟨rfl, _, rfl, tT (by decide +kernel) ?_⟩
    refine ⟨_, rfl, a, dx, _, rfl, R1.ins, rfl, ?_⟩
    refine ⟨_, rfl, ?_⟩
    refine ⟨_, _, _, _, rfl, rfl, SqT.of (hb), (by first | exact at0 | exact at1 | exact at2 | rfl), ?_⟩
    exact ⟨a, B, dx, lw, lm, z, i, W, ms, p, ps, rfl, R1, hW, hM, hp, q1 lm⟩
  | pair =>
    obtain ⟨b, xs, rfl, hb, y, ys, rfl, hy, hn⟩ := id htv
    cases hy; cases hn
    dsimp only [gName]
    refine ⟨_, rfl, ?_⟩
    refine ⟨_, _, _, _, rfl, rfl, SqT.of (hb), (by first | exact at0 | exact at1 | exact at2 | rfl), ?_⟩
    refine ⟨rfl, _, rfl, tF (by decide +kernel) ?_⟩
    refine ⟨_, rfl, ?_⟩
    refine ⟨_, _, _, _, rfl, rfl, SqT.of (hb), (by first | exact at0 | exact at1 | exact at2 | rfl), ?_⟩
    refine ⟨rfl, _, rfl, tF (by decide +kernel) ?_⟩
    refine ⟨_, rfl, ?_⟩
    refine ⟨_, _, _, _, rfl, rfl, SqT.of (hb), (by first | exact at0 | exact at1 | exact at2 | rfl), ?_⟩
    refine ⟨rfl, _, rfl, tF (by decide +kernel) ?_⟩
    refine ⟨_, rfl, ?_⟩
    refine ⟨_, _, _, _, rfl, rfl, SqT.of (hb), (by first | exact at0 | exact at1 | exact at2 | rfl), ?_⟩
    refine ⟨rfl, _, rfl, tT (by decide +kernel) ?_⟩
    obtain ⟨d1, d2, d3, ms, rfl⟩ := three ms ht
    refine ⟨_, rfl, _, _, _, _, _, rfl, R1.ins, C.cls, C.n4, rfl, ?_⟩
    refine ⟨ty_made R1, ?_⟩
    refine pop_m R1 fun H2 v1 t2 hv1 R2 => ?_
    dsimp only [gName]
    refine ⟨_, rfl, _, _, _, _, _, rfl, R2.ins, C.cls, C.n4, rfl, ?_⟩
    refine ⟨ty_made R2, ?_⟩
    refine pop_m R2 fun H3 v2 t3 hv2 R3 => ?_
    dsimp only [gName]
    refine ⟨_, rfl, _, _, _, _, _, rfl, R3.ins, C.cls, C.n4, rfl, ?_⟩
    refine ⟨ty_made R3, ?_⟩
    refine ⟨_, rfl, ?_⟩
    refine ⟨_, rfl, _, _, _, _, _, rfl, R3.ins, C.cls, C.n4, rfl, ?_⟩
    refine ⟨ty_made R3, ?_⟩
    refine pop_m R3 fun H4 v3 t4 hv3 R4 => ?_
    refine ⟨_, rfl, ?_⟩
    refine ⟨(by show 3 ≤ sizeLine; decide), fun p np => ?_⟩
    have s5 : Same H4 (upd H4 p (.tup [v2, v3, v1])) := Same.new np
    have ml : (d1 :: d2 :: d3 :: ms).length ≤ 80000 := hM
    simp only [List.length_cons] at ml
    refine r_app_m (R4.same s5) (by omega) (d := .tuple [d2, d3, d1]) ⟨p, _, rfl, upd_same, _, _, rfl, hv2.up (t4.trans (Same.tups s5)), _, _, rfl, hv3.up (Same.tups s5), _, _, rfl, hv1.up ((t3.trans t4).trans (Same.tups s5)), rfl⟩ fun H6 t6 R6 => ?_
    exact q H6 lm (((((t1.trans t2).trans t3).trans t4).trans (Same.tups s5)).trans t6) R6
  | make wd n =>
    obtain ⟨b, xs, rfl, hb, y, ys, rfl, hy, u, us, rfl, hu, u2, us2, rfl, hu2, hn⟩ := id htv
    cases hy; cases hu; cases hu2; cases hn
    dsimp only [gName]
    refine ⟨_, rfl, ?_⟩
    refine ⟨_, _, _, _, rfl, rfl, SqT.of (hb), (by first | exact at0 | exact at1 | exact at2 | rfl), ?_⟩
    refine ⟨rfl, _, rfl, tF (by decide +kernel) ?_⟩
    refine ⟨_, rfl, ?_⟩
    refine ⟨_, _, _, _, rfl, rfl, SqT.of (hb), (by first | exact at0 | exact at1 | exact at2 | rfl), ?_⟩
    refine ⟨rfl, _, rfl, tF (by decide +kernel) ?_⟩
    refine ⟨_, rfl, ?_⟩
    refine ⟨_, _, _, _, rfl, rfl, SqT.of (hb), (by first | exact at0 | exact at1 | exact at2 | rfl), ?_⟩
    refine ⟨rfl, _, rfl, tF (by decide +kernel) ?_⟩
    refine ⟨_, rfl, ?_⟩
    refine ⟨_, _, _, _, rfl, rfl, SqT.of (hb), (by first | exact at0 | exact at1 | exact at2 | rfl), ?_⟩
    refine ⟨rfl, _, rfl, tF (by decide +kernel) ?_⟩
    have hn : n ≤ ms.length := ht
    obtain ⟨ys, hy1, hy2⟩ := R1.hm
    have yl : ys.length = ms.length := by rw [hy2.length, List.length_reverse]
    refine ⟨_, rfl, _, _, _, _, _, rfl, R1.ins, C.cls, C.n4, rfl, ?_⟩
    refine ⟨_, _, rfl, .inl (Evl.sq_of hy1), ?_⟩
    refine ⟨_, rfl, ?_⟩
    refine ⟨_, _, _, _, rfl, rfl, SqT.of (hb), (by first | exact at0 | exact at1 | exact at2 | rfl), ?_⟩
    refine ⟨_, _, rfl, rfl, ?_⟩
    have ef : ((ys.length : Nat) : Int) - (n : Nat) = ((ms.length - n : Nat) : Int) := by omega
    dsimp only [gName]
    rw [ef]
    refine ⟨_, rfl, _, _, _, _, _, rfl, R1.ins, C.cls, C.n4, rfl, ?_⟩
    refine ⟨_, rfl, ?_⟩
    refine ⟨_, rfl, ?_⟩
    refine ⟨lm, ys, rfl, Evl.sq_of hy1, fun p1 n1 => ?_⟩
    rw [cutV_from]
    have s1 : Same H1 (upd H1 p1 (.lst (ys.drop (ms.length - n)))) := Same.new n1
    have k1 : (upd H1 p1 (.lst (ys.drop (ms.length - n)))) p1 = some (.lst (ys.drop (ms.length - n))) := upd_same
    generalize upd H1 p1 (.lst (ys.drop (ms.length - n))) = H2 at s1 k1 ⊢
    refine ⟨p1, _, rfl, .inl ⟨Evl.sq_of k1, fun p2 n2 => ?_⟩⟩
    have s2 : Same H2 (upd H2 p2 (.tup (ys.drop (ms.length - n)))) := Same.new n2
    have k2 : (upd H2 p2 (.tup (ys.drop (ms.length - n)))) p2 = some (.tup (ys.drop (ms.length - n))) := upd_same
    generalize upd H2 p2 (.tup (ys.drop (ms.length - n))) = H3 at s2 k2 ⊢
    have s13 : Same H1 H3 := s1.trans s2
    have R3 := R1.same s13
    refine ⟨_, rfl, _, _, _, _, _, rfl, R3.ins, C.cls, C.n4, rfl, ?_⟩
    refine ⟨_, rfl, ?_⟩
    refine ⟨_, rfl, ?_⟩
    refine ⟨lm, ys, rfl, Evl.sq_of (s13 _ _ hy1), fun p3 n3 => ?_⟩
    rw [cutV_to]
    have nm := R3.newM (p := p3) (ms' := ms.drop n) (xs := ys.take (ms.length - n)) n3 (by
      have := (hy2.up (Same.tups s13)).take (ms.length - n)
      rw [List.take_reverse, show ms.length - (ms.length - n) = n by omega] at this
      exact this)
    have s4 : Same H3 (upd H3 p3 (.lst (ys.take (ms.length - n)))) := Same.new n3
    refine ⟨_, rfl, a, A.Reading, dx, _, rfl, s4 _ _ R3.ins, C.cls, C.n4, (by show 4 < 1000; decide), ?_⟩
    have ep : putF "made" (.ref p3) (fl z i lw lm) = fl z i lw p3 := rfl
    rw [ep]
    obtain ⟨t4, R4⟩ := nm
    generalize upd (upd H3 p3 (.lst (ys.take (ms.length - n)))) a (.ins A.Reading dx (fl z i lw p3)) = H4 at t4 R4 ⊢
    have t14 : Tups H1 H4 := (Same.tups s13).trans t4
    refine ⟨_, rfl, _, _, _, _, _, rfl, R4.ins, C.cls, C.n4, rfl, ?_⟩
    refine ⟨ty_made R4, ?_⟩
    refine ⟨_, rfl, ?_⟩
    refine ⟨_, _, _, _, rfl, rfl, SqT.of (t14 _ _ hb), (by first | exact at0 | exact at1 | exact at2 | rfl), ?_⟩
    refine ⟨(by show 1 ≤ sizeLine; decide), fun p5 n5 => ?_⟩
    have s5 : Same H4 (upd H4 p5 (.tup [.str ⟨wd.tx.toArray⟩])) := Same.new n5
    have k5 : (upd H4 p5 (.tup [.str ⟨wd.tx.toArray⟩])) p5 = some (.tup [.str ⟨wd.tx.toArray⟩]) := upd_same
    generalize upd H4 p5 (.tup [.str ⟨wd.tx.toArray⟩]) = H5 at s5 k5 ⊢
    have R5 := R4.same s5
    have k25 : H5 p2 = some (.tup (ys.drop (ms.length - n))) := s5 _ _ (t4 _ _ k2)
    have hparts : TpL H5 (ms.take n).reverse (ys.drop (ms.length - n)) := by
      have := (hy2.up (t14.trans (Same.tups s5))).drop (ms.length - n)
      rw [List.drop_reverse, show ms.length - (ms.length - n) = n by omega] at this
      exact this
    have ml : (ms.drop n).length < 100000 := by rw [List.length_drop]; omega
    have pl : (ys.drop (ms.length - n)).length ≤ 80000 := by rw [List.length_drop]; omega
    refine ⟨_, rfl, ?_⟩
    refine ⟨p5, p2, _, _, rfl, rfl, Evl.st_of k5, Evl.st_of k25, Nat.le_trans (show 1 + (ys.drop (ms.length - n)).length ≤ 100000 by omega) (by decide), fun h => (List.cons_ne_nil _ _ h).elim, fun _ h => ?_, fun _ h p6 n6 => ?_⟩
    · rw [h] at hparts
      refine r_app_m R5 ml (d := .tuple (st wd.tx :: (ms.take n).reverse)) ⟨p5, _, rfl, k5, _, _, rfl, rfl, hparts⟩ fun H6 t6 R6 => ?_
      exact q H6 p3 (((t1.trans t14).trans (Same.tups s5)).trans t6) R6
    · have s6 : Same H5 (upd H5 p6 (.tup ([.str ⟨wd.tx.toArray⟩] ++ ys.drop (ms.length - n)))) := Same.new n6
      refine r_app_m (R5.same s6) ml (d := .tuple (st wd.tx :: (ms.take n).reverse)) ⟨p6, _, rfl, upd_same, _, _, rfl, rfl, hparts.up (Same.tups s6)⟩ fun H6 t6 R6 => ?_
      exact q H6 p3 ((((t1.trans t14).trans (Same.tups s5)).trans (Same.tups s6)).trans t6) R6
end
end K06
end Sec_D14
section Sec_D15
set_option Elab.async false
set_option linter.all false
set_option maxRecDepth 100000
set_option maxHeartbeats 4000000
namespace K06
open PySem PySem.Spec PyProof.Rows L2
open SX (S)
section
variable {P : Program} {w : World} {K : PySem.W.Frag} {mg : Str → Option Value} {base : Heap} {A : Ads}
abbrev fl1 (z : Tx) : List (Str × V) := [("signs", .str (S z))]
abbrev fl2 (z : Tx) : List (Str × V) := [("signs", .str (S z)), ("at", .int 0)]
abbrev fl3 (z : Tx) (lw : Addr) : List (Str × V) := [("signs", .str (S z)), ("at", .int 0), ("wanted", .ref lw)]
def sp_init (A : Ads) : Sp := fun vs H Q _ => ∃ a dx z B, vs = [.ref a, .str (S z)] ∧ H a = some (.ins A.Reading dx []) ∧ z.length ≤ 3000 ∧ Same B H ∧ B a = none ∧ ∀ H' lw lm, RdX A B H' a dx lw lm z 0 [.part .deal] [] → Q .non H'
theorem ok_init {fr : Addr} {fd : FuncData} (T : Txt K mg A) (C : RdC K A) (F : L2.Fun K "__init__" "Reading.__init__" s_Reading___init__ fr fd) : FnOk P w K mg base CX0 1 fr fd ["self", "text"] (sp_init A) := by
  refine F.ok sc_Reading___init__ (fun vs H Q E h => ?_) (fun cdv A' outer s H vs Q E hr h => ?_)
  · obtain ⟨a, dx, z, B, rfl, _⟩ := h; rfl
  obtain ⟨a, dx, z, B, rfl, h0, hz, sB, nB, q⟩ := h
  refine ⟨_, (pss_cons (ps_fld (pv 0) (pv 1) rfl) (pss_cons (ps_fld (pv 0) pe_int rfl) (pss_cons (ps_fld (pv 0) (pe_lst (pa_cons (pe_tup (pa_cons pe_str (pa_cons pe_str pa_nil))) pa_nil)) rfl) (pss_one (ps_fld (pv 0) (pe_lst pa_nil) rfl))))), ?_⟩
  have bs : ∀ {H H' : Hp}, Same B H → But a H H' → Same B H' := fun s b p o e => b p o (fun z => by rw [z, nB] at e; cases e) (s p o e)
  refine ⟨_, rfl, _, rfl, a, A.Reading, dx, _, rfl, h0, C.cls, C.n1, (by show 0 < 1000; decide), ?_⟩
  have k1 : (upd H a (.ins A.Reading dx (fl1 z))) a = some (.ins A.Reading dx (fl1 z)) := upd_same
  have s1 : Same B (upd H a (.ins A.Reading dx (fl1 z))) := bs sB .upd
  rw [show putF "signs" (V.str (S z)) [] = (fl1 z) from rfl]
  generalize upd H a (.ins A.Reading dx (fl1 z)) = H1 at k1 s1 ⊢
  refine ⟨_, rfl, a, A.Reading, dx, _, rfl, k1, C.cls, C.n2, (by show 1 < 1000; decide), ?_⟩
  rw [show putF "at" (V.int 0) (fl1 z) = (fl2 z) from rfl]
  have k2 : (upd H1 a (.ins A.Reading dx (fl2 z))) a = some (.ins A.Reading dx (fl2 z)) := upd_same
  have s2 := bs s1 (H' := upd H1 a (.ins A.Reading dx (fl2 z))) .upd
  generalize upd H1 a (.ins A.Reading dx (fl2 z)) = H2 at k2 s2 ⊢
  refine ⟨(by show 2 ≤ sizeLine; decide), fun p np => ?_⟩
  have e3 : Same H2 (upd H2 p (.tup [.str "part", .str "deal"])) := Same.new np
  have k3 : (upd H2 p (.tup [.str "part", .str "deal"])) p = some (.tup [.str "part", .str "deal"]) := upd_same
  generalize upd H2 p (.tup [.str "part", .str "deal"]) = H3 at e3 k3 ⊢
  refine ⟨(by show 1 ≤ sizeLine; decide), fun lw nlw => ?_⟩
  have s3 : Same B H3 := s2.trans e3
  have nBw : B lw = none := Evl.fresh_back (p := lw) s3 nlw
  have e4 : Same H3 (upd H3 lw (.lst [.ref p])) := Same.new nlw
  have k4 : (upd H3 lw (.lst [.ref p])) lw = some (.lst [.ref p]) := upd_same
  generalize upd H3 lw (.lst [.ref p]) = H4 at e4 k4 ⊢
  have a4 : H4 a = some (.ins A.Reading dx (fl2 z)) := e4 _ _ (e3 _ _ k2)
  have p4 : H4 p = some (.tup [.str "part", .str "deal"]) := e4 _ _ k3
  refine ⟨_, rfl, a, A.Reading, dx, _, rfl, a4, C.cls, C.n3, (by show 2 < 1000; decide), ?_⟩
  rw [show putF "wanted" (V.ref lw) (fl2 z) = (fl3 z lw) from rfl]
  have k5 : (upd H4 a (.ins A.Reading dx (fl3 z lw))) a = some (.ins A.Reading dx (fl3 z lw)) := upd_same
  have b5 : But a H4 (upd H4 a (.ins A.Reading dx (fl3 z lw))) := .upd
  have nwa : lw ≠ a := fun z => by rw [z, a4] at k4; cases k4
  have npa : p ≠ a := fun z => by rw [z, a4] at p4; cases p4
  generalize upd H4 a (.ins A.Reading dx (fl3 z lw)) = H5 at k5 b5 ⊢
  have s5 : Same B H5 := bs (s3.trans e4) b5
  refine ⟨(by show 0 ≤ sizeLine; decide), fun lm nlm => ?_⟩
  have nBm : B lm = none := Evl.fresh_back (p := lm) s5 nlm
  have w5 := b5 _ _ nwa k4
  have p5 := b5 _ _ npa p4
  have nwm : lw ≠ lm := fun z => by rw [z, nlm] at w5; cases w5
  have nma : lm ≠ a := fun z => by rw [z, k5] at nlm; cases nlm
  have npm : p ≠ lm := fun z => by rw [z, nlm] at p5; cases p5
  have e6 : Same H5 (upd H5 lm (.lst [])) := Same.new nlm
  have k6 : (upd H5 lm (.lst [])) lm = some (.lst []) := upd_same
  generalize upd H5 lm (.lst []) = H6 at e6 k6 ⊢
  refine ⟨_, rfl, a, A.Reading, dx, _, rfl, e6 _ _ k5, C.cls, C.n4, (by show 3 < 1000; decide), ?_⟩
  rw [show putF "made" (V.ref lm) (fl3 z lw) = fl z 0 lw lm from rfl]
  have b7 : But a H6 (upd H6 a (.ins A.Reading dx (fl z 0 lw lm))) := .upd
  have k7 : (upd H6 a (.ins A.Reading dx (fl z 0 lw lm))) a = some (.ins A.Reading dx (fl z 0 lw lm)) := upd_same
  generalize upd H6 a (.ins A.Reading dx (fl z 0 lw lm)) = H7 at b7 k7 ⊢
  refine q H7 lw lm ⟨bs (s5.trans e6) b7, nB, nBw, nBm, nwm, Nat.zero_le _, hz, k7, ⟨[.ref p], b7 _ _ nwa (e6 _ _ w5), ?_⟩, ⟨[], b7 _ _ nma k6, rfl⟩⟩
  exact ⟨_, _, rfl, ⟨p, _, rfl, b7 _ _ npa (e6 _ _ p5), _, _, rfl, rfl, _, _, rfl, rfl, rfl⟩, rfl⟩
/-- the class, made -/
structure MkR (P : Program) (w : World) (K : PySem.W.Frag) (mg : Str → Option Value) (base : Heap) (A : Ads) : Prop where
  ex : ∃ (f : Addr) (fd : FuncData), L2.Mk K A.Reading f ∧ FnOk P w K mg base CX0 1 f fd ["self", "text"] (sp_init A) ∧ Binds K fd ["self", "text"] [] ∧ mg "Reading" = some (.ref A.Reading)
theorem pmkR {X : Cx} {A : Ads} {j : Nat} {e : Expr} {es : List Expr} {t : TA} {p pos : Pos} (M : MkR X.prog X.w X.K X.mg X.base A) (hr : Room j X.A) (hj : 2 ≤ j) (hg : Gl X "Reading") (ha : PA X (e :: es) t)
    (he : starEach (e :: es) X.env = (false, eval e X.env) :: starEach es X.env := by rfl) (hpl : (backTo pos (starEach es X.env)).any (·.1) = false := by rfl) :
    PE X (.Call (.Name "Reading" p) (e :: es) [] pos) (tMake A.Reading (sp_init A) [] E0 t) := by
  obtain ⟨f, fd, M, F, b, hm⟩ := M.ex
  exact pe_make (p := p) (pos := pos) M F (hr.mono hj) hg hm b .nil pass0 ha (by decide) he hpl
def isT (v : V) : Bool := match v with | .str x => decide (x.length ≤ 2000) | _ => false
def sp_ist : Sp := fun vs H Q _ => ∃ v, vs = [v] ∧ ((∃ x, v = .str x ∧ x.length ≤ 100000) ∨ ∃ T, TyX K H v (.type T) ∧ kitB T "str" = some false ∧ isT v = false) ∧ Q (.bl (isT v)) H
theorem ok_is_text (T : Txt K mg A) : Cl P w K mg base CX0 1 "is_text" (sp_ist (K := K)) := by
  refine T.f_is_text.cl sc_is_text (fun vs H Q E h => ?_) (fun f cdv A' outer s H vs Q E hr h => ?_)
  · obtain ⟨v, rfl, _⟩ := h; rfl
  obtain ⟨v, rfl, hv, q⟩ := h
  refine ⟨_, (pss_one (ps_ret (pe_and (pe_callB call_isi (by rfl) T.z_isinstance (by decide +kernel) (pa_cons (pv 0) (pa_cons (pe_bltn (by rfl) T.z_str (by decide +kernel) (v := .ty "str") rfl) pa_nil))) (pe_one (pe_cmpR op_le (pe_callB call_len_str (by rfl) T.z_len (by decide +kernel) (pa_cons (pv 0) pa_nil)) (pe_gc rfl T.c_MOST_SIGNS) (nomark _)))))), ?_⟩
  refine ⟨_, rfl, ?_⟩
  rcases hv with ⟨x, rfl, hx⟩ | ⟨T, ty, kt, hf⟩
  · refine ⟨_, _, _, _, _, rfl, .ty _, Tp.ty (K := K) (show Tp H (.str x) (.str x) from rfl), kit_ty (kit_str _), ?_⟩
    refine ⟨_, rfl, iteT ?_⟩
    refine ⟨_, rfl, x, rfl, small _ hx, _, _, rfl, rfl, ?_⟩
    have e : isT (.str x) = decide ((x.length : Int) ≤ 2000) := decide_eq_decide.mpr (by omega)
    rw [e] at q
    exact q
  · refine ⟨_, _, _, _, _, rfl, .ty _, ty, kit_ty kt, ?_⟩
    refine ⟨_, rfl, iteF ?_⟩
    rw [hf] at q
    exact q
end
end K06
end Sec_D15
section Sec_D16
set_option Elab.async false
set_option linter.all false
set_option maxRecDepth 100000
set_option maxHeartbeats 4000000
namespace K06
open PySem PySem.Spec PyProof.Rows L2
open SX (S)
section
variable {P : Program} {w : World} {K : PySem.W.Frag} {mg : Str → Option Value} {base : Heap} {A : Ads}
abbrev FRn (P : Program) (w : World) (K : PySem.W.Frag) (mg : Str → Option Value) (base : Heap) (A : Ads) := Me P w K mg base (L2.CX P w) 7 A.Reading "read_next" (sp_rn A)
def ErrX (A : Ads) (E : XK) (H : Hp) (v : V) : Prop := ∀ H' d, Same H H' → H' d = some (.xd [(("at" : Str), v)]) → E (.ref A.BadText) (some d) H'
def RdQ (A : Ads) (N : Nat) (Q : VK) (E : XK) (H : Hp) (z : Tx) (res : Except Nat (Nat × Tx × List PyData)) : Prop := match res with
  | .error p => ErrX A E H (.int (p : Int))
  | .ok (i, r, ms) => (i < z.length ∧ ErrX A E H (.int (i : Int))) ∨ (¬ i < z.length ∧ ∃ d : Deal, d.wf ∧ ms = [d.pd] ∧ dpt d.pd ≤ N ∧
      ((goodP d = true ∧ ∀ H' v, Same H H' → Tp H' d.pd v → Q v H') ∨ (goodP d = false ∧ ErrX A E H (.int (z.length : Int)))))
def sp_rd (K : PySem.W.Frag) (A : Ads) (N : Nat) : Sp := fun vs H Q E => ∃ v, vs = [v] ∧ ((((∃ x, v = .str x ∧ x.length ≤ 100000) ∨ ∃ T, TyX K H v (.type T) ∧ kitB T "str" = some false ∧ isT v = false) ∧ isT v = false ∧ ErrX A E H .non) ∨
  ∃ z n res, v = .str (S z) ∧ z.length ≤ 2000 ∧ progF n 0 z [.part .deal] [] = some res ∧ RdQ A N Q E H z res)
theorem okS_T {t : Task} {W : List Task} {n : Nat} (h : okS (t :: W) n) : okT t n := by
  cases t with
  | pair => exact h.1
  | make w k => exact h.1
  | text _ => trivial
  | part _ => trivial
  | mark _ => trivial
theorem ok_read_deal (T : Txt K mg A) (R : Err K mg A) (C : RdC K A) {N : Nat} (hN : 27 ≤ N) (G_is_text : Cl P w K mg base CX0 1 "is_text" (sp_ist (K := K))) (GI : MkR P w K mg base A) (G_Reading_read_next : FRn P w K mg base A) (G_Reading_refuse_sign : FRef P w K mg base A)
    (G_need_deal : Cl P w K mg base (L2.CX P w) (1 + N + 1 + 1) "need_deal" (sp_nd A.BadDeal N)) : Cl P w K mg base (L2.CX P w) (N + 4) "read_deal" (sp_rd K A N) := by
  refine T.f_read_deal.clX sc_read_deal (fun vs H Q E h => ?_) (fun f cdv A' outer s H vs Q E hr h => ?_)
  · obtain ⟨v, rfl, _⟩ := h; rfl
  obtain ⟨v, rfl, ⟨hv, hf, q⟩ | ⟨z, n, res, rfl, hz, hp, q⟩⟩ := h
  all_goals refine ⟨_, (pss_cons (ps_if (pt_not (pt_val (pcl G_is_text hr (by omega) rfl (pa_cons (pv 0) pa_nil)))) (pss_one (ps_raise rfl (takes_of rfl rfl rfl rfl) (pmkBT R hr (by omega) (by rfl) (pa_cons pe_non pa_nil)))) pss_nil) (pss_cons (ps_set (i := 1) sc_read_deal.nd rfl (Or.inl rfl) (pmkR GI hr (by omega) (by rfl) (pa_cons (pv 0) pa_nil))) (pss_cons (ps_while (passes_of rfl) (pt_cmpR (op_neL hr.units) (pe_fld (pv 1) rfl) (pe_lst pa_nil) (nomark _)) (pss_one (ps_expr (pmeS0 G_Reading_read_next hr (by omega) (fun σ => passAt (takes_of rfl rfl rfl rfl) σ) (pv 1))))) (pss_cons (ps_if (pt_cmpR op_lt (pe_fld (pv 1) rfl) (pe_callB call_len_str (by rfl) T.z_len (by decide +kernel) (pa_cons (pv 0) pa_nil)) (nomark _)) (pss_one (ps_expr (pmeS0 G_Reading_refuse_sign hr (by omega) (fun σ => passAt (takes_of rfl rfl rfl rfl) σ) (pv 1)))) pss_nil) (pss_cons (ps_set (i := 2) sc_read_deal.nd rfl (Or.inl rfl) (pe_ix ix_list (pe_fld (pv 1) rfl) pe_int (fun _ _ => rfl))) (pss_cons (ps_set (i := 3) sc_read_deal.nd rfl (Or.inl rfl) pe_bl) (pss_cons (ps_try_only rfl rfl ⟨rfl, by decide, .inl R.gDeal⟩ (takes_of rfl rfl rfl rfl) (fun W pn xe tk po => pss_one (ps_expr (pclX G_need_deal hr (by omega) tk rfl (pa_cons (pv 2) pa_nil)))) (fun a oe cls d pn hz hf => pss_one (ps_set (i := 3) sc_read_deal.nd rfl (Or.inl rfl) pe_bl))) (pss_cons (ps_if (pt_not (pt_val (pv 3))) (pss_one (ps_raise rfl (takes_of rfl rfl rfl rfl) (pmkBT R hr (by omega) (by rfl) (pa_cons (pe_callB call_len_str (by rfl) T.z_len (by decide +kernel) (pa_cons (pv 0) pa_nil)) pa_nil)))) pss_nil) (pss_one (ps_ret (pv 2))))))))))), ?_⟩
  · refine ⟨_, rfl, ?_⟩
    refine ⟨v, rfl, hv, _, rfl, ?_⟩
    rw [hf]
    refine iteT ?_
    exact bt_done fun H2 d s2 _ e => q H2 d s2 e
  · have hfl : isT (.str (S z)) = true := decide_eq_true (by rw [S_size]; exact hz)
    refine ⟨_, rfl, ?_⟩
    refine ⟨_, rfl, .inl ⟨_, rfl, by rw [S_size]; omega⟩, _, rfl, ?_⟩
    rw [hfl]
    refine iteF ?_
    refine ⟨_, rfl, ?_⟩
    intro a dx na ndx ne
    have s0 : Same H (upd (upd H dx (.own a)) a (.ins A.Reading dx [])) := (Same.new ndx).trans (Same.new (by rw [upd_ne (Ne.symm ne)]; exact na))
    refine ⟨a, dx, z, H, rfl, upd_same, by omega, s0, na, fun H1 lw lm R1 => ⟨rfl, ?_⟩⟩
    dsimp only [gName]
    refine Evl.q_while (fun m σ' H' => ∃ lm' i W ms, σ' = [some (.str (S z)), some (.ref a), none, none] ∧ RdX A H H' a dx lw lm' z i W ms ∧ progF m i (z.drop i) W ms = some res ∧ okS W ms.length ∧ wtL W + ms.length ≤ 1 + 10 * i) n ⟨lm, 0, _, _, rfl, R1, hp, rfl, by decide⟩ (fun m σ' H' hw => ?_) |> fun x => x
    obtain ⟨lm', i, W, ms, rfl, Ri, hpi, hok, hwt⟩ := hw
    have hzi := Ri.hi
    refine ⟨!W.isEmpty, fun H3 e3 Q1 q1 => ?_, fun hb H3 e3 => ?_, fun hb H3 e3 => ?_⟩
    · have R3 := Ri.same e3
      obtain ⟨xs, h1, h2⟩ := R3.hw
      refine ⟨_, rfl, _, _, _, _, _, rfl, R3.ins, C.cls, C.n3, rfl, ?_⟩
      refine ⟨(by show 0 ≤ sizeLine; decide), fun p np => ?_⟩
      have s4 : Same H3 (upd H3 p (.lst [])) := Same.new np
      have hxe : xs.isEmpty = W.isEmpty := by
        have := h2.length
        rw [List.length_map, List.length_reverse] at this
        cases xs <;> cases W <;> first | rfl | (simp at this)
      refine ⟨lw, p, xs, rfl, rfl, Evl.sq_of (s4 _ _ h1), Evl.sq_of upd_same, _, rfl, ?_⟩
      rw [hxe]
      exact q1 _ s4
    · have R3 := Ri.same e3
      cases W with
      | nil => cases hb
      | cons t W =>
      cases m with
      | zero => cases hpi
      | succ m =>
      have hwl := wtL_len (t :: W)
      rw [List.length_cons] at hwl
      refine ⟨fun σ2 H2 => ∃ lm' i W ms, σ2 = [some (.str (S z)), some (.ref a), none, none] ∧ RdX A H H2 a dx lw lm' z i W ms ∧ progF m i (z.drop i) W ms = some res ∧ okS W ms.length ∧ wtL W + ms.length ≤ 1 + 10 * i, fun σ2 H2 hn => ⟨m, Nat.lt_succ_self _, hn⟩, ?_⟩
      refine ⟨_, rfl, a, dx, _, rfl, R3.ins, rfl, ?_⟩
      refine ⟨a, H, dx, lw, lm', z, i, t, W, ms, rfl, R3, by omega, by omega, okS_T hok, ?_⟩
      have hpi : (match stepP i (z.drop i) t W ms with | .ok (i', r', W', ms') => progF m i' r' W' ms' | .error p => some (.error p)) = some res := hpi
      cases hst : stepP i (z.drop i) t W ms with
      | error p =>
        rw [hst] at hpi
        cases hpi
        exact fun H4 d s4 e => q H4 d s4 e
      | ok y =>
        obtain ⟨i', r', W', ms'⟩ := y
        rw [hst] at hpi
        obtain ⟨ok', wt', tx, rd⟩ := stepP_ok hst hok
        have er := (drop_len rd hzi).2
        rw [er] at hpi
        exact fun H4 lm4 t4 R4 => ⟨lm4, i', W', ms', rfl, R4, hpi, ok', by omega⟩
    · have R3 := Ri.same e3
      cases W with
      | cons t W => cases hb
      | nil =>
      have hres : res = .ok (i, z.drop i, ms) := by
        cases m with
        | zero => cases hpi
        | succ m => exact (Option.some.inj hpi).symm
      subst hres
      have a3 := R3.ins
      have s3 := R3.sB
      refine Evl.q_when (b := decide (i < z.length)) (et_refl fun H4 e4 Q1 q1 => ?_) (fun hb H4 e4 => ?_) (fun hb H4 e4 => ?_)
      · refine ⟨_, rfl, _, _, _, _, _, rfl, e4 _ _ a3, C.cls, C.n2, rfl, ?_⟩
        refine ⟨_, rfl, _, rfl, small _ (by rw [S_size]; omega), ?_⟩
        refine ⟨_, _, rfl, rfl, _, rfl, ?_⟩
        have e : decide (((i : Nat) : Int) < ((S z).length : Int)) = decide (i < z.length) := by
          refine decide_eq_decide.mpr ?_
          rw [S_size]; omega
        rw [e]
        exact q1
      · have hb := of_decide_eq_true hb
        rcases q with ⟨_, qe⟩ | ⟨hn, _⟩
        · refine ⟨_, rfl, a, dx, _, rfl, e4 _ _ a3, rfl, ?_⟩
          exact ⟨a, dx, z, i, lw, lm', rfl, e4 _ _ a3, fun H5 d b5 e => qe H5 d ((R3.same e4).exc b5) e⟩
        · exact absurd hb hn
      have hb := of_decide_eq_false hb
      rcases q with ⟨hn, _⟩ | ⟨_, d, wf, hms, hdp, q⟩
      · exact absurd hn hb
      subst hms
      have R4 := R3.same e4
      obtain ⟨ys, hy1, hy2⟩ := R4.hm
      obtain ⟨v, ys2, rfl, hv, hn⟩ := hy2
      cases hn
      have s4 : Same H H4 := s3.trans e4
      refine ⟨_, rfl, _, _, _, _, _, rfl, R4.ins, C.cls, C.n4, rfl, ?_⟩
      refine ⟨lm', _, 0, v, rfl, rfl, Evl.sq_of hy1, at0, ?_⟩
      dsimp only [gName]
      refine Evl.q_asg (v := .bl true) Evl.ev_c (fun H5 e5 => ?_)
      have s5 : Same H H5 := s4.trans e5
      have hv5 := hv.up (Same.tups e5)
      refine ⟨_, rfl, ?_⟩
      refine ⟨v, d, rfl, wf, hv5, hdp, fun hg H6 s6 => ?_, fun hg H6 s6 => ?_⟩
      · rcases q with ⟨_, q⟩ | ⟨hg2, _⟩
        · refine ⟨_, rfl, _, rfl, iteF ?_⟩
          exact ⟨_, rfl, q H6 v (s5.trans s6) (hv5.up (Same.tups s6))⟩
        · rw [hg] at hg2; cases hg2
      · rcases q with ⟨hg2, _⟩ | ⟨_, q⟩
        · rw [hg] at hg2; cases hg2
        · refine ⟨true, exm_mk R.deal.bs R.deal.cl R.deal.ty R.deal.self, fun _ x nx => ?_, fun h => by cases h⟩
          refine ⟨_, rfl, _, rfl, iteT ?_⟩
          refine ⟨_, rfl, _, rfl, small _ (by rw [S_size]; omega), ?_⟩
          rw [S_size]
          exact bt_done fun H7 d7 s7 _ e7 => q H7 d7 ((s5.trans s6).trans s7) e7
end
end K06
end Sec_D16
section Sec_L1
set_option Elab.async false
set_option linter.all false
set_option maxRecDepth 100000
set_option maxHeartbeats 4000000
namespace K06
open PySem PySem.Spec PyProof.Rows L2
open SX (S)
section
variable {P : Program} {w : World} {K : PySem.W.Frag} {mg : Str → Option Value} {base : Heap} {A : Ads}
/-! ### the law's figures -/
def figI (most i : Nat) (r : Tx) : Int := match pF most i r with
  | .ok (_, i', _) => i'
  | .error _ => -1
def sp_lf : Sp := fun vs H Q _ => ∃ (z : Tx) (i most : Nat), vs = [.str (S z), .int (i : Nat), .int (most : Nat)] ∧ z.length ≤ 3000 ∧ i ≤ z.length ∧ 0 < most ∧ ∀ H', Same H H' → Q (.int (figI most i (z.drop i))) H'
theorem figs_tw {c : Nat} {r : Tx} {most : Nat} (hm : 0 < most) (hd : digit c = true) (h0 : c ≠ 48) : figs most (c :: r) = ((c :: r).takeWhile digit).take most := by
  rw [figs_cons, if_pos hd, if_neg h0, List.takeWhile_cons_of_pos hd]
  cases most with
  | zero => omega
  | succ m => rfl
theorem ok_law_figures (T : Txt K mg A) : Cl P w K mg base CX0 1 "_law_figures" sp_lf := by
  refine T.f__law_figures.cl sc__law_figures (fun vs H Q E h => ?_) (fun f cdv A' outer s H vs Q E hr h => ?_)
  · obtain ⟨z, i, most, rfl, _⟩ := h; rfl
  obtain ⟨z, i, most, rfl, hz, hi, hm, q⟩ := h
  refine ⟨_, (pss_cons (ps_set (i := 3) sc__law_figures.nd rfl (Or.inl rfl) (pv 1)) (pss_cons (ps_while PassesOwn.never (PW.pt (pw_and (pt_cmpR op_lt (pv 3) (pe_callB call_len_str (by rfl) T.z_len (by decide +kernel) (pa_cons (pv 0) pa_nil)) (nomark _)) (pw_and (pt_cmpR op_lt (pe_op op_sub (pv 3) (pv 1)) (pv 2) (nomark _)) (pw_and1 (pt_cmpR op_in_sign (pe_ix ix_str (pv 0) (pv 3) (fun _ _ => rfl)) pe_str (by rfl)))))) (pss_cons (ps_set (i := 3) sc__law_figures.nd rfl (Or.inl rfl) (pe_op op_add (pv 3) pe_int)) (pss_one (ps_if (pt_cmpR op_eq (pe_ix ix_str (pv 0) (pv 1) (fun _ _ => rfl)) pe_str (nomark _)) (pss_one (ps_break)) pss_nil)))) (pss_one (ps_ret (pe_ifExp (pt_cmpR op_gt (pv 3) (pv 1) (nomark _)) (pv 3) (pe_op op_sub pe_int pe_int)))))), ?_⟩
  generalize hr0 : z.drop i = r at q
  have rl : r.length = z.length - i := by rw [← hr0, List.length_drop]
  have zat : ∀ k, z[i + k]? = r[k]? := fun k => by rw [← hr0, List.getElem?_drop]
  -- the end
  have fin : ∀ (k : Nat) (D : L2.Ends) (H' : Hp), D.rt = Q → Same H H' → (figs most r).length = k →
      tRet (tIf (tTest (tOp (rI0 fun i j => .bl (decide (j < i))) (tVar 3) (tVar 1))) (tVar 3) (tOp (rI0 fun i j => .int (i - j)) (tC (.int 0)) (tC (.int 1)))) D [some (.str (S z)), some (.int (i : Nat)), some (.int (most : Nat)), some (.int ((i + k : Nat) : Int))] H' := by
    intro k D H' eD s' hk
    refine ⟨_, rfl, _, rfl, _, _, rfl, rfl, _, rfl, ?_⟩
    have hq := q H' s'
    unfold figI pF at hq
    refine itD (fun c => ?_) (fun c => ?_)
    · rw [if_neg (fun e => by rw [e] at hk; simp at hk; omega)] at hq
      refine ⟨_, rfl, ?_⟩
      rw [hk] at hq
      rw [eD]
      exact hq
    · have h0 : figs most r = [] := List.length_eq_zero_iff.mp (by omega)
      rw [if_pos h0] at hq
      refine ⟨_, _, rfl, rfl, ?_⟩
      rw [eD]
      exact hq
  have Tl : ((r.takeWhile digit).take most).length ≤ r.length := by
    have := (List.takeWhile_prefix digit (l := r)).length_le
    rw [List.length_take]; omega
  have noz : ∀ c s, r = c :: s → c ≠ 48 → (figs most r).length = ((r.takeWhile digit).take most).length := fun c s e h0 => by
    subst e
    by_cases hd : digit c = true
    · rw [figs_tw hm hd h0]
    · rw [figs_cons, if_neg hd, List.takeWhile_cons_of_neg hd]; simp
  refine Evl.q_asg (v := .int ((i + 0 : Nat) : Int)) (ev_refl fun H1 _ Q1 q1 => ⟨_, rfl, q1⟩) (fun H1 e1 => ?_)
  refine Evl.q_while (fun m σ' H' => ∃ k, m = ((r.takeWhile digit).take most).length - k ∧ k ≤ ((r.takeWhile digit).take most).length ∧ (0 < k → r.head? ≠ some 48) ∧ Same H H' ∧ σ' = [some (.str (S z)), some (.int (i : Nat)), some (.int (most : Nat)), some (.int ((i + k : Nat) : Int))]) ((r.takeWhile digit).take most).length ⟨0, rfl, Nat.zero_le _, fun h => absurd h (Nat.lt_irrefl _), e1, rfl⟩ (fun m σ' H' hw => ?_)
  obtain ⟨k, rfl, hk, h48, s1, rfl⟩ := hw
  have hk2 : k ≤ (r.takeWhile digit).length := by rw [List.length_take] at hk; omega
  have hk3 : k ≤ most := by rw [List.length_take] at hk; omega
  have ta := tw_at r k hk2
  refine ⟨decide (k < ((r.takeWhile digit).take most).length), et_refl fun H3 e3 Q1 q1 => ?_, fun hb H3 e3 => ?_, fun hb H3 e3 => ?_⟩
  · have no : ¬ k < ((r.takeWhile digit).take most).length → Q1 false H3 := fun h => by rw [decide_eq_false h] at q1; exact q1
    refine ⟨_, rfl, _, rfl, _, rfl, small _ (by rw [S_size]; omega), ?_⟩
    refine ⟨_, _, rfl, rfl, _, rfl, ?_⟩
    refine itD (fun c => ?_) (fun c => ?_)
    · rw [S_size] at c
      refine ⟨_, rfl, _, rfl, _, _, rfl, rfl, _, rfl, _, _, rfl, rfl, _, rfl, ?_⟩
      refine itD (fun c2 => ?_) (fun c2 => ?_)
      · have hkr : k < r.length := by omega
        have hg : r[k]? = some r[k] := List.getElem?_eq_getElem hkr
        refine ⟨_, rfl, _, rfl, _, _, r[k], rfl, rfl, small _ (by rw [S_size]; omega), atI_nat _ _ _ (by rw [zat]; exact hg), ?_⟩
        refine ⟨_, _, rfl, rfl, _, rfl, ?_⟩
        rw [figs_in]
        have hd : r.drop k = r[k] :: r.drop (k + 1) := List.drop_eq_getElem_cons hkr
        cases hdd : digit r[k] with
        | true =>
          have := ta.mpr ⟨_, _, hd, hdd⟩
          rw [decide_eq_true (show k < ((r.takeWhile digit).take most).length by rw [List.length_take]; omega)] at q1
          exact q1
        | false =>
          refine no fun h => ?_
          rw [List.length_take] at h
          obtain ⟨d', t', e, e2⟩ := ta.mp (by omega)
          rw [hd] at e
          cases e
          rw [hdd] at e2
          cases e2
      · exact no fun h => by rw [List.length_take] at h; omega
    · rw [S_size] at c
      exact no fun h => by omega
  · have hb := of_decide_eq_true hb
    have s3 : Same H H3 := s1.trans e3
    refine ⟨fun σ2 H2 => k + 1 ≤ ((r.takeWhile digit).take most).length ∧ r.head? ≠ some 48 ∧ Same H H2 ∧ σ2 = [some (.str (S z)), some (.int (i : Nat)), some (.int (most : Nat)), some (.int ((i + (k + 1) : Nat) : Int))], fun σ2 H2 ⟨n1, n2, n3, n4⟩ => ⟨((r.takeWhile digit).take most).length - (k + 1), by omega, k + 1, rfl, n1, fun _ => n2, n3, n4⟩, ?_⟩
    refine ⟨_, rfl, _, _, rfl, rfl, ?_⟩
    have ek : ((i + k : Nat) : Int) + 1 = ((i + (k + 1) : Nat) : Int) := by omega
    dsimp only [gName]
    rw [ek]
    cases hrr : r with
    | nil => rw [hrr] at hb; simp at hb
    | cons c s =>
      have hl0 : z[i]? = some c := by have := zat 0; rw [hrr] at this; simpa using this
      refine ⟨_, rfl, _, rfl, _, _, c, rfl, rfl, small _ (by rw [S_size]; omega), atI_nat _ _ _ hl0, ?_⟩
      refine ⟨rfl, _, rfl, ?_⟩
      rw [show V.str ⟨#[c]⟩ = V.str (S [c]) from rfl, eqS lit_0]
      refine itD (fun c48 => ?_) (fun c48 => ?_)
      · have c48 : c = 48 := (List.cons.inj c48).1
        have hk0 : k = 0 := by
          apply Classical.byContradiction
          intro hne
          exact h48 (by omega) (by rw [hrr, c48]; rfl)
        subst hk0
        refine fin 1 _ H3 rfl s3 ?_
        rw [hrr, c48]
        rfl
      · exact ⟨by rw [← hrr]; exact hb, fun e => c48 (by cases e; rfl), s3, rfl⟩
  · have hb := of_decide_eq_false hb
    have hke : k = ((r.takeWhile digit).take most).length := by omega
    refine fin k _ H3 rfl (s1.trans e3) ?_
    cases hrr : r with
    | nil =>
      have : k = 0 := by rw [hke, hrr]; simp
      rw [this]; rfl
    | cons c s =>
      by_cases c48 : c = 48
      · have hk0 : k = 0 := by
          apply Classical.byContradiction
          intro hne
          exact h48 (by omega) (by rw [hrr, c48]; rfl)
        have : ((r.takeWhile digit).take most).length ≠ 0 := by
          rw [hrr, c48, List.takeWhile_cons_of_pos (by decide), List.length_take, List.length_cons]; omega
        omega
      · rw [← hrr, noz c s hrr c48, hke]
end
end K06
end Sec_L1
section Sec_L2
set_option Elab.async false
set_option linter.all false
set_option maxRecDepth 100000
set_option maxHeartbeats 4000000
namespace K06
open PySem PySem.Spec PyProof.Rows L2
open SX (S)
section
variable {P : Program} {w : World} {K : PySem.W.Frag} {mg : Str → Option Value} {base : Heap} {A : Ads}
def qI (i : Nat) (r : Tx) : PyData := match pQ i r with
  | .ok (_, i', _) => .tuple [.int (i' : Nat), .bool true]
  | .error p => .tuple [.int (p : Nat), .bool false]
def sp_lse : Sp := fun vs H Q _ => ∃ (z : Tx) (i : Nat), vs = [.str (S z), .int (i : Nat)] ∧ z.length ≤ 3000 ∧ i ≤ z.length ∧ ∀ H' v, Same H H' → Tp H' (qI i (z.drop i)) v → Q v H'
theorem ok_law_share_end (T : Txt K mg A) (G__law_figures : Cl P w K mg base CX0 1 "_law_figures" sp_lf) : Cl P w K mg base CX0 2 "_law_share_end" sp_lse := by
  refine T.f__law_share_end.cl sc__law_share_end (fun vs H Q E h => ?_) (fun f cdv A' outer s H vs Q E hr h => ?_)
  · obtain ⟨z, i, rfl, _⟩ := h; rfl
  obtain ⟨z, i, rfl, hz, hi, q⟩ := h
  refine ⟨_, (pss_cons (ps_set (i := 1) sc__law_share_end.nd rfl (Or.inl rfl) (pe_op op_add (pv 1) (pe_callTy call_int1 (by rfl) T.z_int (by decide +kernel) (pa_cons (pe_cmpR op_eq (pe_slice sl_str (pv 0) (po_some (pv 1)) (po_some (pe_op op_add (pv 1) pe_int))) pe_str (nomark _)) pa_nil)))) (pss_cons (ps_set (i := 2) sc__law_share_end.nd rfl (Or.inl rfl) (pcl G__law_figures hr (by omega) rfl (pa_cons (pv 0) (pa_cons (pv 1) (pa_cons pe_int pa_nil))))) (pss_cons (ps_if (pt_cmpR op_lt (pv 2) pe_int (nomark _)) (pss_one (ps_ret (pe_tup (pa_cons (pv 1) (pa_cons pe_bl pa_nil))))) pss_nil) (pss_cons (ps_if (pt_cmpR op_ne (pe_slice sl_str (pv 0) (po_some (pv 2)) (po_some (pe_op op_add (pv 2) pe_int))) pe_str (nomark _)) (pss_one (ps_ret (pe_tup (pa_cons (pv 2) (pa_cons pe_bl pa_nil))))) pss_nil) (pss_cons (ps_set (i := 3) sc__law_share_end.nd rfl (Or.inl rfl) (pcl G__law_figures hr (by omega) rfl (pa_cons (pv 0) (pa_cons (pe_op op_add (pv 2) pe_int) (pa_cons pe_int pa_nil))))) (pss_one (ps_ret (pe_ifExp (pt_cmpR op_lt (pv 3) pe_int (nomark _)) (pe_tup (pa_cons (pe_op op_add (pv 2) pe_int) (pa_cons pe_bl pa_nil))) (pe_tup (pa_cons (pv 3) (pa_cons pe_bl pa_nil))))))))))), ?_⟩
  generalize hr0 : z.drop i = r at q
  have nxt : ∀ {j : Nat} {c : Nat} {x : Str} {b : Bool}, x = S [c] → decide ((z.drop j).head? = some c) = b → decide (V.str (cutS (S z) (some (j : Int)) (some ((j : Int) + 1))) = V.str x) = b := fun {j c x b} hx hb => by
    rw [show (j : Int) + 1 = ((j + 1 : Nat) : Int) by omega, cut_mid, show j + 1 - j = 1 by omega, eqS hx, head_take, hb]
  have hlt : ∀ {j c : Nat}, (z.drop j).head? = some c → j + 1 ≤ z.length := fun {j c} h => by
    cases hd : z.drop j with
    | nil => rw [hd] at h; cases h
    | cons d t =>
      have := congrArg List.length hd
      rw [List.length_drop, List.length_cons] at this
      omega
  have tp : ∀ {H1 : Hp} {n : Nat} {b : Bool}, Same H H1 → qI i r = .tuple [.int (n : Nat), .bool b] → ∀ p, H1 p = none → Q (.ref p) (upd H1 p (.tup [.int (n : Nat), .bl b])) := fun s1 e p np => by
    refine q _ _ (s1.trans (Same.new np)) ?_
    rw [e]
    exact ⟨p, _, rfl, upd_same, _, _, rfl, rfl, _, _, rfl, rfl, rfl⟩
  have hz1 : ∀ j : Nat, j ≤ z.length → True := fun _ _ => trivial
  refine ⟨_, rfl, _, rfl, _, rfl, _, rfl, _, rfl, _, _, rfl, rfl, _, rfl, _, rfl, small _ (by rw [S_size]; omega), rfl, .inr ⟨_, rfl, ?_⟩⟩
  rw [nxt lit_minus (b := isMinus r) (by rw [hr0]; rfl)]
  refine ⟨_, _, rfl, rfl, ?_⟩
  have e1 : (i : Int) + (if isMinus r = true then 1 else 0) = ((i + (if isMinus r = true then 1 else 0) : Nat) : Int) := by split <;> omega
  dsimp only [gName]
  rw [e1]
  have hi1 : i + (if isMinus r = true then 1 else 0) ≤ z.length := by
    by_cases hm : isMinus r = true
    · rw [if_pos hm]
      exact hlt (c := 45) (by rw [hr0]; exact of_decide_eq_true hm)
    · rw [if_neg hm]; exact hi
  have hd1 : z.drop (i + (if isMinus r = true then 1 else 0)) = r.drop (if isMinus r = true then 1 else 0) := by rw [← List.drop_drop, hr0]
  refine ⟨_, rfl, _, rfl, z, _, 30, rfl, hz, hi1, by decide, fun H1 s1 => ?_⟩
  rw [hd1]
  unfold figI
  have epq : pQ i r = (match pF 30 (i + (if isMinus r = true then 1 else 0)) (r.drop (if isMinus r = true then 1 else 0)) with
    | .error p => .error p
    | .ok (n, i2, r2) => if isStroke r2 = true then
        (match pF 30 (i2 + 1) (r2.drop 1) with
        | .error p => .error p
        | .ok (d, i3, r3) => .ok (⟨isMinus r, n, some d⟩, i3, r3))
      else .ok (⟨isMinus r, n, none⟩, i2, r2)) := rfl
  have perr : ∀ {most j : Nat} {r : Tx} {p : Nat}, pF most j r = .error p → p = j := fun {most j r p} h => by unfold pF at h; split at h <;> cases h; rfl
  cases h1 : pF 30 (i + (if isMinus r = true then 1 else 0)) (r.drop (if isMinus r = true then 1 else 0)) with
  | error p =>
    have hp := perr h1
    refine ⟨_, rfl, _, _, rfl, rfl, _, rfl, tT rfl ?_⟩
    refine ⟨_, rfl, (by show 2 ≤ sizeLine; decide), ?_⟩
    exact tp s1 (by unfold qI; rw [epq, h1, hp])
  | ok y =>
  obtain ⟨n, i2, r2⟩ := y
  rw [h1] at epq
  have rd1 := (pF_ok (by decide) h1).2
  rw [← hd1] at rd1
  have hl2 := drop_len rd1 hi1
  refine ⟨_, rfl, _, _, rfl, rfl, _, rfl, tF (decide_eq_false (by show ¬ ((i2 : Nat) : Int) < 0; omega)) ?_⟩
  refine ⟨_, rfl, _, rfl, _, rfl, _, rfl, _, _, rfl, rfl, _, rfl, _, rfl, small _ (by rw [S_size]; omega), rfl, _, rfl, ?_⟩
  rw [nxt lit_stroke (b := isStroke r2) (by rw [← hl2.2]; rfl)]
  cases hst : isStroke r2 with
  | false =>
    refine iteT ?_
    refine ⟨_, rfl, (by show 2 ≤ sizeLine; decide), ?_⟩
    simp only [hst, if_neg Bool.false_ne_true] at epq
    exact tp s1 (by unfold qI; rw [epq])
  | true =>
    refine iteF ?_
    simp only [hst, if_true] at epq
    have hi3 : i2 + 1 ≤ z.length := hlt (c := 47) (by rw [← hl2.2]; exact of_decide_eq_true hst)
    have hd2 : z.drop (i2 + 1) = r2.drop 1 := by rw [← List.drop_drop, ← hl2.2]
    refine ⟨_, rfl, _, rfl, _, _, rfl, rfl, ?_⟩
    refine ⟨z, i2 + 1, 30, rfl, hz, hi3, by decide, fun H2 s2 => ?_⟩
    have s2 := s1.trans s2
    rw [hd2]
    unfold figI
    cases h2 : pF 30 (i2 + 1) (r2.drop 1) with
    | error p =>
      have hp := perr h2
      refine ⟨_, rfl, _, _, rfl, rfl, _, rfl, tT rfl ?_⟩
      refine ⟨_, rfl, _, _, rfl, rfl, (by show 2 ≤ sizeLine; decide), ?_⟩
      exact tp s2 (by unfold qI; rw [epq, h2, hp])
    | ok y =>
      obtain ⟨d, i3, r3⟩ := y
      refine ⟨_, rfl, _, _, rfl, rfl, _, rfl, tF (decide_eq_false (by show ¬ ((i3 : Nat) : Int) < 0; omega)) ?_⟩
      refine ⟨_, rfl, (by show 2 ≤ sizeLine; decide), ?_⟩
      exact tp s2 (by unfold qI; rw [epq, h2])
end
end K06
end Sec_L2
section Sec_L3
set_option Elab.async false
set_option linter.all false
set_option maxRecDepth 100000
set_option maxHeartbeats 4000000
namespace K06
open PySem PySem.Spec PyProof.Rows L2
open SX (S)
/-! ### words with what is wanted behind them, in the heap -/
abbrev sts (ts : List Tx) : List V := ts.map fun t => V.str (S t)
def Pr (H : Hp) (x : Tx × List Tx) (v : V) : Prop := ∃ a pl, v = .ref a ∧ H a = some (.tup [.str (S x.1), .ref pl]) ∧ H pl = some (.lst (sts x.2))
def PrL (H : Hp) : List (Tx × List Tx) → List V → Prop
  | [], xs => xs = []
  | x :: ws, xs => ∃ v vs, xs = v :: vs ∧ Pr H x v ∧ PrL H ws vs
theorem Pr.up {H H' : Hp} (s : Same H H') {x : Tx × List Tx} {v : V} (h : Pr H x v) : Pr H' x v := by
  obtain ⟨a, pl, rfl, h1, h2⟩ := h
  exact ⟨a, pl, rfl, s _ _ h1, s _ _ h2⟩
theorem PrL.up {H H' : Hp} (s : Same H H') : ∀ {ws : List (Tx × List Tx)} {xs : List V}, PrL H ws xs → PrL H' ws xs
  | [], _, h => h
  | _ :: _, _, h => by
    obtain ⟨v, vs, rfl, a, b⟩ := h
    exact ⟨v, vs, rfl, a.up s, PrL.up s b⟩
theorem PrL.length {H : Hp} : ∀ {ws : List (Tx × List Tx)} {xs : List V}, PrL H ws xs → xs.length = ws.length
  | [], _, h => by rw [show _ = [] from h]; rfl
  | _ :: _, _, h => by
    obtain ⟨v, vs, rfl, _, b⟩ := h
    rw [List.length_cons, PrL.length b, List.length_cons]
theorem PrL.app {H : Hp} : ∀ {a b : List (Tx × List Tx)} {xs ys : List V}, PrL H a xs → PrL H b ys → PrL H (a ++ b) (xs ++ ys)
  | [], _, _, _, h, q => by rw [show _ = [] from h]; exact q
  | _ :: _, _, _, _, h, q => by
    obtain ⟨v, vs, rfl, a, b⟩ := h
    exact ⟨v, vs ++ _, rfl, a, PrL.app b q⟩
theorem PrL.get {H : Hp} : ∀ {ws : List (Tx × List Tx)} {xs : List V} {i : Nat} {v : V}, PrL H ws xs → xs[i]? = some v → ∃ x, ws[i]? = some x ∧ Pr H x v
  | [], _, _, _, h, e => by rw [show _ = [] from h] at e; simp at e
  | x :: ws, _, 0, _, h, e => by
    obtain ⟨v, vs, rfl, a, b⟩ := h
    cases e
    exact ⟨x, rfl, a⟩
  | x :: ws, _, i + 1, _, h, e => by
    obtain ⟨v, vs, rfl, a, b⟩ := h
    obtain ⟨q, h1, h2⟩ := PrL.get (i := i) b e
    exact ⟨q, h1, h2⟩
/-- a reading gives a new list of texts | such a pair | a new list of such pairs -/
def EvS (te : TE) (σ : L2.St) (H : Hp) (ts : List Tx) : Prop := ∀ H1, Same H H1 → ∀ Q : VK, (∀ p H2, Same H1 H2 → H2 p = some (.lst (sts ts)) → Q (.ref p) H2) → te σ H1 Q
def EvP (te : TE) (σ : L2.St) (H : Hp) (x : Tx × List Tx) : Prop := ∀ H1, Same H H1 → ∀ Q : VK, (∀ v H2, Same H1 H2 → Pr H2 x v → Q v H2) → te σ H1 Q
def EvPs (ta : TA) (σ : L2.St) (H : Hp) (ws : List (Tx × List Tx)) : Prop := ∀ H1, Same H H1 → ∀ Q : List V → Hp → Prop, (∀ vs H2, Same H1 H2 → PrL H2 ws vs → Q vs H2) → ta σ H1 Q
def EvW (te : TE) (σ : L2.St) (H : Hp) (ws : List (Tx × List Tx)) : Prop := ∀ H1, Same H H1 → ∀ Q : VK, (∀ p xs H2, H1 p = none → Same H1 H2 → H2 p = some (.lst xs) → PrL (del H2 p) ws xs → Q (.ref p) H2) → te σ H1 Q
theorem del_new {H : Hp} {p : Addr} {o : HO} (h : H p = none) : del (upd H p o) p = H := by
  funext q
  by_cases hq : q = p
  · subst hq; rw [del_same, h]
  · rw [del_ne hq, upd_ne hq]
theorem del_up {H H' : Hp} {p : Addr} (s : Same H H') : Same (del H p) (del H' p) := fun q o e => by
  by_cases hq : q = p
  · subst hq; rw [del_same] at e; cases e
  · rw [del_ne hq] at e ⊢; exact s _ _ e
theorem del_in {H : Hp} {p : Addr} : Same (del H p) H := fun q o e => by
  by_cases hq : q = p
  · subst hq; rw [del_same] at e; cases e
  · rw [del_ne hq] at e; exact e
section
variable {σ : L2.St} {H : Hp} {te tf : TE} {ta : TA} {K : PySem.W.Frag}
theorem es_lst {ts : List Tx} (h : Evl.EvA ta σ H (sts ts)) (hl : ts.length ≤ 1000) : EvS (tLst ta) σ H ts := fun H1 s1 Q q =>
  h H1 s1 _ fun H2 s2 => ⟨small _ (by rw [List.length_map]; omega), fun p np => q p _ (Evl.Ex.trans s2 (Evl.Ex.new np)) upd_same⟩
theorem es_var {i : Nat} {p : Addr} {ts : List Tx} (hs : σ[i]? = some (some (.ref p))) (h : H p = some (.lst (sts ts))) : EvS (tVar i) σ H ts := fun H1 s1 Q q => ⟨_, hs, q p H1 (Same.refl _) (s1 _ _ h)⟩
theorem es_cat {a b : List Tx} (ha : EvS te σ H a) (hb : EvS tf σ H b) (hl : a.length + b.length ≤ 100000) : EvS (tOp rCat te tf) σ H (a ++ b) := fun H1 s1 Q q =>
  ha H1 s1 _ fun p H2 s2 hp => hb H2 (s1.trans s2) _ fun r H3 s3 hr => ⟨p, r, _, _, rfl, rfl, s3 _ _ hp, hr, small _ (by rw [List.length_map, List.length_map]; exact hl), fun l nl => q l _ ((s2.trans s3).trans (Same.new nl)) (by rw [upd_same, ← List.map_append])⟩
theorem es_take {i : Nat} {p : Addr} {ts : List Tx} (k : Nat) (hs : σ[i]? = some (some (.ref p))) (h : H p = some (.lst (sts ts))) : EvS (tSl (rSlL K) (tVar i) tNoPart (tPart (tC (.int (k : Nat))))) σ H (ts.take k) := fun H1 s1 Q q =>
  ⟨_, hs, _, rfl, p, _, rfl, Evl.sq_of (s1 _ _ h), fun l nl => q l _ (Same.new nl) (by rw [upd_same, cutV_to, ← List.map_take])⟩
theorem ep_tup {x : Str} {t : Tx} {ts : List Tx} (e : x = S t) (h : EvS te σ H ts) : EvP (tTup (tCons (tC (.str x)) (tCons te tNil))) σ H (t, ts) := fun H1 s1 Q q =>
  h H1 s1 _ fun p H2 s2 hp => ⟨(by show 2 ≤ sizeLine; decide), fun r nr => q _ _ (s2.trans (Same.new nr)) ⟨r, p, rfl, by rw [upd_same, e], (Same.new nr) _ _ hp⟩⟩
theorem eps_nil : EvPs tNil σ H [] := fun H1 _ Q q => q [] H1 (Same.refl _) rfl
theorem eps_cons {x : Tx × List Tx} {ws : List (Tx × List Tx)} (h : EvP te σ H x) (hr : EvPs ta σ H ws) : EvPs (tCons te ta) σ H (x :: ws) := fun H1 s1 Q q =>
  h H1 s1 _ fun v H2 s2 hv => hr H2 (s1.trans s2) _ fun vs H3 s3 hvs => q _ H3 (s2.trans s3) ⟨v, vs, rfl, hv.up s3, hvs⟩
theorem ew_lst {ws : List (Tx × List Tx)} (h : EvPs ta σ H ws) (hl : ws.length ≤ 1000) : EvW (tLst ta) σ H ws := fun H1 s1 Q q =>
  h H1 s1 _ fun vs H2 s2 hv => ⟨small _ (by rw [hv.length]; omega), fun p np => q p vs _ (Evl.fresh_back (p := p) s2 np) (s2.trans (Same.new np)) upd_same (by rw [del_new np]; exact hv)⟩
theorem ew_cat {i : Nat} {p : Addr} {a b : List (Tx × List Tx)} {xs : List V} (hs : σ[i]? = some (some (.ref p))) (h : H p = some (.lst xs)) (hx : PrL H a xs) (hb : EvW tf σ H b) (hl : a.length + b.length ≤ 1000) : EvW (tOp rCat (tVar i) tf) σ H (a ++ b) := fun H1 s1 Q q =>
  ⟨_, hs, hb H1 s1 _ fun r ys H2 nr s2 hr hy => ⟨p, r, xs, ys, rfl, rfl, s2 _ _ (s1 _ _ h), hr, small _ (by rw [hx.length, hy.length]; omega), fun l nl => q l _ _ (Evl.fresh_back (p := l) s2 nl) (s2.trans (Same.new nl)) upd_same (by rw [del_new nl]; exact (hx.up (s1.trans s2)).app (hy.up del_in))⟩⟩
theorem es_set {i : Nat} {ts : List Tx} {tz : TS} {D : Ends} (h : EvS te σ H ts) (k : ∀ p H1, Same H H1 → H1 p = some (.lst (sts ts)) → tz D (σ.set i (some (.ref p))) H1) : tSeq (tAsg te (gName i)) tz D σ H := h H (Same.refl _) _ k
theorem ew_set {i : Nat} {ws : List (Tx × List Tx)} {tz : TS} {D : Ends} (h : EvW te σ H ws) (k : ∀ p xs H1, H p = none → Same H H1 → H1 p = some (.lst xs) → PrL (del H1 p) ws xs → tz D (σ.set i (some (.ref p))) H1) : tSeq (tAsg te (gName i)) tz D σ H := h H (Same.refl _) _ k
theorem ew_set1 {i : Nat} {ws : List (Tx × List Tx)} {D : Ends} (h : EvW te σ H ws) (k : ∀ p xs H1, H p = none → Same H H1 → H1 p = some (.lst xs) → PrL (del H1 p) ws xs → D.nx (σ.set i (some (.ref p))) H1) : tAsg te (gName i) D σ H := h H (Same.refl _) _ k
end
section
variable {P : Program} {w : World} {K : PySem.W.Frag} {mg : Str → Option Value} {base : Heap} {A : Ads}
theorem atI_last {α : Type} (xs : List α) (v : α) : atI (xs ++ [v]) (-1) = some v := by
  unfold atI ixN
  rw [if_neg (by decide), List.length_append, List.length_singleton, if_pos (by omega)]
  have e : (((xs.length + 1 : Nat) : Int) + -1).toNat = xs.length := by omega
  simp only [Option.bind_some]
  first
    | rw [e, List.getElem?_append_right (Nat.le_refl _), Nat.sub_self]; rfl
    | (have e2 : (-1 + ((xs.length + 1 : Nat) : Int)).toNat = xs.length := by omega
       rw [e2, List.getElem?_append_right (Nat.le_refl _), Nat.sub_self]; rfl)
theorem cutV_butlast (xs : List V) (v : V) : cutV (xs ++ [v]) none (some (-1)) = xs := by
  unfold cutV HT.sIx
  simp only [List.drop_zero, Nat.sub_zero]
  rw [if_pos (by decide), List.length_append, List.length_singleton, show (-1 + ((xs.length + 1 : Nat) : Int)).toNat = xs.length by omega]
  exact List.take_left' rfl
/-- a pile as the law keeps it: the next one last -/
abbrev pil (W : List Item) : List Tx := (W.map Item.tx).reverse
def nxtW (t : Item) (W : List Item) : List (Tx × List Tx) := (nextL t).map fun x => (x.1, pil (x.2 ++ W))
def sp_ln : Sp := fun vs H Q _ => ∃ (p : Addr) (t : Item) (W : List Item), vs = [.ref p] ∧ wordy t = true ∧ H p = some (.lst (sts (pil (t :: W)))) ∧ W.length ≤ 50000 ∧ ∀ H' l xs, Same H H' → H' l = some (.lst xs) → PrL H' (nxtW t W) xs → Q (.ref l) H'
theorem ok_law_next (T : Txt K mg A) : Cl P w K mg base CX0 1 "_law_next" sp_ln := by
  refine T.f__law_next.cl sc__law_next (fun vs H Q E h => ?_) (fun f cdv A' outer s H vs Q E hr h => ?_)
  · obtain ⟨p, t, W, rfl, _⟩ := h; rfl
  obtain ⟨p, t, W, rfl, ht, hp, hW, q⟩ := h
  refine ⟨_, (pss_cons (ps_set (i := 1) sc__law_next.nd rfl (Or.inl rfl) (pe_ix ix_list (pv 0) (pe_un un_neg pe_int) (fun _ _ => rfl))) (pss_cons (ps_set (i := 2) sc__law_next.nd rfl (Or.inr rfl) (pe_slice sl_list (pv 0) po_none (po_some (pe_un un_neg pe_int)))) (pss_cons (ps_if (pt_cmpR op_eq (pv 1) pe_str (nomark _)) (pss_cons (ps_set (i := 3) sc__law_next.nd rfl (Or.inl rfl) (pe_lst (pa_cons pe_str (pa_cons pe_str (pa_cons pe_str pa_nil))))) (pss_cons (ps_set (i := 4) sc__law_next.nd rfl (Or.inl rfl) (pe_lst (pa_cons (pe_tup (pa_cons pe_str (pa_cons (pe_lst pa_nil) pa_nil))) (pa_cons (pe_tup (pa_cons pe_str (pa_cons (pe_lst (pa_cons pe_str (pa_cons pe_str pa_nil))) pa_nil))) (pa_cons (pe_tup (pa_cons pe_str (pa_cons (pe_slice sl_list (pv 3) po_none (po_some pe_int)) pa_nil))) (pa_cons (pe_tup (pa_cons pe_str (pa_cons (pe_slice sl_list (pv 3) po_none (po_some pe_int)) pa_nil))) pa_nil)))))) (pss_cons (ps_set (i := 4) sc__law_next.nd rfl (Or.inl rfl) (pe_op op_cat (pv 4) (pe_lst (pa_cons (pe_tup (pa_cons pe_str (pa_cons (pe_op op_cat (pv 3) (pe_lst (pa_cons pe_str pa_nil))) pa_nil))) (pa_cons (pe_tup (pa_cons pe_str (pa_cons (pe_op op_cat (pv 3) (pe_lst (pa_cons pe_str pa_nil))) pa_nil))) pa_nil))))) (pss_cons (ps_set (i := 4) sc__law_next.nd rfl (Or.inl rfl) (pe_op op_cat (pv 4) (pe_lst (pa_cons (pe_tup (pa_cons pe_str (pa_cons (pe_op op_cat (pv 3) (pe_lst (pa_cons pe_str (pa_cons pe_str (pa_cons pe_str pa_nil))))) pa_nil))) (pa_cons (pe_tup (pa_cons pe_str (pa_cons (pe_op op_cat (pv 3) (pe_lst (pa_cons pe_str pa_nil))) pa_nil))) pa_nil))))) (pss_cons (ps_set (i := 4) sc__law_next.nd rfl (Or.inl rfl) (pe_op op_cat (pv 4) (pe_lst (pa_cons (pe_tup (pa_cons pe_str (pa_cons (pe_op op_cat (pv 3) (pe_lst (pa_cons pe_str (pa_cons pe_str (pa_cons pe_str pa_nil))))) pa_nil))) (pa_cons (pe_tup (pa_cons pe_str (pa_cons (pe_op op_cat (pv 3) (pe_lst (pa_cons pe_str pa_nil))) pa_nil))) pa_nil))))) (pss_one (ps_expr (pe_bm PySem.F.plainAttrs_list PySem.F.slot_list_append PySem.F.type_list_append mt_append (pv 4) (pa_cons (pe_tup (pa_cons pe_str (pa_cons (pe_op op_cat (pv 3) (pe_lst (pa_cons pe_str pa_nil))) pa_nil))) pa_nil))))))))) (pss_one (ps_if (pt_cmpR op_eq (pv 1) pe_str (nomark _)) (pss_cons (ps_set (i := 4) sc__law_next.nd rfl (Or.inl rfl) (pe_lst (pa_cons (pe_tup (pa_cons pe_str (pa_cons (pe_lst pa_nil) pa_nil))) (pa_cons (pe_tup (pa_cons pe_str (pa_cons (pe_lst pa_nil) pa_nil))) (pa_cons (pe_tup (pa_cons pe_str (pa_cons (pe_lst (pa_cons pe_str (pa_cons pe_str (pa_cons pe_str (pa_cons pe_str pa_nil))))) pa_nil))) (pa_cons (pe_tup (pa_cons pe_str (pa_cons (pe_lst (pa_cons pe_str pa_nil)) pa_nil))) pa_nil)))))) (pss_one (ps_set (i := 4) sc__law_next.nd rfl (Or.inl rfl) (pe_op op_cat (pv 4) (pe_lst (pa_cons (pe_tup (pa_cons pe_str (pa_cons (pe_lst (pa_cons pe_str (pa_cons pe_str (pa_cons pe_str (pa_cons pe_str pa_nil))))) pa_nil))) (pa_cons (pe_tup (pa_cons pe_str (pa_cons (pe_lst (pa_cons pe_str (pa_cons pe_str (pa_cons pe_str (pa_cons pe_str pa_nil))))) pa_nil))) pa_nil))))))) (pss_one (ps_if (pt_cmpR op_eq (pv 1) pe_str (nomark _)) (pss_one (ps_set (i := 4) sc__law_next.nd rfl (Or.inl rfl) (pe_lst (pa_cons (pe_tup (pa_cons pe_str (pa_cons (pe_lst pa_nil) pa_nil))) (pa_cons (pe_tup (pa_cons pe_str (pa_cons (pe_lst pa_nil) pa_nil))) pa_nil))))) (pss_one (ps_set (i := 4) sc__law_next.nd rfl (Or.inl rfl) (pe_lst (pa_cons (pe_tup (pa_cons pe_str (pa_cons (pe_lst pa_nil) pa_nil))) (pa_cons (pe_tup (pa_cons pe_str (pa_cons (pe_lst pa_nil) pa_nil))) (pa_cons (pe_tup (pa_cons pe_str (pa_cons (pe_lst pa_nil) pa_nil))) pa_nil))))))))))) (pss_one (ps_ret (pe_lc (own := [("_law_text_here", 5), ("_law_more", 3)]) (g := gTup K 2 (gCons (gName 5) (gCons (gName 3) gNil))) rfl sc__law_next.nd (pi_list (pv 4)) (blkOk_by (own := [("_law_text_here", 5), ("_law_more", 3)]) (N := N__law_next) (sc := defScope s__law_next) (by decide +kernel)) (fun _ _ _ _ _ => pg_tup rfl (pgs_cons (pg_name (i := 5) sc__law_next.nd rfl (Or.inl rfl)) (pgs_cons (pg_name (i := 3) sc__law_next.nd rfl (Or.inl rfl)) pgs_nil))) (fun _ _ _ _ _ => pts_nil) (fun _ _ _ _ _ => (pe_tup (pa_cons (pv 5) (pa_cons (pe_op op_cat (pv 2) (pv 3)) pa_nil)))))))))), ?_⟩
  have hl : (sts (pil (t :: W))).length = W.length + 1 := by simp
  have hlast : sts (pil (t :: W)) = sts (pil W) ++ [.str (S t.tx)] := by simp
  have el : ∀ {σ : L2.St} {H1 : Hp}, Same H H1 → σ[0]? = some (some (.ref p)) → Evl.Ev (tOp (rIxL K) (tVar 0) (tUn (rU fun i => .int (-i)) (tC (.int 1)))) σ H1 (.str (S t.tx)) := fun s1 hs => ev_refl fun H2 e2 Q1 q1 =>
    ⟨_, hs, _, rfl, p, _, _, _, rfl, rfl, Evl.sq_of (e2 _ _ (s1 _ _ hp)), by rw [hlast]; exact atI_last _ _, q1⟩
  refine Evl.q_asg (el (Same.refl _) rfl) (fun H1 e1 => ?_)
  refine Evl.q_asgL (xs := sts (pil W)) (fun H2 e2 Q2 q2 => ?_) (fun pr H2 n2 e2 h2 => ?_)
  · refine ⟨_, rfl, _, rfl, _, rfl, p, _, rfl, Evl.sq_of (e2 _ _ (e1 _ _ hp)), fun l nl => ?_⟩
    refine q2 l _ nl (Evl.Ex.new nl) ?_
    rw [upd_same, hlast, cutV_butlast]
  have s2 : Same H H2 := e1.trans e2
  -- the end, from the words that may come
  have fin : ∀ (D : L2.Ends) (H3 : Hp) (σ : L2.St) (b : Addr) (xs : List V), D.rt = Q → Same H2 H3 → σ.length = 6 → σ[2]? = some (some (.ref pr)) → σ[4]? = some (some (.ref b)) → H3 b = some (.lst xs) → PrL H3 ((nextL t).map fun x => (x.1, pil x.2)) xs →
      tRet (tLc (iList K (tVar 4)) (gTup K 2 (gCons (gName 5) (gCons (gName 3) gNil))) tYes (tTup (tCons (tVar 5) (tCons (tOp rCat (tVar 2) (tVar 3)) tNil))) [5, 3]) D σ H3 := by
    intro D H3 σ b xs eD s3 hlen hσ2 hσ4 hb hx
    have ln : (nextL t).length ≤ 11 := by cases t <;> decide
    have lx : xs.length ≤ 11 := by rw [hx.length, List.length_map]; exact ln
    have pw : ∀ x ∈ nextL t, x.2.length ≤ 6 := by cases t <;> decide
    have e2 : (wipe σ [5, 3])[2]? = some (some (.ref pr)) := by
      match σ, hlen, hσ2 with
      | [s0, s1, s2, s3, s4, s5], _, h => exact h
    refine ⟨_, hσ4, b, rfl, ⟨_, Evl.sq_of hb⟩, fun Dl hD => ?_⟩
    refine lc_list (xs := xs) (fun i H' => Same H3 H' ∧ ∃ acc, H' Dl = some (.lst acc) ∧ acc.length = i ∧ PrL (del H' Dl) (((nextL t).take i).map fun x => (x.1, pil (x.2 ++ W))) acc) ⟨Same.new hD, [], upd_same, rfl, rfl⟩ (fun i H' _ pp => Evl.sq_of (pp.1 _ _ hb)) (fun i x H' hi pp => ?_) (fun H' pp => ?_)
    · obtain ⟨s4, acc, hacc, hal, hpl⟩ := pp
      have il : i < xs.length := (List.getElem?_eq_some_iff.mp hi).1
      obtain ⟨y, hy, hpr⟩ := hx.get hi
      rw [List.getElem?_map] at hy
      have ilt : i < (nextL t).length := by rw [hx.length, List.length_map] at il; exact il
      rw [List.getElem?_eq_getElem ilt] at hy
      cases hy
      obtain ⟨a, pl, rfl, ha, hp2⟩ := hpr.up s4
      refine ⟨a, _, rfl, SqT.of ha, rfl, _, _, rfl, _, _, rfl, rfl, ?_⟩
      refine ⟨?_, ?_⟩
      · match σ, hlen with | [s0, s1, s2, s3, s4, s5], _ => rfl
      have g5 : (((wipe σ [5, 3]).set 5 (some (.str (S ((nextL t)[i]).1)))).set 3 (some (.ref pl)))[5]? = some (some (.str (S ((nextL t)[i]).1))) := by
        match σ, hlen with | [s0, s1, s2, s3, s4, s5], _ => rfl
      have g3 : (((wipe σ [5, 3]).set 5 (some (.str (S ((nextL t)[i]).1)))).set 3 (some (.ref pl)))[3]? = some (some (.ref pl)) := by
        match σ, hlen with | [s0, s1, s2, s3, s4, s5], _ => rfl
      have g2 : (((wipe σ [5, 3]).set 5 (some (.str (S ((nextL t)[i]).1)))).set 3 (some (.ref pl)))[2]? = some (some (.ref pr)) := by
        match σ, hlen, hσ2 with | [s0, s1, s2, s3, s4, s5], _, h => exact h
      have hpr2 : H' pr = some (.lst (sts (pil W))) := s4 _ _ (s3 _ _ h2)
      have pw1 := pw _ (List.getElem_mem ilt)
      refine ⟨_, g5, _, g2, _, g3, pr, pl, _, _, rfl, rfl, hpr2, hp2, Nat.le_trans (show (sts (pil W)).length + (sts (pil ((nextL t)[i]).2)).length ≤ 60000 by simp; omega) (by decide), fun l nl => ?_⟩
      have s5 : Same H' (upd H' l (.lst (sts (pil W) ++ sts (pil ((nextL t)[i]).2)))) := Same.new nl
      have h5 : (upd H' l (.lst (sts (pil W) ++ sts (pil ((nextL t)[i]).2)))) l = some (.lst (sts (pil W) ++ sts (pil ((nextL t)[i]).2))) := upd_same
      have nlD : l ≠ Dl := fun z => by rw [z, hacc] at nl; cases nl
      generalize upd H' l (.lst (sts (pil W) ++ sts (pil ((nextL t)[i]).2))) = H5 at s5 h5 ⊢
      refine ⟨(by show 2 ≤ sizeLine; decide), fun r nr => ?_⟩
      have nrD : r ≠ Dl := fun z => by rw [z, s5 _ _ hacc] at nr; cases nr
      have nrl : r ≠ l := fun z => by rw [z, h5] at nr; cases nr
      have s6 : Same H5 (upd H5 r (.tup [.str (S ((nextL t)[i]).1), .ref l])) := Same.new nr
      have h6 : (upd H5 r (.tup [.str (S ((nextL t)[i]).1), .ref l])) r = some (.tup [.str (S ((nextL t)[i]).1), .ref l]) := upd_same
      generalize upd H5 r (.tup [.str (S ((nextL t)[i]).1), .ref l]) = H6 at s6 h6 ⊢
      refine ⟨acc, s6 _ _ (s5 _ _ hacc), Nat.lt_of_lt_of_le (show acc.length < 100000 by omega) (by decide), Evl.Ex.mut (Evl.Ex.trans s4 (Evl.Ex.trans s5 s6)) hD, _, upd_same, by rw [List.length_append, hal]; rfl, ?_⟩
      have ed : del (upd H6 Dl (.lst (acc ++ [.ref r]))) Dl = del H6 Dl := by
        funext q
        by_cases hq : q = Dl
        · subst hq; simp [del]
        · rw [del_ne hq, del_ne hq, upd_ne hq]
      rw [ed, List.take_succ_eq_append_getElem ilt, List.map_append]
      have sd : Same (del H' Dl) (del H6 Dl) := fun q o e => by
        by_cases hq : q = Dl
        · subst hq; simp [del] at e
        · rw [del_ne hq] at e ⊢; exact s6 _ _ (s5 _ _ e)
      refine (hpl.up sd).app ⟨_, [], rfl, ⟨r, l, rfl, by rw [del_ne nrD]; exact h6, ?_⟩, rfl⟩
      rw [del_ne nlD, s6 _ _ h5]
      simp [pil]
    · obtain ⟨s4, acc, hacc, hal, hpl⟩ := pp
      rw [eD]
      have hle : (nextL t).length ≤ xs.length := by rw [hx.length, List.length_map]; exact Nat.le_refl _
      rw [List.take_of_length_le hle] at hpl
      exact q H' Dl acc (s2.trans (s3.trans s4)) hacc (hpl.up (fun q o e => by
        by_cases hq : q = Dl
        · subst hq; simp [del] at e
        · rw [del_ne hq] at e; exact e))
  have eqt : ∀ {σ : L2.St} {H1 : Hp} {x : Str} {y : Tx}, x = S y → σ[1]? = some (some (.str (S t.tx))) → Evl.EvT (tTest (tOp rEq (tVar 1) (tC (.str x)))) σ H1 (decide (t.tx = y)) := fun hx hs => et_refl fun H2 _ Q1 q1 => ⟨_, hs, rfl, _, rfl, by rw [eqS hx]; exact q1⟩
  have e_deal : ("deal" : Str) = S Item.deal.tx := by decide +kernel
  have e_amount : ("amount" : Str) = S Item.amount.tx := by decide +kernel
  have e_sign : ("sign" : Str) = S Item.sign.tx := by decide +kernel
  have a1 : ∀ {σ : L2.St} {H1 : Hp} {x : Str} {t : Tx}, x = S t → Evl.Ev (tC (.str x)) σ H1 (.str (S t)) := fun e => by rw [e]; exact Evl.ev_c
  have sg : ∀ {σ : L2.St} {H1 : Hp}, EvS (tLst tNil) σ H1 [] := fun {σ H1} => es_lst (ts := []) Evl.ea_nil (by decide)
  cases t with
  | deal =>
    refine Evl.q_if (eqt e_deal rfl) (fun _ H3 e3 => ?_) (fun hb => by simp at hb)
    refine es_set (ts := [Item.close.tx, Item.deal.tx, Item.comma.tx]) (es_lst (Evl.ea_cons (a1 (by decide +kernel)) (Evl.ea_cons (a1 (by decide +kernel)) (Evl.ea_cons (a1 (by decide +kernel)) Evl.ea_nil))) (by decide)) (fun pm H4 s4 hm => ?_)
    have tk : ∀ {σ : L2.St} {H1 : Hp}, σ[3]? = some (some (.ref pm)) → H1 pm = some (.lst (sts [Item.close.tx, Item.deal.tx, Item.comma.tx])) → EvS (tSl (rSlL K) (tVar 3) tNoPart (tPart (tC (.int 2)))) σ H1 [Item.close.tx, Item.deal.tx] := fun hs h => es_take 2 hs h
    have ct : ∀ {σ : L2.St} {H1 : Hp} {ta : TA} {ts : List Tx}, σ[3]? = some (some (.ref pm)) → H1 pm = some (.lst (sts [Item.close.tx, Item.deal.tx, Item.comma.tx])) → Evl.EvA ta σ H1 (sts ts) → ts.length ≤ 10 → EvS (tOp rCat (tVar 3) (tLst ta)) σ H1 ([Item.close.tx, Item.deal.tx, Item.comma.tx] ++ ts) := fun hs h ha hl => es_cat (es_var hs h) (es_lst ha (by omega)) (by simp; omega)
    refine ew_set (ws := [(Word.none.tx, []), (Word.coin.tx ++ tOpen, [Item.close.tx, Item.amount.tx]), (Word.give.tx ++ tOpen, [Item.close.tx, Item.deal.tx]), (Word.any.tx ++ tOpen, [Item.close.tx, Item.deal.tx])])
      (ew_lst (eps_cons (ep_tup (by decide +kernel) sg) (eps_cons (ep_tup (by decide +kernel) (es_lst (Evl.ea_cons (a1 (by decide +kernel)) (Evl.ea_cons (a1 (by decide +kernel)) Evl.ea_nil)) (by decide))) (eps_cons (ep_tup (by decide +kernel) (tk rfl hm)) (eps_cons (ep_tup (by decide +kernel) (tk rfl hm)) eps_nil)))) (by decide)) (fun b5 x5 H5 n5 s5 h5 p5 => ?_)
    have hm5 := s5 _ _ hm
    refine ew_set (ew_cat (b := [(Word.both.tx ++ tOpen, [Item.close.tx, Item.deal.tx, Item.comma.tx] ++ [Item.deal.tx]), (Word.either.tx ++ tOpen, [Item.close.tx, Item.deal.tx, Item.comma.tx] ++ [Item.deal.tx])]) rfl h5 (p5.up del_in)
      (ew_lst (eps_cons (ep_tup (by decide +kernel) (ct rfl hm5 (Evl.ea_cons (a1 (by decide +kernel)) Evl.ea_nil) (by decide))) (eps_cons (ep_tup (by decide +kernel) (ct rfl hm5 (Evl.ea_cons (a1 (by decide +kernel)) Evl.ea_nil) (by decide))) eps_nil)) (by decide)) (by decide)) (fun b6 x6 H6 n6 s6 h6 p6 => ?_)
    have hm6 := s6 _ _ hm5
    refine ew_set (ew_cat (b := [(Word.once.tx ++ tOpen, [Item.close.tx, Item.deal.tx, Item.comma.tx] ++ [Item.amount.tx, Item.sign.tx, Item.amount.tx]), (Word.by.tx ++ tOpen, [Item.close.tx, Item.deal.tx, Item.comma.tx] ++ [Item.share.tx])]) rfl h6 (p6.up del_in)
      (ew_lst (eps_cons (ep_tup (by decide +kernel) (ct rfl hm6 (Evl.ea_cons (a1 (by decide +kernel)) (Evl.ea_cons (a1 (by decide +kernel)) (Evl.ea_cons (a1 (by decide +kernel)) Evl.ea_nil))) (by decide))) (eps_cons (ep_tup (by decide +kernel) (ct rfl hm6 (Evl.ea_cons (a1 (by decide +kernel)) Evl.ea_nil) (by decide))) eps_nil)) (by decide)) (by decide)) (fun b7 x7 H7 n7 s7 h7 p7 => ?_)
    have hm7 := s7 _ _ hm6
    refine ew_set (ew_cat (b := [(Word.until.tx ++ tOpen, [Item.close.tx, Item.deal.tx, Item.comma.tx] ++ [Item.amount.tx, Item.sign.tx, Item.amount.tx]), (Word.later.tx ++ tOpen, [Item.close.tx, Item.deal.tx, Item.comma.tx] ++ [Item.f1.tx])]) rfl h7 (p7.up del_in)
      (ew_lst (eps_cons (ep_tup (by decide +kernel) (ct rfl hm7 (Evl.ea_cons (a1 (by decide +kernel)) (Evl.ea_cons (a1 (by decide +kernel)) (Evl.ea_cons (a1 (by decide +kernel)) Evl.ea_nil))) (by decide))) (eps_cons (ep_tup (by decide +kernel) (ct rfl hm7 (Evl.ea_cons (a1 (by decide +kernel)) Evl.ea_nil) (by decide))) eps_nil)) (by decide)) (by decide)) (fun b8 x8 H8 n8 s8 h8 p8 => ?_)
    have hm8 := s8 _ _ hm7
    have s28 : Same H2 H8 := (((((Same.trans e3 s4).trans s5).trans s6).trans s7).trans s8)
    have nb8 : H2 b8 = none := Evl.fresh_back (p := b8) (((((Same.trans e3 s4).trans s5).trans s6).trans s7)) n8
    -- the last word
    refine ⟨_, rfl, .inl ⟨rfl, _, Evl.sq_of h8⟩, ?_⟩
    refine ⟨_, rfl, ?_⟩
    refine ⟨(by show 1 ≤ sizeLine; decide), fun l1 n1 => ?_⟩
    have e9 : Same H8 (upd H8 l1 (.lst [.str "amount"])) := Same.new n1
    have k9 : (upd H8 l1 (.lst [.str "amount"])) l1 = some (.lst [.str "amount"]) := upd_same
    generalize upd H8 l1 (.lst [.str "amount"]) = H9 at e9 k9 ⊢
    refine ⟨pm, l1, _, _, rfl, rfl, e9 _ _ hm8, k9, by decide, fun l2 n2' => ?_⟩
    have e10 : Same H9 (upd H9 l2 (.lst (sts [Item.close.tx, Item.deal.tx, Item.comma.tx] ++ [.str "amount"]))) := Same.new n2'
    have k10 : (upd H9 l2 (.lst (sts [Item.close.tx, Item.deal.tx, Item.comma.tx] ++ [.str "amount"]))) l2 = some (.lst (sts [Item.close.tx, Item.deal.tx, Item.comma.tx] ++ [.str "amount"])) := upd_same
    have nl2 : l2 ≠ b8 := fun z => by rw [z, e9 _ _ h8] at n2'; cases n2'
    generalize upd H9 l2 (.lst (sts [Item.close.tx, Item.deal.tx, Item.comma.tx] ++ [.str "amount"])) = H10 at e10 k10 ⊢
    refine ⟨(by show 2 ≤ sizeLine; decide), fun r nr => ?_⟩
    have e11 : Same H10 (upd H10 r (.tup [.str "scale(", .ref l2])) := Same.new nr
    have k11 : (upd H10 r (.tup [.str "scale(", .ref l2])) r = some (.tup [.str "scale(", .ref l2]) := upd_same
    have nrb : r ≠ b8 := fun z => by rw [z, e10 _ _ (e9 _ _ h8)] at nr; cases nr
    generalize upd H10 r (.tup [.str "scale(", .ref l2]) = H11 at e11 k11 ⊢
    have s811 : Same H8 H11 := (Same.trans e9 e10).trans e11
    have lx8 : x8.length < 100000 := by rw [p8.length]; decide
    refine ⟨b8, x8, .ref r, rfl, rfl, s811 _ _ h8, Nat.lt_of_lt_of_le lx8 (by decide), ?_⟩
    refine fin _ _ _ b8 (x8 ++ [.ref r]) rfl (Evl.Ex.mut (Evl.Ex.trans s28 s811) nb8) rfl rfl rfl upd_same ?_
    refine PrL.up (H := del H11 b8) (fun q o e => ?_) (PrL.app (a := _) (b := [(Word.scale.tx ++ tOpen, [Item.close.tx, Item.deal.tx, Item.comma.tx] ++ [Item.amount.tx])]) (p8.up (del_up s811)) ⟨_, [], rfl, ⟨r, l2, rfl, ?_, ?_⟩, rfl⟩)
    · by_cases hq : q = b8
      · subst hq; rw [del_same] at e; cases e
      · rw [del_ne hq] at e; rw [upd_ne hq]; exact e
    · rw [del_ne nrb, k11]
      exact congrArg (fun x : Str => some (HO.tup [.str x, .ref l2])) (by decide +kernel)
    · rw [del_ne nl2, e11 _ _ k10]
      exact congrArg (fun x : Str => some (HO.lst (sts [Item.close.tx, Item.deal.tx, Item.comma.tx] ++ [.str x]))) (show ("amount" : Str) = S Item.amount.tx by decide +kernel)
  | amount =>
    refine Evl.q_if (eqt e_deal rfl) (fun hb => by simp [Item.tx] at hb) (fun _ H3 e3 => ?_)
    refine Evl.s_if (eqt e_amount rfl) (fun _ H4 e4 => ?_) (fun hb => by simp at hb)
    refine ew_set (ws := [(Word.price.tx, []), (Word.time.tx, []), (Word.most.tx ++ tOpen, [Item.close.tx, Item.amount.tx, Item.comma.tx, Item.amount.tx]), ([], [Item.f10.tx])])
      (ew_lst (eps_cons (ep_tup (by decide +kernel) sg) (eps_cons (ep_tup (by decide +kernel) sg) (eps_cons (ep_tup (by decide +kernel) (es_lst (Evl.ea_cons (a1 (by decide +kernel)) (Evl.ea_cons (a1 (by decide +kernel)) (Evl.ea_cons (a1 (by decide +kernel)) (Evl.ea_cons (a1 (by decide +kernel)) Evl.ea_nil)))) (by decide))) (eps_cons (ep_tup (by decide +kernel) (es_lst (Evl.ea_cons (a1 (by decide +kernel)) Evl.ea_nil) (by decide))) eps_nil)))) (by decide)) (fun b5 x5 H5 n5 s5 h5 p5 => ?_)
    refine ew_set1 (ew_cat (b := [(Word.least.tx ++ tOpen, [Item.close.tx, Item.amount.tx, Item.comma.tx, Item.amount.tx]), (tOpen, [Item.close.tx, Item.amount.tx, Item.pair.tx, Item.amount.tx])]) rfl h5 (p5.up del_in)
      (ew_lst (eps_cons (ep_tup (by decide +kernel) (es_lst (Evl.ea_cons (a1 (by decide +kernel)) (Evl.ea_cons (a1 (by decide +kernel)) (Evl.ea_cons (a1 (by decide +kernel)) (Evl.ea_cons (a1 (by decide +kernel)) Evl.ea_nil)))) (by decide))) (eps_cons (ep_tup (by decide +kernel) (es_lst (Evl.ea_cons (a1 (by decide +kernel)) (Evl.ea_cons (a1 (by decide +kernel)) (Evl.ea_cons (a1 (by decide +kernel)) (Evl.ea_cons (a1 (by decide +kernel)) Evl.ea_nil)))) (by decide))) eps_nil)) (by decide)) (by decide)) (fun b6 x6 H6 n6 s6 h6 p6 => ?_)
    exact fin _ _ _ b6 x6 rfl (((Same.trans e3 e4).trans s5).trans s6) rfl rfl rfl h6 (p6.up del_in)
  | sign =>
    refine Evl.q_if (eqt e_deal rfl) (fun hb => by simp [Item.tx] at hb) (fun _ H3 e3 => ?_)
    refine Evl.s_if (eqt e_amount rfl) (fun hb => by simp [Item.tx] at hb) (fun _ H4 e4 => ?_)
    refine Evl.s_if (eqt e_sign rfl) (fun _ H5 e5 => ?_) (fun hb => by simp at hb)
    refine ew_set1 (ws := [(Mk.below.tx, []), (Mk.upto.tx, [])]) (ew_lst (eps_cons (ep_tup (by decide +kernel) sg) (eps_cons (ep_tup (by decide +kernel) sg) eps_nil)) (by decide)) (fun b6 x6 H6 n6 s6 h6 p6 => ?_)
    exact fin _ _ _ b6 x6 rfl (((Same.trans e3 e4).trans e5).trans s6) rfl rfl rfl h6 (p6.up del_in)
  | pair =>
    refine Evl.q_if (eqt e_deal rfl) (fun hb => by simp [Item.tx] at hb) (fun _ H3 e3 => ?_)
    refine Evl.s_if (eqt e_amount rfl) (fun hb => by simp [Item.tx] at hb) (fun _ H4 e4 => ?_)
    refine Evl.s_if (eqt e_sign rfl) (fun hb => by simp [Item.tx] at hb) (fun _ H5 e5 => ?_)
    refine ew_set1 (ws := [(Mk.plus.tx, []), (Mk.minus.tx, []), (Mk.times.tx, [])]) (ew_lst (eps_cons (ep_tup (by decide +kernel) sg) (eps_cons (ep_tup (by decide +kernel) sg) (eps_cons (ep_tup (by decide +kernel) sg) eps_nil))) (by decide)) (fun b6 x6 H6 n6 s6 h6 p6 => ?_)
    exact fin _ _ _ b6 x6 rfl (((Same.trans e3 e4).trans e5).trans s6) rfl rfl rfl h6 (p6.up del_in)
  | share => cases ht
  | f1 => cases ht
  | f10 => cases ht
  | close => cases ht
  | comma => cases ht
end
end K06
end Sec_L3
section Sec_L4
set_option Elab.async false
set_option linter.all false
set_option maxRecDepth 100000
set_option maxHeartbeats 4000000
namespace K06
open PySem PySem.Spec PyProof.Rows L2
open SX (S)
section
variable {P : Program} {w : World} {K : PySem.W.Frag} {mg : Str → Option Value} {base : Heap} {A : Ads}
def LwQ (g : List Item → List Tx) (i : Nat) (Q : VK) (H : Hp) (x : Nat × Option (List Item)) : Prop := match x with
  | (k, some p) => ∀ H' v pl, Same H H' → H' v = some (.tup [.int ((i + k : Nat) : Int), .ref pl]) → H' pl = some (.lst (sts (g p))) → Q (.ref v) H'
  | (k, none) => ∀ H' v, Same H H' → H' v = some (.tup [.int ((i + k : Nat) : Int), .non]) → Q (.ref v) H'
def sp_lw : Sp := fun vs H Q _ => ∃ (z : Tx) (i : Nat) (l : Addr) (xs : List V) (ws : List (Tx × List Item)) (g : List Item → List Tx), vs = [.str (S z), .int (i : Nat), .ref l] ∧ z.length ≤ 3000 ∧ i ≤ z.length ∧ H l = some (.lst xs) ∧ PrL H (ws.map fun x => (x.1, g x.2)) xs ∧ (∀ x ∈ ws, x.1.length ≤ 1000) ∧ LwQ g i Q H (lw (z.drop i) ws 0)
theorem s_forLx {σ : L2.St} {H : Hp} {tl : TE} {g : TG} {tu : TS} {D : Ends} {a : Addr} {xs : List V} (h : Evl.Ev tl σ H (.ref a)) (hx : H a = some (.lst xs)) (Pv : Nat → L2.St → Hp → Prop) (h0 : ∀ H1, Same H H1 → Pv 0 σ H1) (hl : ∀ i σ' H', Pv i σ' H' → Same H H')
    (hs : ∀ (i : Nat) x σ' H', xs[i]? = some x → Pv i σ' H' → g x σ' H' fun σ2 H2 => tu { D with nx := Pv (i + 1), ct := Pv (i + 1), bk := D.nx } σ2 H2) (hd : ∀ σ' H', Pv xs.length σ' H' → D.nx σ' H') : tFor (iList K tl) g tu D σ H :=
  Evl.s_forL (K := K) h (Evl.sq_of hx) Pv h0 (fun i σ' H' _ p => Evl.sq_of (hl i σ' H' p _ _ hx)) hs hd
theorem q_forLx {σ : L2.St} {H : Hp} {tl : TE} {g : TG} {tu tz : TS} {D : Ends} {a : Addr} {xs : List V} (h : Evl.Ev tl σ H (.ref a)) (hx : H a = some (.lst xs)) (Pv : Nat → L2.St → Hp → Prop) (h0 : ∀ H1, Same H H1 → Pv 0 σ H1) (hl : ∀ i σ' H', Pv i σ' H' → Same H H')
    (hs : ∀ (i : Nat) x σ' H', xs[i]? = some x → Pv i σ' H' → g x σ' H' fun σ2 H2 => tu { D with nx := Pv (i + 1), ct := Pv (i + 1), bk := tz D } σ2 H2) (hd : ∀ σ' H', Pv xs.length σ' H' → tz D σ' H') : tSeq (tFor (iList K tl) g tu) tz D σ H :=
  s_forLx (K := K) (D := { D with nx := tz D }) h hx Pv h0 hl hs hd
theorem ok_law_word (T : Txt K mg A) : Cl P w K mg base CX0 1 "_law_word" sp_lw := by
  refine T.f__law_word.cl sc__law_word (fun vs H Q E h => ?_) (fun f cdv A' outer s H vs Q E hr h => ?_)
  · obtain ⟨z, i, l, xs, ws, g, rfl, _⟩ := h; rfl
  obtain ⟨z, i, l, xs, ws, g, rfl, hz, hi, hl, hx, hlen, q⟩ := h
  refine ⟨_, (pss_cons (ps_set (i := 3) sc__law_word.nd rfl (Or.inl rfl) (pv 1)) (pss_cons (ps_for PassesOwn.never rfl (pi_list (pv 2)) (pg_tup rfl (pgs_cons (pg_name (i := 4) sc__law_word.nd rfl (Or.inl rfl)) (pgs_cons (pg_name (i := 5) sc__law_word.nd rfl (Or.inl rfl)) pgs_nil))) (pss_cons (ps_if (PW.pt (pw_and (pt_cmpR op_eq (pv 4) pe_str (nomark _)) (pw_and (pt_cmpR op_ne (pe_slice sl_str (pv 0) (po_some (pv 1)) (po_some (pe_op op_add (pv 1) pe_int))) pe_str (nomark _)) (pw_and1 (pt_cmpR op_in_sign (pe_slice sl_str (pv 0) (po_some (pv 1)) (po_some (pe_op op_add (pv 1) pe_int))) pe_str (by rfl)))))) (pss_one (ps_ret (pe_tup (pa_cons (pv 1) (pa_cons (pv 5) pa_nil))))) pss_nil) (pss_one (ps_if (pt_cmpR op_ne (pv 4) pe_str (nomark _)) (pss_cons (ps_set (i := 6) sc__law_word.nd rfl (Or.inl rfl) pe_int) (pss_cons (ps_while PassesOwn.never (PW.pt (pw_and (pt_cmpR op_lt (pv 6) (pe_callB call_len_str (by rfl) T.z_len (by decide +kernel) (pa_cons (pv 4) pa_nil)) (nomark _)) (pw_and1 (pt_cmpR op_eq (pe_slice sl_str (pv 0) (po_some (pv 1)) (po_some (pe_op op_add (pe_op op_add (pv 1) (pv 6)) pe_int))) (pe_slice sl_str (pv 4) po_none (po_some (pe_op op_add (pv 6) pe_int))) (nomark _))))) (pss_one (ps_set (i := 6) sc__law_word.nd rfl (Or.inl rfl) (pe_op op_add (pv 6) pe_int)))) (pss_cons (ps_if (pt_cmpR op_eq (pv 6) (pe_callB call_len_str (by rfl) T.z_len (by decide +kernel) (pa_cons (pv 4) pa_nil)) (nomark _)) (pss_one (ps_ret (pe_tup (pa_cons (pe_op op_add (pv 1) (pv 6)) (pa_cons (pv 5) pa_nil))))) pss_nil) (pss_one (ps_set (i := 3) sc__law_word.nd rfl (Or.inl rfl) (pe_callB (call_max2 rfl) (by rfl) T.z_max (by decide +kernel) (pa_cons (pv 3) (pa_cons (pe_op op_add (pv 1) (pv 6)) pa_nil)))))))) pss_nil)))) (pss_one (ps_ret (pe_tup (pa_cons (pv 3) (pa_cons pe_non pa_nil))))))), ?_⟩
  generalize hr0 : z.drop i = r at q
  have cutk : ∀ k, cutS (S z) (some (i : Int)) (some ((i + k : Nat) : Int)) = S (r.take k) := fun k => by rw [cut_mid, hr0, show i + k - i = k by omega]
  have e1 : (i : Int) + 1 = ((i + 1 : Nat) : Int) := by omega
  refine Evl.q_asg (v := .int ((i + 0 : Nat) : Int)) (ev_refl fun H1 _ Q1 q1 => ⟨_, rfl, q1⟩) (fun H1 s1 => ?_)
  have xl : xs.length = ws.length := by rw [hx.length, List.length_map]
  refine q_forLx (K := K) (Evl.ev_var rfl) (s1 _ _ hl) (fun j σ' H' => Same H1 H' ∧ ∃ m o4 o5 o6, lw r ws 0 = lw r (ws.drop j) m ∧ σ' = [some (.str (S z)), some (.int (i : Nat)), some (.ref l), some (.int ((i + m : Nat) : Int)), o4, o5, o6]) (fun H2 s2 => ⟨s2, 0, none, none, none, rfl, rfl⟩) (fun _ _ _ p => p.1) (fun j x σ' H' hj p => ?_) (fun σ' H' p => ?_)
  · obtain ⟨s2, m, o4, o5, o6, em, rfl⟩ := p
    obtain ⟨y, hy, hpr⟩ := hx.get hj
    rw [List.getElem?_map] at hy
    have jl : j < ws.length := by rw [← xl]; exact (List.getElem?_eq_some_iff.mp hj).1
    rw [List.getElem?_eq_getElem jl] at hy
    cases hy
    have hdj : ws.drop j = ws[j] :: ws.drop (j + 1) := List.drop_eq_getElem_cons jl
    have s12 : Same H H' := s1.trans s2
    obtain ⟨a, pl, rfl, ha, hpl⟩ := hpr.up s12
    generalize hwj : ws[j] = x at hdj ha hpl
    obtain ⟨u, pi⟩ := x
    have ul : u.length ≤ 1000 := by have := hlen _ (List.getElem_mem jl); rw [hwj] at this; exact this
    refine ⟨a, _, rfl, SqT.of ha, rfl, _, _, rfl, _, _, rfl, rfl, ?_⟩
    -- '' and a figure
    have lwu : lw r (ws.drop j) m = if u = [] then (if isDig r = true then (0, some pi) else lw r (ws.drop (j + 1)) m) else if lcp u r = u.length then (u.length, some pi) else lw r (ws.drop (j + 1)) (max m (lcp u r)) := by rw [hdj]; rfl
    refine Evl.q_when (b := decide (u = []) && isDig r) (et_refl fun H2 e2 Q1 q1 => ?_) (fun hb H2 e2 => ?_) (fun hb H2 e2 => ?_)
    · refine ⟨_, rfl, rfl, _, rfl, ?_⟩
      rw [eqS lit_nil]
      cases hu : decide (u = []) with
      | false => rw [hu] at q1; exact iteF q1
      | true =>
        refine iteT ?_
        rw [hu, Bool.true_and] at q1
        refine ⟨_, rfl, _, rfl, _, rfl, _, rfl, _, _, rfl, rfl, _, rfl, _, rfl, small _ (by rw [S_size]; omega), rfl, _, rfl, ?_⟩
        rw [e1, cutk, eqS lit_nil]
        cases r with
        | nil => exact iteF q1
        | cons c r =>
          refine iteT ?_
          refine ⟨_, rfl, _, rfl, _, rfl, _, rfl, _, _, rfl, rfl, _, rfl, _, rfl, small _ (by rw [S_size]; omega), ?_⟩
          rw [e1, cutk]
          refine ⟨c, _, rfl, rfl, _, rfl, ?_⟩
          rw [figs_in]
          exact q1
    · rw [Bool.and_eq_true, decide_eq_true_eq] at hb
      refine ⟨_, rfl, _, rfl, (by show 2 ≤ sizeLine; decide), fun p np => ?_⟩
      rw [em, lwu, if_pos hb.1, if_pos hb.2] at q
      exact q _ p pl (s12.trans (Same.trans e2 (Same.new np))) upd_same (Same.new np _ _ (e2 _ _ hpl))
    · have s3 : Same H1 H2 := s2.trans e2
      refine Evl.s_when (b := !decide (u = [])) (et_refl fun H3 e3 Q1 q1 => ⟨_, rfl, rfl, _, rfl, by rw [eqS lit_nil]; exact q1⟩) (fun hu H3 e3 => ?_) (fun hu H3 e3 => ?_)
      · have hu : ¬ u = [] := by rw [Bool.not_eq_true', decide_eq_false_iff_not] at hu; exact hu
        have s4 : Same H1 H3 := s3.trans e3
        have ule := (lcp_le u r).1
        refine Evl.q_asg (v := .int ((0 : Nat) : Int)) Evl.ev_c (fun H4 e4 => ?_)
        refine Evl.q_while (fun mm σ' H' => ∃ n, mm = lcp u r - n ∧ n ≤ lcp u r ∧ Same H3 H' ∧ σ' = [some (.str (S z)), some (.int (i : Nat)), some (.ref l), some (.int ((i + m : Nat) : Int)), some (.str (S u)), some (.ref pl), some (.int (n : Nat))]) (lcp u r) ⟨0, rfl, Nat.zero_le _, e4, rfl⟩ (fun mm σ' H8 hw => ?_)
        obtain ⟨n, rfl, hn, s5, rfl⟩ := hw
        have en : ((n : Nat) : Int) + 1 = ((n + 1 : Nat) : Int) := by omega
        have ein : ((i : Nat) : Int) + (n : Nat) + 1 = ((i + (n + 1) : Nat) : Int) := by omega
        refine ⟨decide (n < lcp u r), et_refl fun H5 e5 Q1 q1 => ?_, fun hb2 H5 e5 => ?_, fun hb2 H5 e5 => ?_⟩
        · refine ⟨_, rfl, _, rfl, _, rfl, small _ (by rw [S_size]; omega), _, _, rfl, rfl, _, rfl, ?_⟩
          refine itD (fun c => ?_) (fun c => ?_)
          · rw [S_size] at c
            refine ⟨_, rfl, _, rfl, _, rfl, _, rfl, _, rfl, _, _, rfl, rfl, _, _, rfl, rfl, _, rfl, _, rfl, small _ (by rw [S_size]; omega), ?_⟩
            refine ⟨_, rfl, _, rfl, _, _, rfl, rfl, _, rfl, _, rfl, small _ (by rw [S_size]; omega), rfl, _, rfl, ?_⟩
            rw [ein, en, cutk, cut_to, eqS (b := u.take (n + 1)) rfl]
            have e : decide (r.take (n + 1) = u.take (n + 1)) = decide (n < lcp u r) := by
              refine decide_eq_decide.mpr ?_
              rw [← lcp_ge u r (n + 1) (by omega)]
              exact ⟨fun h => by omega, fun h => by omega⟩
            rw [e]
            exact q1
          · rw [S_size] at c
            rw [decide_eq_false (show ¬ n < lcp u r by omega)] at q1
            exact q1
        · have hb2 := of_decide_eq_true hb2
          refine ⟨fun σ2 H2 => Same H3 H2 ∧ σ2 = [some (.str (S z)), some (.int (i : Nat)), some (.ref l), some (.int ((i + m : Nat) : Int)), some (.str (S u)), some (.ref pl), some (.int ((n + 1 : Nat) : Int))], fun σ2 H2 hh => ⟨lcp u r - (n + 1), by omega, n + 1, rfl, hb2, hh.1, hh.2⟩, ?_⟩
          refine ⟨_, rfl, _, _, rfl, rfl, ?_⟩
          dsimp only [gName]
          rw [en]
          exact ⟨s5.trans e5, rfl⟩
        · have hb2 := of_decide_eq_false hb2
          have hn2 : n = lcp u r := by omega
          have ein2 : ((i : Nat) : Int) + (n : Nat) = ((i + n : Nat) : Int) := by omega
          have s6 : Same H1 H5 := s4.trans (s5.trans e5)
          refine Evl.q_when (b := decide (lcp u r = u.length)) (et_refl fun H6 e6 Q1 q1 => ?_) (fun hb3 H6 e6 => ?_) (fun hb3 H6 e6 => ?_)
          · refine ⟨_, rfl, _, rfl, _, rfl, small _ (by rw [S_size]; omega), rfl, _, rfl, ?_⟩
            have e : decide (V.int (n : Nat) = V.int ((S u).length : Nat)) = decide (lcp u r = u.length) := by
              refine decide_eq_decide.mpr ?_
              rw [V.int.injEq, S_size]; omega
            rw [e]
            exact q1
          · have hb3 := of_decide_eq_true hb3
            refine ⟨_, rfl, _, rfl, _, _, rfl, rfl, _, rfl, (by show 2 ≤ sizeLine; decide), fun p np => ?_⟩
            dsimp only
            rw [ein2]
            rw [em, lwu, if_neg hu, if_pos hb3, ← hb3, ← hn2] at q
            have s7 : Same H' H6 := Same.trans e2 (Same.trans e3 (Same.trans s5 (Same.trans e5 e6)))
            exact q _ p pl (s12.trans (s7.trans (Same.new np))) upd_same (Same.new np _ _ (s7 _ _ hpl))
          · have hb3 := of_decide_eq_false hb3
            refine ⟨_, rfl, _, rfl, _, rfl, _, _, rfl, rfl, _, _, rfl, ?_⟩
            dsimp only [gName]
            refine ⟨s6.trans e6, max m (lcp u r), some (.str (S u)), some (.ref pl), some (.int (n : Nat)), ?_, ?_⟩
            · rw [em, lwu, if_neg hu, if_neg hb3]
            · have e : (if ((i : Nat) : Int) + (n : Nat) > ((i + m : Nat) : Int) then ((i : Nat) : Int) + (n : Nat) else ((i + m : Nat) : Int)) = ((i + max m (lcp u r) : Nat) : Int) := by
                rw [hn2]; split <;> omega
              rw [e]
              rfl
      · have hu : u = [] := by rw [Bool.not_eq_false', decide_eq_true_eq] at hu; exact hu
        have hd : ¬ isDig r = true := by rw [decide_eq_true hu, Bool.true_and] at hb; rw [hb]; exact Bool.false_ne_true
        refine ⟨s3.trans e3, m, some (.str (S u)), some (.ref pl), o6, ?_, rfl⟩
        rw [em, lwu, if_pos hu, if_neg hd]
  · obtain ⟨s2, m, o4, o5, o6, em, rfl⟩ := p
    rw [xl, List.drop_length] at em
    refine ⟨_, rfl, (by show 2 ≤ sizeLine; decide), fun p np => ?_⟩
    rw [em] at q
    exact q _ p (s1.trans (s2.trans (Same.new np))) upd_same
end
end K06
end Sec_L4
section Sec_L5
set_option Elab.async false
set_option linter.all false
set_option maxRecDepth 100000
set_option maxHeartbeats 4000000
namespace K06
open PySem PySem.Spec PyProof.Rows L2
open SX (S)
section
variable {P : Program} {w : World} {K : PySem.W.Frag} {mg : Str → Option Value} {base : Heap} {A : Ads}
def sp_lwr : Sp := fun vs H Q _ => ∃ z : Tx, vs = [.str (S z)] ∧ z.length ≤ 2000 ∧ ∀ H', Same H H' → Q (.int (lawAns z)) H'
theorem next_wt : ∀ t : Item, ∀ x ∈ nextL t, x.2.length ≤ 1 + 10 * x.1.length ∧ x.1.length ≤ 1000 := by intro t; cases t <;> decide +kernel
theorem lw_of {r : Tx} {k : Nat} {p : List Item} : ∀ {ws : List (Tx × List Item)} {m : Nat}, lw r ws m = (k, some p) → ∃ x ∈ ws, p = x.2 ∧ k = x.1.length ∧ k ≤ r.length
  | [], m, h => by cases h
  | (w, q) :: ws, m, h => by
    unfold lw at h
    split at h
    · rename_i hw
      split at h
      · cases h; exact ⟨(w, p), List.mem_cons_self, rfl, by rw [hw]; rfl, Nat.zero_le _⟩
      · obtain ⟨x, hx, a, b⟩ := lw_of h; exact ⟨x, List.mem_cons_of_mem _ hx, a, b⟩
    · split at h
      · rename_i hl
        cases h
        exact ⟨(w, p), List.mem_cons_self, rfl, rfl, by rw [← hl]; exact (lcp_le w r).2⟩
      · obtain ⟨x, hx, a, b⟩ := lw_of h; exact ⟨x, List.mem_cons_of_mem _ hx, a, b⟩
theorem ok_law_wrong (T : Txt K mg A) (G__law_word : Cl P w K mg base CX0 1 "_law_word" sp_lw) (G__law_next : Cl P w K mg base CX0 1 "_law_next" sp_ln) (G__law_share_end : Cl P w K mg base CX0 2 "_law_share_end" sp_lse) (G__law_figures : Cl P w K mg base CX0 1 "_law_figures" sp_lf) : Cl P w K mg base CX0 3 "_law_wrong" sp_lwr := by
  refine T.f__law_wrong.cl sc__law_wrong (fun vs H Q E h => ?_) (fun f cdv A' outer s H vs Q E hr h => ?_)
  · obtain ⟨z, rfl, _⟩ := h; rfl
  obtain ⟨z, rfl, hz, q⟩ := h
  refine ⟨_, (pss_cons (ps_set (i := 1) sc__law_wrong.nd rfl (Or.inl rfl) pe_int) (pss_cons (ps_set (i := 2) sc__law_wrong.nd rfl (Or.inl rfl) (pe_lst (pa_cons pe_str pa_nil))) (pss_cons (ps_while PassesOwn.never (pt_cmpR (op_neL hr.units) (pv 2) (pe_lst pa_nil) (nomark _)) (pss_cons (ps_set (i := 3) sc__law_wrong.nd rfl (Or.inl rfl) (pe_ix ix_list (pv 2) (pe_un un_neg pe_int) (fun _ _ => rfl))) (pss_one (ps_if (pt_cmpR op_in_seq (pv 3) (pe_tup (pa_cons pe_str (pa_cons pe_str (pa_cons pe_str (pa_cons pe_str pa_nil))))) (by rfl)) (pss_cons (ps_asg (pcl G__law_word hr (by omega) rfl (pa_cons (pv 0) (pa_cons (pv 1) (pa_cons (pcl G__law_next hr (by omega) rfl (pa_cons (pv 2) pa_nil)) pa_nil)))) (pg_tup rfl (pgs_cons (pg_name (i := 1) sc__law_wrong.nd rfl (Or.inl rfl)) (pgs_cons (pg_name (i := 2) sc__law_wrong.nd rfl (Or.inl rfl)) pgs_nil)))) (pss_one (ps_if (pt_cmpR op_isN (pv 2) pe_non (nomark _)) (pss_one (ps_ret (pv 1))) pss_nil))) (pss_one (ps_if (pt_cmpR op_eq (pv 3) pe_str (nomark _)) (pss_cons (ps_asg (pcl G__law_share_end hr (by omega) rfl (pa_cons (pv 0) (pa_cons (pv 1) pa_nil))) (pg_tup rfl (pgs_cons (pg_name (i := 1) sc__law_wrong.nd rfl (Or.inl rfl)) (pgs_cons (pg_name (i := 4) sc__law_wrong.nd rfl (Or.inl rfl)) pgs_nil)))) (pss_cons (ps_set (i := 2) sc__law_wrong.nd rfl (Or.inl rfl) (pe_slice sl_list (pv 2) po_none (po_some (pe_un un_neg pe_int)))) (pss_one (ps_if (pt_not (pt_val (pv 4))) (pss_one (ps_ret (pv 1))) pss_nil)))) (pss_one (ps_if (pt_cmpR op_in_seq (pv 3) (pe_tup (pa_cons pe_str (pa_cons pe_str pa_nil))) (by rfl)) (pss_cons (ps_set (i := 5) sc__law_wrong.nd rfl (Or.inl rfl) (pcl G__law_figures hr (by omega) rfl (pa_cons (pv 0) (pa_cons (pv 1) (pa_cons (pe_callTy call_int_str (by rfl) T.z_int (by decide +kernel) (pa_cons (pv 3) pa_nil)) pa_nil))))) (pss_cons (ps_if (pt_cmpR op_lt (pv 5) pe_int (nomark _)) (pss_one (ps_ret (pv 1))) pss_nil) (pss_cons (ps_set (i := 1) sc__law_wrong.nd rfl (Or.inl rfl) (pv 5)) (pss_one (ps_set (i := 2) sc__law_wrong.nd rfl (Or.inl rfl) (pe_slice sl_list (pv 2) po_none (po_some (pe_un un_neg pe_int)))))))) (pss_cons (ps_for PassesOwn.never rfl (pi_str (pv 3)) (pg_name (i := 6) sc__law_wrong.nd rfl (Or.inl rfl)) (pss_cons (ps_if (pt_cmpR op_ne (pe_slice sl_str (pv 0) (po_some (pv 1)) (po_some (pe_op op_add (pv 1) pe_int))) (pv 6) (nomark _)) (pss_one (ps_ret (pv 1))) pss_nil) (pss_one (ps_set (i := 1) sc__law_wrong.nd rfl (Or.inl rfl) (pe_op op_add (pv 1) pe_int))))) (pss_one (ps_set (i := 2) sc__law_wrong.nd rfl (Or.inl rfl) (pe_slice sl_list (pv 2) po_none (po_some (pe_un un_neg pe_int)))))))))))))) (pss_one (ps_ret (pe_ifExp (pt_cmpR op_lt (pv 1) (pe_callB call_len_str (by rfl) T.z_len (by decide +kernel) (pa_cons (pv 0) pa_nil)) (nomark _)) (pv 1) (pe_op op_sub pe_int pe_int))))))), ?_⟩
  obtain ⟨n, hn⟩ := law_all z
  refine Evl.q_asg (v := .int ((0 : Nat) : Int)) Evl.ev_c (fun H1 s1 => ?_)
  have e_deal : ("deal" : Str) = S Item.deal.tx := by decide +kernel
  refine es_set (ts := [Item.deal.tx]) (es_lst (Evl.ea_cons (by rw [e_deal]; exact Evl.ev_c) Evl.ea_nil) (by decide)) (fun l0 H2 s2 h2 => ?_)
  refine Evl.q_while (fun m σ' H' => ∃ i pile l o3 o4 o5 o6, σ' = [some (.str (S z)), some (.int ((i : Nat) : Int)), some (.ref l), o3, o4, o5, o6] ∧ Same H H' ∧ H' l = some (.lst (sts (pil pile))) ∧ i ≤ z.length ∧ lawF m i (z.drop i) pile = some (lawAns z) ∧ pile.length ≤ 1 + 10 * i) n ⟨0, [.deal], l0, _, _, _, _, rfl, Same.trans s1 s2, h2, Nat.zero_le _, hn, by decide⟩ (fun m σ' H' hw => ?_)
  obtain ⟨i, pile, l, o3, o4, o5, o6, rfl, s3, h3, hi, hF, hpl⟩ := hw
  refine ⟨!pile.isEmpty, fun H4 e4 Q1 q1 => ?_, fun hb H4 e4 => ?_, fun hb H4 e4 => ?_⟩
  · refine ⟨_, rfl, (by show 0 ≤ sizeLine; decide), fun p np => ?_⟩
    have s5 : Same H4 (upd H4 p (.lst [])) := Same.new np
    refine ⟨l, p, _, rfl, rfl, Evl.sq_of (s5 _ _ (e4 _ _ h3)), Evl.sq_of upd_same, _, rfl, ?_⟩
    have e : (sts (pil pile)).isEmpty = pile.isEmpty := by cases pile <;> simp
    rw [e]
    exact q1 _ s5
  · cases pile with
    | nil => cases hb
    | cons t pile =>
    cases m with
    | zero => cases hF
    | succ m =>
    have s4 : Same H H4 := s3.trans e4
    have h4 : H4 l = some (.lst (sts (pil (t :: pile)))) := e4 _ _ h3
    rw [List.length_cons] at hpl
    have hlast : sts (pil (t :: pile)) = sts (pil pile) ++ [.str (S t.tx)] := by simp
    -- the next turn
    refine ⟨fun σ' H' => ∃ i pile l o3 o4 o5 o6, σ' = [some (.str (S z)), some (.int ((i : Nat) : Int)), some (.ref l), o3, o4, o5, o6] ∧ Same H H' ∧ H' l = some (.lst (sts (pil pile))) ∧ i ≤ z.length ∧ lawF m i (z.drop i) pile = some (lawAns z) ∧ pile.length ≤ 1 + 10 * i, fun σ2 H2 hh => ⟨m, Nat.lt_succ_self _, hh⟩, ?_⟩
    refine Evl.q_asg (v := .str (S t.tx)) (ev_refl fun H5 e5 Q1 q1 => ⟨_, rfl, _, rfl, l, _, _, _, rfl, rfl, Evl.sq_of (e5 _ _ h4), by rw [hlast]; exact atI_last _ _, q1⟩) (fun H5 e5 => ?_)
    have s5 : Same H H5 := s4.trans e5
    have h5 := e5 _ _ h4
    generalize hr0 : z.drop i = r at hF
    -- the pile without its last
    have cutp : ∀ {σ : L2.St} {H6 : Hp} {Q1 : VK}, σ[2]? = some (some (.ref l)) → H6 l = some (.lst (sts (pil (t :: pile)))) → (∀ p, H6 p = none → Q1 (.ref p) (upd H6 p (.lst (sts (pil pile))))) → tSl (rSlL K) (tVar 2) tNoPart (tPart (tUn (rU fun i => .int (-i)) (tC (.int 1)))) σ H6 Q1 := fun hs h q1 =>
      ⟨_, hs, _, rfl, _, rfl, l, _, rfl, Evl.sq_of h, fun p np => by rw [hlast, cutV_butlast]; exact q1 p np⟩
    have inT : ∀ {σ : L2.St} {H6 : Hp} {ta : TA} {ws : List Str} {b : Bool}, σ[3]? = some (some (.str (S t.tx))) → Evl.EvA ta σ H6 (ws.map V.str) → ws.length ≤ 100 → decide (S t.tx ∈ ws) = b → Evl.EvT (tTest (tOp (rIn K false) (tVar 3) (tTup ta))) σ H6 b := fun hs ha hw hb H7 e7 Q1 q1 =>
      ⟨_, hs, ha H7 e7 _ fun H8 e8 => ⟨small _ (by rw [List.length_map]; omega), fun p np => ⟨p, _, rfl, .inr (SqT.of upd_same), rfl, all_flat _, _, rfl, by
        rw [if_neg Bool.false_ne_true, inV_str, hb]
        exact q1 _ (Evl.Ex.trans e8 (Evl.Ex.new np))⟩⟩⟩
    have w4 : ∀ {σ : L2.St} {H6 : Hp}, Evl.EvA (tCons (tC (.str "deal")) (tCons (tC (.str "amount")) (tCons (tC (.str "sign")) (tCons (tC (.str "pair")) tNil)))) σ H6 ((["deal", "amount", "sign", "pair"] : List Str).map V.str) := Evl.ea_cons Evl.ev_c (Evl.ea_cons Evl.ev_c (Evl.ea_cons Evl.ev_c (Evl.ea_cons Evl.ev_c Evl.ea_nil)))
    have w2 : ∀ {σ : L2.St} {H6 : Hp}, Evl.EvA (tCons (tC (.str "1")) (tCons (tC (.str "10")) tNil)) σ H6 ((["1", "10"] : List Str).map V.str) := Evl.ea_cons Evl.ev_c (Evl.ea_cons Evl.ev_c Evl.ea_nil)
    have eqt : ∀ {σ : L2.St} {H6 : Hp} {x : Str} {y : Tx}, x = S y → σ[3]? = some (some (.str (S t.tx))) → Evl.EvT (tTest (tOp rEq (tVar 3) (tC (.str x)))) σ H6 (decide (t.tx = y)) := fun hx hs => et_refl fun H7 _ Q1 q1 => ⟨_, hs, rfl, _, rfl, by rw [eqS hx]; exact q1⟩
    have e_share : ("share" : Str) = S Item.share.tx := by decide +kernel
    have s35 : Same H4 H5 := e5
    -- a word
    have wordB : wordy t = true → ∀ H6, Same H5 H6 → ∀ D : L2.Ends, D.rt = Q → D.nx = (fun σ' H' => ∃ i pile l o3 o4 o5 o6, σ' = [some (.str (S z)), some (.int ((i : Nat) : Int)), some (.ref l), o3, o4, o5, o6] ∧ Same H H' ∧ H' l = some (.lst (sts (pil pile))) ∧ i ≤ z.length ∧ lawF m i (z.drop i) pile = some (lawAns z) ∧ pile.length ≤ 1 + 10 * i) →
        tSeq (tAsg (tCl sp_lw (tCons (tVar 0) (tCons (tVar 1) (tCons (tCl sp_ln (tCons (tVar 2) tNil)) tNil)))) (gTup K 2 (gCons (gName 1) (gCons (gName 2) gNil)))) (tIfS (tTest (tOp (fun x y H Q => y = V.non ∧ Q (.bl (decide (x = V.non))) H) (tVar 2) (tC .non))) (tRet (tVar 1)) tNext) D
          [some (.str (S z)), some (.int ((i : Nat) : Int)), some (.ref l), some (.str (S t.tx)), o4, o5, o6] H6 := fun hw H6 s6 D eR eN => by
      rw [lawF_word hw] at hF
      refine ⟨_, rfl, _, rfl, _, rfl, l, t, pile, rfl, hw, s6 _ _ h5, by omega, fun H7 l7 xs s7 h7 p7 => ?_⟩
      refine ⟨z, i, l7, xs, nextL t, fun p => pil (p ++ pile), rfl, by omega, hi, h7, p7, fun x hx => (next_wt t x hx).2, ?_⟩
      rw [hr0]
      have s07 : Same H H7 := s5.trans (s6.trans s7)
      cases hlw : lw r (nextL t) 0 with
      | mk k o =>
      rw [hlw] at hF
      cases o with
      | none =>
        intro H8 v s8 h8
        refine ⟨v, _, rfl, SqT.of h8, rfl, _, _, rfl, _, _, rfl, rfl, ?_⟩
        refine ⟨_, rfl, rfl, _, rfl, iteT ?_⟩
        refine ⟨_, rfl, ?_⟩
        have hF : (((i + k : Nat) : Int)) = lawAns z := Option.some.inj hF
        rw [hF]
        show D.rt _ _
        rw [eR]
        exact q H8 (s07.trans s8)
      | some p =>
        intro H8 v pl s8 h8 hp8
        refine ⟨v, _, rfl, SqT.of h8, rfl, _, _, rfl, _, _, rfl, rfl, ?_⟩
        refine ⟨_, rfl, rfl, _, rfl, iteF ?_⟩
        obtain ⟨x, hx, rfl, hk, hkr⟩ := lw_of hlw
        have hw := (next_wt t x hx).1
        have rl : r.length = z.length - i := by rw [← hr0, List.length_drop]
        show D.nx _ _
        rw [eN]
        refine ⟨i + k, x.2 ++ pile, pl, _, _, _, _, rfl, s07.trans s8, hp8, by omega, ?_, by rw [List.length_append]; omega⟩
        rw [← List.drop_drop, hr0]
        exact hF
    have figB : ∀ (most : Nat), 0 < most → intText? (S t.tx) = some (most : Int) → (lawF (m + 1) i r (t :: pile) = (match pF most i r with | .ok (_, i', r') => lawF m i' r' pile | .error p => some (p : Int))) → ∀ H6, Same H5 H6 → ∀ D : L2.Ends, D.rt = Q → D.nx = (fun σ' H' => ∃ i pile l o3 o4 o5 o6, σ' = [some (.str (S z)), some (.int ((i : Nat) : Int)), some (.ref l), o3, o4, o5, o6] ∧ Same H H' ∧ H' l = some (.lst (sts (pil pile))) ∧ i ≤ z.length ∧ lawF m i (z.drop i) pile = some (lawAns z) ∧ pile.length ≤ 1 + 10 * i) →
        tSeq (tAsg (tCl sp_lf (tCons (tVar 0) (tCons (tVar 1) (tCons (tCB (fun xs H Q => ∃ a n, xs = [V.str a] ∧ intText? a = some n ∧ a.length ≤ 640 ∧ Q (V.int n) H) (tCons (tVar 3) tNil)) tNil)))) (gName 5))
          (tSeq (tIfS (tTest (tOp (rI0 fun i j => .bl (decide (i < j))) (tVar 5) (tC (.int 0)))) (tRet (tVar 1)) tNext) (tSeq (tAsg (tVar 5) (gName 1)) (tAsg (tSl (rSlL K) (tVar 2) tNoPart (tPart (tUn (rU fun i => .int (-i)) (tC (.int 1))))) (gName 2)))) D
          [some (.str (S z)), some (.int ((i : Nat) : Int)), some (.ref l), some (.str (S t.tx)), o4, o5, o6] H6 := fun most hmost hint hlw H6 s6 D eR eN => by
      rw [hlw] at hF
      refine ⟨_, rfl, _, rfl, _, rfl, _, _, rfl, hint, by rw [S_size]; cases t <;> decide, ?_⟩
      refine ⟨z, i, most, rfl, by omega, hi, hmost, fun H7 s7 => ?_⟩
      rw [hr0]
      unfold figI
      have perr : ∀ {most j : Nat} {r : Tx} {p : Nat}, pF most j r = .error p → p = j := fun {most j r p} h => by unfold pF at h; split at h <;> cases h; rfl
      cases hp : pF most i r with
      | error p =>
        rw [hp] at hF
        have hF : ((p : Nat) : Int) = lawAns z := Option.some.inj hF
        rw [perr hp] at hF
        refine ⟨_, rfl, _, _, rfl, rfl, _, rfl, tT rfl ?_⟩
        refine ⟨_, rfl, ?_⟩
        rw [hF]
        show D.rt _ _
        rw [eR]
        exact q H7 (s5.trans (s6.trans s7))
      | ok y =>
        obtain ⟨ds, i', r'⟩ := y
        rw [hp] at hF
        have rd := (pF_ok hmost hp).2
        have ri := rd.at'
        rw [← hr0] at rd
        have hlen := drop_len rd hi
        refine ⟨_, rfl, _, _, rfl, rfl, _, rfl, tF (decide_eq_false (by show ¬ ((i' : Nat) : Int) < 0; omega)) ?_⟩
        refine ⟨_, rfl, ?_⟩
        refine cutp rfl (s7 _ _ (s6 _ _ h5)) fun p np => ?_
        dsimp only [gName]
        rw [eN]
        refine ⟨i', pile, p, _, _, _, _, rfl, s5.trans (s6.trans (s7.trans (Same.new np))), upd_same, hlen.1, ?_, by omega⟩
        rw [← hlen.2]
        exact hF
    have txtB : (∀ i r, lawF (m + 1) i r (t :: pile) = (match pL t.tx i r with | .ok (i', r') => lawF m i' r' pile | .error p => some (p : Int))) → ∀ H6, Same H5 H6 → ∀ D : L2.Ends, D.rt = Q → D.nx = (fun σ' H' => ∃ i pile l o3 o4 o5 o6, σ' = [some (.str (S z)), some (.int ((i : Nat) : Int)), some (.ref l), o3, o4, o5, o6] ∧ Same H H' ∧ H' l = some (.lst (sts (pil pile))) ∧ i ≤ z.length ∧ lawF m i (z.drop i) pile = some (lawAns z) ∧ pile.length ≤ 1 + 10 * i) →
        tSeq (tFor (iStr (tVar 3)) (gName 6) (tSeq (tIfS (tTest (tOp rNe (tSl rSlS (tVar 0) (tPart (tVar 1)) (tPart (tOp (rI0 fun i j => .int (i + j)) (tVar 1) (tC (.int 1))))) (tVar 6))) (tRet (tVar 1)) tNext) (tAsg (tOp (rI0 fun i j => .int (i + j)) (tVar 1) (tC (.int 1))) (gName 1))))
          (tAsg (tSl (rSlL K) (tVar 2) tNoPart (tPart (tUn (rU fun i => .int (-i)) (tC (.int 1))))) (gName 2)) D
          [some (.str (S z)), some (.int ((i : Nat) : Int)), some (.ref l), some (.str (S t.tx)), o4, o5, o6] H6 := fun hlw H6 s6 D eR eN => by
      rw [hlw] at hF
      refine q_forS (l := t.tx) (Evl.ev_var rfl) (fun k σ' H' => Same H6 H' ∧ r.take k = t.tx.take k ∧ ∃ o, σ' = [some (.str (S z)), some (.int ((i + k : Nat) : Int)), some (.ref l), some (.str (S t.tx)), o4, o5, o]) (fun H7 e7 => ⟨e7, by simp, _, rfl⟩) (fun k c σ' H' hk p => ?_) (fun σ' H' p => ?_)
      · obtain ⟨s7, ht, o, rfl⟩ := p
        have il : k < t.tx.length := (List.getElem?_eq_some_iff.mp hk).1
        refine ⟨_, rfl, _, rfl, _, rfl, _, rfl, _, _, rfl, rfl, _, rfl, _, rfl, small _ (by rw [S_size]; omega), ?_⟩
        have e : ((i + k : Nat) : Int) + 1 = ((i + k + 1 : Nat) : Int) := by omega
        rw [e, cut_mid, show i + k + 1 - (i + k) = 1 by omega, ← List.drop_drop, hr0]
        refine ⟨_, rfl, rfl, _, rfl, ?_⟩
        rw [eqS (b := [c]) rfl]
        refine itDN (fun c2 => ?_) (fun c2 => ?_)
        · rw [take_step hk ht] at c2
          have hl : lcp t.tx r = k := by
            have h1 : k ≤ lcp t.tx r := (lcp_ge _ _ _ (by omega)).mpr ht
            have h2 : ¬ k + 1 ≤ lcp t.tx r := fun z => c2 ((lcp_ge _ _ _ (by omega)).mp z)
            omega
          have np : ¬ pre t.tx r = true := fun z => by rw [pre_iff] at z; omega
          unfold pL at hF
          rw [if_neg np, hl] at hF
          have hF : ((i + k : Nat) : Int) = lawAns z := Option.some.inj hF
          refine ⟨_, rfl, ?_⟩
          rw [hF]
          show D.rt _ _
          rw [eR]
          exact q H' (s5.trans (s6.trans s7))
        · rw [take_step hk ht] at c2
          refine ⟨_, rfl, _, _, rfl, rfl, ?_⟩
          dsimp only [gName]
          rw [e]
          exact ⟨s7, c2, _, rfl⟩
      · obtain ⟨s7, ht, o, rfl⟩ := p
        rw [List.take_length] at ht
        unfold pL at hF
        rw [if_pos ((pre_take _ _).mpr ht)] at hF
        have rl : r.length = z.length - i := by rw [← hr0, List.length_drop]
        have hle : t.tx.length ≤ r.length := by rw [← ht, List.length_take]; omega
        refine cutp rfl (s7 _ _ (s6 _ _ h5)) fun p np => ?_
        dsimp only [gName]
        rw [eN]
        refine ⟨i + t.tx.length, pile, p, _, _, _, _, rfl, s5.trans (s6.trans (s7.trans (Same.new np))), upd_same, by omega, ?_, by omega⟩
        rw [← List.drop_drop, hr0]
        exact hF
    cases t with
    | deal => exact Evl.s_if (inT rfl w4 (by decide) (b := true) (by decide +kernel)) (fun _ H6 e6 => wordB rfl H6 e6 _ rfl rfl) (fun hb => by cases hb)
    | amount => exact Evl.s_if (inT rfl w4 (by decide) (b := true) (by decide +kernel)) (fun _ H6 e6 => wordB rfl H6 e6 _ rfl rfl) (fun hb => by cases hb)
    | sign => exact Evl.s_if (inT rfl w4 (by decide) (b := true) (by decide +kernel)) (fun _ H6 e6 => wordB rfl H6 e6 _ rfl rfl) (fun hb => by cases hb)
    | pair => exact Evl.s_if (inT rfl w4 (by decide) (b := true) (by decide +kernel)) (fun _ H6 e6 => wordB rfl H6 e6 _ rfl rfl) (fun hb => by cases hb)
    | share =>
      refine Evl.s_if (inT rfl w4 (by decide) (b := false) (by decide +kernel)) (fun hb => by cases hb) (fun _ H6 e6 => ?_)
      refine Evl.s_if (eqt e_share rfl) (fun _ H7 e7 => ?_) (fun hb => by simp at hb)
      refine ⟨_, rfl, _, rfl, z, i, rfl, by omega, hi, fun H8 v s8 hv => ?_⟩
      rw [hr0] at hv
      have hF : (match pQ i r with | .ok (_, i', r') => lawF m i' r' pile | .error p => some (p : Int)) = some (lawAns z) := hF
      have s08 : Same H H8 := s5.trans (Same.trans e6 (Same.trans e7 s8))
      have h8 : H8 l = some (.lst (sts (pil (.share :: pile)))) := s8 _ _ (e7 _ _ (e6 _ _ h5))
      unfold qI at hv
      cases hp : pQ i r with
      | error p =>
        rw [hp] at hv hF
        obtain ⟨b, xs, rfl, hb, y, ys, rfl, hy, y2, ys2, rfl, hy2, hn⟩ := hv
        cases hy; cases hy2; cases hn
        refine ⟨b, _, rfl, SqT.of hb, rfl, _, _, rfl, _, _, rfl, rfl, ?_⟩
        refine cutp rfl h8 fun p1 np => ?_
        refine ⟨_, rfl, _, rfl, iteT ?_⟩
        refine ⟨_, rfl, ?_⟩
        have hF : ((p : Nat) : Int) = lawAns z := Option.some.inj hF
        rw [hF]
        exact q _ (s08.trans (Same.new np))
      | ok y =>
        obtain ⟨qq, i', r'⟩ := y
        rw [hp] at hv hF
        obtain ⟨b, xs, rfl, hb, y, ys, rfl, hy, y2, ys2, rfl, hy2, hn⟩ := hv
        cases hy; cases hy2; cases hn
        have rd := (pQ_ok hp).2
        have ri := rd.at'
        rw [← hr0] at rd
        have hlen := drop_len rd hi
        refine ⟨b, _, rfl, SqT.of hb, rfl, _, _, rfl, _, _, rfl, rfl, ?_⟩
        refine cutp rfl h8 fun p1 np => ?_
        refine ⟨_, rfl, _, rfl, iteF ?_⟩
        refine ⟨i', pile, p1, _, _, _, _, rfl, s08.trans (Same.new np), upd_same, hlen.1, ?_, by omega⟩
        rw [← hlen.2]
        exact hF
    | f1 =>
      refine Evl.s_if (inT rfl w4 (by decide) (b := false) (by decide +kernel)) (fun hb => by cases hb) (fun _ H6 e6 => ?_)
      refine Evl.s_if (eqt e_share rfl) (fun hb => by simp [Item.tx] at hb) (fun _ H7 e7 => ?_)
      exact Evl.s_if (inT rfl w2 (by decide) (b := true) (by decide +kernel)) (fun _ H8 e8 => figB 1 (by decide) (by decide +kernel) rfl H8 (Same.trans e6 (Same.trans e7 e8)) _ rfl rfl) (fun hb => by cases hb)
    | f10 =>
      refine Evl.s_if (inT rfl w4 (by decide) (b := false) (by decide +kernel)) (fun hb => by cases hb) (fun _ H6 e6 => ?_)
      refine Evl.s_if (eqt e_share rfl) (fun hb => by simp [Item.tx] at hb) (fun _ H7 e7 => ?_)
      exact Evl.s_if (inT rfl w2 (by decide) (b := true) (by decide +kernel)) (fun _ H8 e8 => figB 10 (by decide) (by decide +kernel) rfl H8 (Same.trans e6 (Same.trans e7 e8)) _ rfl rfl) (fun hb => by cases hb)
    | close =>
      refine Evl.s_if (inT rfl w4 (by decide) (b := false) (by decide +kernel)) (fun hb => by cases hb) (fun _ H6 e6 => ?_)
      refine Evl.s_if (eqt e_share rfl) (fun hb => by simp [Item.tx] at hb) (fun _ H7 e7 => ?_)
      exact Evl.s_if (inT rfl w2 (by decide) (b := false) (by decide +kernel)) (fun hb => by cases hb) (fun _ H8 e8 => txtB (fun _ _ => rfl) H8 (Same.trans e6 (Same.trans e7 e8)) _ rfl rfl)
    | comma =>
      refine Evl.s_if (inT rfl w4 (by decide) (b := false) (by decide +kernel)) (fun hb => by cases hb) (fun _ H6 e6 => ?_)
      refine Evl.s_if (eqt e_share rfl) (fun hb => by simp [Item.tx] at hb) (fun _ H7 e7 => ?_)
      exact Evl.s_if (inT rfl w2 (by decide) (b := false) (by decide +kernel)) (fun hb => by cases hb) (fun _ H8 e8 => txtB (fun _ _ => rfl) H8 (Same.trans e6 (Same.trans e7 e8)) _ rfl rfl)
  · cases pile with
    | cons t pile => cases hb
    | nil =>
    cases m with
    | zero => cases hF
    | succ m =>
    have hF : (if z.drop i = [] then (-1 : Int) else (i : Int)) = lawAns z := Option.some.inj hF
    have s4 : Same H H4 := s3.trans e4
    refine ⟨_, rfl, _, rfl, _, rfl, small _ (by rw [S_size]; omega), _, _, rfl, rfl, _, rfl, ?_⟩
    have q := q H4 s4
    rw [← hF] at q
    refine itD (fun c => ?_) (fun c => ?_)
    · rw [S_size] at c
      rw [if_neg (fun e => by have := congrArg List.length e; rw [List.length_drop] at this; simp at this; omega)] at q
      exact ⟨_, rfl, q⟩
    · rw [S_size] at c
      rw [if_pos (List.drop_eq_nil_of_le (by omega))] at q
      exact ⟨_, _, rfl, rfl, q⟩
end
end K06
end Sec_L5
section Sec_L6
set_option Elab.async false
set_option linter.all false
set_option maxRecDepth 100000
set_option maxHeartbeats 4000000
namespace K06
open PySem PySem.Spec PyProof.Rows L2
open SX (S)
section
variable {P : Program} {w : World} {K : PySem.W.Frag} {mg : Str → Option Value} {base : Heap} {A : Ads}
theorem ixN_last (n : Nat) : ixN (n + 1) (-1) = some n := by
  unfold ixN
  rw [if_neg (by decide), if_pos (by omega)]
  congr 1
  omega
theorem lit_close : (")" : Str) = S [41] := by decide +kernel
def sp_spl : Sp := fun vs H Q _ => ∃ (t m : Tx), vs = [.str (S t), .str (S m)] ∧ t.length ≤ 3000 ∧ m ≠ [] ∧ m.length ≤ 10 ∧ ∀ H' p, Same H H' → H' p = some (.lst (sts (spl m 0 0 t []))) → Q (.ref p) H'
theorem ok_law_split (T : Txt K mg A) : Cl P w K mg base CX0 1 "_law_split" sp_spl := by
  refine T.f__law_split.cl sc__law_split (fun vs H Q E h => ?_) (fun f cdv A' outer s H vs Q E hr h => ?_)
  · obtain ⟨t, m, rfl, _⟩ := h; rfl
  obtain ⟨t, m, rfl, ht, hm0, hm, q⟩ := h
  refine ⟨_, (pss_cons (ps_set (i := 2) sc__law_split.nd rfl (Or.inl rfl) (pe_lst (pa_cons pe_str pa_nil))) (pss_cons (ps_set (i := 3) sc__law_split.nd rfl (Or.inl rfl) pe_int) (pss_cons (ps_set (i := 4) sc__law_split.nd rfl (Or.inl rfl) pe_int) (pss_cons (ps_while PassesOwn.never (pt_cmpR op_lt (pv 4) (pe_callB call_len_str (by rfl) T.z_len (by decide +kernel) (pa_cons (pv 0) pa_nil)) (nomark _)) (pss_cons (ps_set (i := 3) sc__law_split.nd rfl (Or.inl rfl) (pe_op op_sub (pe_op op_add (pv 3) (pe_callTy call_int1 (by rfl) T.z_int (by decide +kernel) (pa_cons (pe_cmpR op_eq (pe_ix ix_str (pv 0) (pv 4) (fun _ _ => rfl)) pe_str (nomark _)) pa_nil))) (pe_callTy call_int1 (by rfl) T.z_int (by decide +kernel) (pa_cons (pe_cmpR op_eq (pe_ix ix_str (pv 0) (pv 4) (fun _ _ => rfl)) pe_str (nomark _)) pa_nil)))) (pss_one (ps_if (PW.pt (pw_and (pt_cmpR op_eq (pv 3) pe_int (nomark _)) (pw_and1 (pt_cmpR op_eq (pe_slice sl_str (pv 0) (po_some (pv 4)) (po_some (pe_op op_add (pv 4) (pe_callB call_len_str (by rfl) T.z_len (by decide +kernel) (pa_cons (pv 1) pa_nil))))) (pv 1) (nomark _))))) (pss_cons (ps_expr (pe_bm PySem.F.plainAttrs_list PySem.F.slot_list_append PySem.F.type_list_append mt_append (pv 2) (pa_cons pe_str pa_nil))) (pss_one (ps_set (i := 4) sc__law_split.nd rfl (Or.inl rfl) (pe_op op_add (pv 4) (pe_callB call_len_str (by rfl) T.z_len (by decide +kernel) (pa_cons (pv 1) pa_nil)))))) (pss_cons (ps_asg (pe_op op_add_str (pe_ix ix_list (pv 2) (pe_un un_neg pe_int) (fun _ _ => rfl)) (pe_ix ix_str (pv 0) (pv 4) (fun _ _ => rfl))) (pg_sub (pv 2) (pe_un un_neg pe_int) set_list)) (pss_one (ps_set (i := 4) sc__law_split.nd rfl (Or.inl rfl) (pe_op op_add (pv 4) pe_int)))))))) (pss_one (ps_ret (pv 2))))))), ?_⟩
  refine ⟨(by show 1 ≤ sizeLine; decide), fun l nl => ?_⟩
  have s0 : Same H (upd H l (.lst [.str ""])) := Same.new nl
  have h0 : (upd H l (.lst [.str ""])) l = some (.lst (sts ([] ++ [[]]))) := by rw [upd_same]; exact congrArg (fun x : Str => some (HO.lst [V.str x])) lit_nil
  generalize upd H l (.lst [.str ""]) = H1 at s0 h0 ⊢
  dsimp only [gName]
  refine Evl.q_asg (v := .int 0) Evl.ev_c (fun H2 e2 => ?_)
  refine Evl.q_asg (v := .int ((0 : Nat) : Int)) Evl.ev_c (fun H3 e3 => ?_)
  refine Evl.q_while (fun mm σ' H' => ∃ (i : Nat) (n : Int) (dn : List Tx) (cur : Tx), mm = t.length - i ∧ i ≤ t.length ∧ dn.length ≤ i ∧ spl m 0 0 t [] = dn ++ spl m n 0 (t.drop i) cur ∧ Same H H' ∧ H' l = some (.lst (sts (dn ++ [cur]))) ∧ cur.length ≤ i ∧ σ' = [some (.str (S t)), some (.str (S m)), some (.ref l), some (.int n), some (.int (i : Nat))]) t.length
    ⟨0, 0, [], [], rfl, Nat.zero_le _, Nat.zero_le _, rfl, s0.trans (Same.trans e2 e3), e3 _ _ (e2 _ _ h0), Nat.zero_le _, rfl⟩ (fun mm σ' H' hw => ?_)
  obtain ⟨i, n, dn, cur, rfl, hi, hdn, heq, s1, h1, hcl, rfl⟩ := hw
  refine ⟨decide (i < t.length), et_refl fun H4 e4 Q1 q1 => ?_, fun hb H4 e4 => ?_, fun hb H4 e4 => ?_⟩
  · refine ⟨_, rfl, _, rfl, _, rfl, small _ (by rw [S_size]; omega), _, _, rfl, rfl, _, rfl, ?_⟩
    have e : decide (((i : Nat) : Int) < ((S t).length : Nat)) = decide (i < t.length) := decide_eq_decide.mpr (by rw [S_size]; omega)
    rw [e]; exact q1
  · have hb := of_decide_eq_true hb
    have s2 : Same H H4 := s1.trans e4
    have h2 := e4 _ _ h1
    have hd : t.drop i = t[i] :: t.drop (i + 1) := List.drop_eq_getElem_cons hb
    generalize hc : t[i] = c at hd
    have hti : t[i]? = some c := by rw [List.getElem?_eq_getElem hb, hc]
    have one : ∀ {x : Str} {y : Nat}, x = S [y] → decide (V.str ⟨#[c]⟩ = V.str x) = decide (c = y) := fun {x y} e => by
      rw [show V.str ⟨#[c]⟩ = V.str (S [c]) from rfl, eqS e]
      exact decide_eq_decide.mpr ⟨fun h => (List.cons.inj h).1, fun h => by rw [h]⟩
    refine ⟨fun σ2 H2 => ∃ (i' : Nat) (n : Int) (dn : List Tx) (cur : Tx), i < i' ∧ i' ≤ t.length ∧ dn.length ≤ i' ∧ spl m 0 0 t [] = dn ++ spl m n 0 (t.drop i') cur ∧ Same H H2 ∧ H2 l = some (.lst (sts (dn ++ [cur]))) ∧ cur.length ≤ i' ∧ σ2 = [some (.str (S t)), some (.str (S m)), some (.ref l), some (.int n), some (.int (i' : Nat))],
      fun σ2 H2 ⟨i', n, dn, cur, k1, k2, k3, k4, k5, k6, k7, k8⟩ => ⟨t.length - i', by omega, i', n, dn, cur, rfl, k2, k3, k4, k5, k6, k7, k8⟩, ?_⟩
    refine Evl.q_asg (v := .int (stp1 n c)) (ev_refl fun H5 e5 Q1 q1 => ?_) (fun H5 e5 => ?_)
    · refine ⟨_, rfl, _, rfl, _, rfl, _, _, _, rfl, rfl, small _ (by rw [S_size]; omega), atI_nat _ _ _ hti, rfl, .inr ⟨_, rfl, _, _, rfl, rfl, ?_⟩⟩
      refine ⟨_, rfl, _, rfl, _, _, _, rfl, rfl, small _ (by rw [S_size]; omega), atI_nat _ _ _ hti, rfl, .inr ⟨_, rfl, _, _, rfl, rfl, ?_⟩⟩
      rw [one lit_open, one lit_close]
      have e : n + (if decide (c = 40) = true then (1 : Int) else 0) - (if decide (c = 41) = true then (1 : Int) else 0) = stp1 n c := by
        unfold stp1
        by_cases h40 : c = 40 <;> by_cases h41 : c = 41 <;> simp [h40, h41]
      dsimp only
      rw [e]
      exact q1
    · have s3 : Same H H5 := s2.trans e5
      have h3 := e5 _ _ h2
      have hls : (sts (dn ++ [cur])).length = dn.length + 1 := by simp
      refine Evl.s_if (b := decide (stp1 n c = 0) && pre m (t.drop i)) (et_refl fun H6 e6 Q1 q1 => ?_) (fun hb2 H6 e6 => ?_) (fun hb2 H6 e6 => ?_)
      · refine ⟨_, rfl, rfl, _, rfl, ?_⟩
        have e : decide (V.int (stp1 n c) = V.int 0) = decide (stp1 n c = 0) := decide_eq_decide.mpr (by rw [V.int.injEq])
        rw [e]
        cases hz : decide (stp1 n c = 0) with
        | false => rw [hz] at q1; exact iteF q1
        | true =>
          rw [hz, Bool.true_and] at q1
          refine iteT ?_
          refine ⟨_, rfl, _, rfl, _, rfl, _, rfl, _, rfl, _, rfl, small _ (by rw [S_size]; omega), _, _, rfl, rfl, _, rfl, _, rfl, small _ (by rw [S_size]; omega), _, rfl, rfl, _, rfl, ?_⟩
          have e2 : ((i : Nat) : Int) + ((S m).length : Nat) = ((i + m.length : Nat) : Int) := by rw [S_size]; omega
          rw [e2, cut_mid, show i + m.length - i = m.length by omega, eqS (b := m) rfl]
          have e3 : decide ((t.drop i).take m.length = m) = pre m (t.drop i) := by
            cases hp : pre m (t.drop i) with
            | true => exact decide_eq_true ((pre_take _ _).mp hp)
            | false => exact decide_eq_false fun z => by rw [(pre_take _ _).mpr z] at hp; cases hp
          rw [e3]
          exact q1
      · rw [Bool.and_eq_true, decide_eq_true_eq] at hb2
        have s4 : Same H H6 := s3.trans e6
        have h4 := e6 _ _ h3
        refine ⟨_, rfl, .inl ⟨rfl, _, Evl.sq_of h4⟩, l, _, _, rfl, rfl, h4, Nat.lt_of_lt_of_le (show (sts (dn ++ [cur])).length < 100000 by rw [hls]; omega) (by decide), ?_⟩
        refine ⟨_, rfl, _, rfl, _, rfl, small _ (by rw [S_size]; omega), _, _, rfl, rfl, ?_⟩
        have e2 : ((i : Nat) : Int) + ((S m).length : Nat) = ((i + m.length : Nat) : Int) := by rw [S_size]; omega
        dsimp only [gName]
        rw [e2]
        have ml : 0 < m.length := List.length_pos_iff.mpr hm0
        have hpl : m.length ≤ (t.drop i).length := by
          have := (pre_take m (t.drop i)).mp hb2.2
          have := congrArg List.length this
          rw [List.length_take] at this
          omega
        rw [List.length_drop] at hpl
        refine ⟨i + m.length, stp1 n c, dn ++ [cur], [], by omega, by omega, by rw [List.length_append, List.length_singleton]; omega, ?_, Evl.Ex.mut s4 nl, ?_, Nat.zero_le _, rfl⟩
        · rw [heq, hd]
          have e3 : spl m n 0 (c :: t.drop (i + 1)) cur = cur :: spl m (stp1 n c) (m.length - 1) (t.drop (i + 1)) [] := by
            show (if stp1 n c = 0 ∧ pre m (c :: t.drop (i + 1)) = true then _ else _) = _
            rw [if_pos ⟨hb2.1, by rw [← hd]; exact hb2.2⟩]
          have e4 : t.drop (i + 1) = (t.drop (i + 1)).take (m.length - 1) ++ t.drop (i + m.length) := by
            have := (List.take_append_drop (m.length - 1) (t.drop (i + 1))).symm
            rw [List.drop_drop, show i + 1 + (m.length - 1) = i + m.length by omega] at this
            exact this
          have e5 : spl m (stp1 n c) (m.length - 1) (t.drop (i + 1)) [] = spl m (stp1 n c) 0 (t.drop (i + m.length)) [] := by
            have hl : ((t.drop (i + 1)).take (m.length - 1)).length = m.length - 1 := by rw [List.length_take, List.length_drop]; omega
            have := spl_skip (m := m) ((t.drop (i + 1)).take (m.length - 1)) (t.drop (i + m.length)) [] (stp1 n c)
            rw [hl, ← e4] at this
            exact this
          rw [e3, e5, List.append_assoc]
          rfl
        · rw [upd_same]
          have : (V.str "" : V) = V.str (S []) := congrArg V.str lit_nil
          rw [this]
          simp
      · have s4 : Same H H6 := s3.trans e6
        have h4 := e6 _ _ h3
        have hlast : sts (dn ++ [cur]) = sts dn ++ [.str (S cur)] := by simp
        refine ⟨_, rfl, _, rfl, l, _, _, .str (S cur), rfl, rfl, Evl.sq_of h4, by rw [hlast]; exact atI_last _ _, ?_⟩
        refine ⟨_, rfl, _, rfl, _, _, _, rfl, rfl, small _ (by rw [S_size]; omega), atI_nat _ _ _ hti, ?_⟩
        refine ⟨_, _, rfl, rfl, Nat.le_trans (show (S cur).length + 1 ≤ 4000 by rw [S_size]; omega) (by decide), ?_⟩
        refine ⟨_, rfl, _, rfl, ?_⟩
        refine ⟨l, _, _, dn.length, rfl, rfl, h4, by rw [hls]; exact ixN_last _, ?_⟩
        refine ⟨_, rfl, _, _, rfl, rfl, ?_⟩
        have ei : ((i : Nat) : Int) + 1 = ((i + 1 : Nat) : Int) := by omega
        dsimp only [gName]
        rw [ei]
        refine ⟨i + 1, stp1 n c, dn, cur ++ [c], by omega, by omega, by omega, ?_, Evl.Ex.mut s4 nl, ?_, by rw [List.length_append, List.length_singleton]; omega, rfl⟩
        · rw [heq, hd]
          have e3 : spl m n 0 (c :: t.drop (i + 1)) cur = spl m (stp1 n c) 0 (t.drop (i + 1)) (cur ++ [c]) := by
            show (if stp1 n c = 0 ∧ pre m (c :: t.drop (i + 1)) = true then _ else _) = _
            rw [if_neg]
            rintro ⟨z1, z2⟩
            rw [← hd] at z2
            rw [decide_eq_true z1, z2] at hb2
            cases hb2
          rw [e3]
        · rw [upd_same]
          have : (S cur ++ (⟨#[c]⟩ : Str)) = S (cur ++ [c]) := SX.S_cat cur [c]
          rw [this, hlast, show dn.length = (sts dn).length by simp, List.set_append_right _ _ (Nat.le_refl _), Nat.sub_self]
          simp
  · have hb := of_decide_eq_false hb
    have : t.drop i = [] := List.drop_eq_nil_of_le (by omega)
    rw [this, spl_end] at heq
    rw [← heq] at h1
    exact ⟨_, rfl, q H4 l (s1.trans e4) (e4 _ _ h1)⟩
end
end K06
end Sec_L6
section Sec_L7
set_option Elab.async false
set_option linter.all false
set_option maxRecDepth 100000
set_option maxHeartbeats 4000000
namespace K06
open PySem PySem.Spec PyProof.Rows L2
open SX (S)
/-! ### amounts, from their texts -/
def Amt.hgt : Amt → Nat
  | .num _ => 0
  | .price => 0
  | .time => 0
  | .most a b => 1 + max a.hgt b.hgt
  | .least a b => 1 + max a.hgt b.hgt
  | .pr _ a b => 1 + max a.hgt b.hgt
theorem isD_ascii {c : Nat} (h : c < 128) : Unicode.isDigit c = digit c := by
  have e := PySem.W.os_isdigit h
  unfold Txt.isdigit at e
  have e2 : (((⟨#[c]⟩ : Str).length > 0 : Bool) && (#[c].all Unicode.isDigit)) = Unicode.isDigit c := by simp [Str.length]
  rw [← e2]
  exact e
theorem isdigit_S (t : Tx) : Txt.isdigit (S t) = (decide (0 < t.length) && t.all Unicode.isDigit) := by
  unfold Txt.isdigit
  rw [S_size]
  show (decide (t.length > 0) && (t.toArray).all Unicode.isDigit) = _
  rw [List.all_toArray]
theorem isdigit_yes {m : Nat} {ds : Tx} (h : Canon m ds) : Txt.isdigit (S ds) = true := by
  rw [isdigit_S, decide_eq_true (List.length_pos_iff.mpr h.1), Bool.true_and, List.all_eq_true]
  intro c hc
  have := h.digit hc
  rw [isD_ascii (by omega)]
  exact h.2.2.1 c hc
theorem isdigit_no {c : Nat} {t : Tx} (h : c < 128) (hd : digit c = false) : Txt.isdigit (S (c :: t)) = false := by
  rw [isdigit_S, List.all_cons, isD_ascii h, hd]
  simp
theorem cut_butlast (t : Tx) (c : Nat) : cutS (S (t ++ [c])) none (some (-1)) = S t := by rw [C8.cutS_slice]; exact SX.butlast_snoc t c
theorem cut_inner (t : Tx) : cutS (S (40 :: (t ++ [41]))) (some 1) (some (-1)) = S t := by
  have hl : (S (40 :: (t ++ [41]))).length = t.length + 2 := by rw [S_size]; simp
  have e1 : HT.sIx (t.length + 2) 0 (some 1) = 1 := by
    have := HT.sIx_nat (t.length + 2) 0 1
    rw [Nat.min_eq_left (by omega)] at this
    exact this
  have e2 : HT.sIx (t.length + 2) (t.length + 2) (some (-1)) = t.length + 1 := by
    show (if (-1 : Int) < 0 then (-1 + ((t.length + 2 : Nat) : Int)).toNat else min (-1 : Int).toNat (t.length + 2)) = _
    rw [if_pos (by decide)]
    omega
  unfold cutS
  rw [hl, e1, e2]
  show S (((40 :: (t ++ [41])).drop 1).take (t.length + 1 - 1)) = S t
  rw [List.drop_one, List.tail_cons, Nat.add_sub_cancel]
  exact congrArg S (List.take_left' rfl)
theorem part_open {p q : Tx} (h : 40 ∉ p) : Txt.partition (S (p ++ (40 :: q))) "(" = (S p, S [40], S q) := by
  rw [lit_open]
  exact SX.partition_some (by simp) (SX.par_head (sep := []) q h)
theorem part_none {p : Tx} (h : 40 ∉ p) : Txt.partition (S p) "(" = (S p, S [], S []) := by
  rw [lit_open]
  exact SX.partition_none (by simp) (SX.par_head_none h)
theorem word_no40 (w : Word) : 40 ∉ w.tx := fun h => by have := word_plain w _ h; omega
section
variable {P : Program} {w : World} {K : PySem.W.Frag} {mg : Str → Option Value} {base : Heap} {A : Ads}
/-- over a new list of data -/
theorem q_forD {σ : L2.St} {H : Hp} {ta : TA} {g : TG} {tu tz : TS} {D : Ends} {ds : List PyData} (h : EvDs ta σ H ds) (hl : ds.length ≤ 1000) (Pv : Nat → L2.St → Hp → Prop) (h0 : ∀ H1, Same H H1 → Pv 0 σ H1)
    (hs : ∀ H1 (l : Addr) xs, Same H H1 → H1 l = some (.lst xs) → TpL H1 ds xs → ∀ (i : Nat) x σ' H', xs[i]? = some x → Same H1 H' → Pv i σ' H' → g x σ' H' fun σ2 H2 => tu { D with nx := fun σ3 H3 => Same H1 H3 ∧ Pv (i + 1) σ3 H3, ct := fun σ3 H3 => Same H1 H3 ∧ Pv (i + 1) σ3 H3, bk := tz D } σ2 H2)
    (hd : ∀ σ' H', Pv ds.length σ' H' → tz D σ' H') : tSeq (tFor (iList K (tLst ta)) g tu) tz D σ H := by
  refine h H (Same.refl _) _ fun xs H2 s2 hxs => ⟨small _ (by rw [hxs.length]; omega), fun l nl => ?_⟩
  have s3 : Same H2 (upd H2 l (.lst xs)) := Same.new nl
  have h3 : (upd H2 l (.lst xs)) l = some (.lst xs) := upd_same
  have hx3 := hxs.up (Same.tups s3)
  generalize upd H2 l (.lst xs) = H3 at s3 h3 hx3 ⊢
  refine ⟨l, rfl, ⟨xs, Evl.sq_of h3⟩, ?_⟩
  exact for_list (xs := xs) (D := { D with nx := tz D }) (fun i σ' H' => Same H3 H' ∧ Pv i σ' H') ⟨Same.refl _, h0 _ (s2.trans s3)⟩ (fun i σ' H' _ p => Evl.sq_of (p.1 _ _ h3)) (fun i x σ' H' hi p => hs H3 l xs (s2.trans s3) h3 hx3 i x σ' H' hi p.1 p.2) (fun σ' H' p => hd σ' H' (by rw [← hxs.length]; exact p.2))
def sp_lao (n : Nat) : Sp := fun vs H Q _ => ∃ a : Amt, vs = [.str (S a.txt)] ∧ a.wf ∧ a.txt.length ≤ 3000 ∧ a.hgt < n ∧ ∀ H' v, Same H H' → Tp H' a.pd v → Q v H'
theorem lao_step (T : Txt K mg A) {n : Nat} (G__law_split : Cl P w K mg base CX0 1 "_law_split" sp_spl) (G__law_amount_of : Cl P w K mg base CX0 (2 + n) "_law_amount_of" (sp_lao n)) : Cl P w K mg base CX0 (2 + n + 1) "_law_amount_of" (sp_lao (n + 1)) := by
  refine T.f__law_amount_of.cl sc__law_amount_of (fun vs H Q E h => ?_) (fun f cdv A' outer s H vs Q E hr h => ?_)
  · obtain ⟨a, rfl, _⟩ := h; rfl
  obtain ⟨a, rfl, wf, hl, hh, q⟩ := h
  refine ⟨_, (pss_cons (ps_if (pt_cmpR op_in_seq (pv 0) (pe_tup (pa_cons pe_str (pa_cons pe_str pa_nil))) (by rfl)) (pss_one (ps_ret (pe_tup (pa_cons (pv 0) pa_nil)))) pss_nil) (pss_cons (ps_if (pt_val (pe_m0 PySem.F.slot_str_isdigit PySem.F.type_str_isdigit mt_isdigit (pv 0))) (pss_one (ps_ret (pe_tup (pa_cons pe_str (pa_cons (pe_callTy call_int_str (by rfl) T.z_int (by decide +kernel) (pa_cons (pv 0) pa_nil)) pa_nil))))) pss_nil) (pss_cons (ps_if (pt_cmpR op_ne (pe_ix ix_str (pv 0) pe_int (fun _ _ => rfl)) pe_str (nomark _)) (pss_cons (ps_asg (pe_partition (pv 0) pe_str) (pg_tup rfl (pgs_cons (pg_name (i := 1) sc__law_amount_of.nd rfl (Or.inl rfl)) (pgs_cons (pg_name (i := 2) sc__law_amount_of.nd rfl (Or.inl rfl)) (pgs_cons (pg_name (i := 3) sc__law_amount_of.nd rfl (Or.inl rfl)) pgs_nil))))) (pss_cons (ps_asg (pcl G__law_split hr (by omega) rfl (pa_cons (pe_slice sl_str (pv 3) po_none (po_some (pe_un un_neg pe_int))) (pa_cons pe_str pa_nil))) (pg_lst rfl (pgs_cons (pg_name (i := 4) sc__law_amount_of.nd rfl (Or.inl rfl)) (pgs_cons (pg_name (i := 5) sc__law_amount_of.nd rfl (Or.inl rfl)) pgs_nil)))) (pss_one (ps_ret (pe_tup (pa_cons (pv 1) (pa_cons (pcl G__law_amount_of hr (by omega) rfl (pa_cons (pv 4) pa_nil)) (pa_cons (pcl G__law_amount_of hr (by omega) rfl (pa_cons (pv 5) pa_nil)) pa_nil)))))))) pss_nil) (pss_cons (ps_for PassesOwn.never rfl (pi_list (pe_lst (pa_cons (pe_tup (pa_cons pe_str (pa_cons pe_str pa_nil))) (pa_cons (pe_tup (pa_cons pe_str (pa_cons pe_str pa_nil))) (pa_cons (pe_tup (pa_cons pe_str (pa_cons pe_str pa_nil))) pa_nil))))) (pg_tup rfl (pgs_cons (pg_name (i := 6) sc__law_amount_of.nd rfl (Or.inl rfl)) (pgs_cons (pg_name (i := 1) sc__law_amount_of.nd rfl (Or.inl rfl)) pgs_nil))) (pss_cons (ps_set (i := 7) sc__law_amount_of.nd rfl (Or.inl rfl) (pcl G__law_split hr (by omega) rfl (pa_cons (pe_slice sl_str (pv 0) (po_some pe_int) (po_some (pe_un un_neg pe_int))) (pa_cons (pv 6) pa_nil)))) (pss_one (ps_if (pt_cmpR op_eq (pe_callB call_len_seq (by rfl) T.z_len (by decide +kernel) (pa_cons (pv 7) pa_nil)) pe_int (nomark _)) (pss_one (ps_ret (pe_tup (pa_cons (pv 1) (pa_cons (pcl G__law_amount_of hr (by omega) rfl (pa_cons (pe_ix ix_list (pv 7) pe_int (fun _ _ => rfl)) pa_nil)) (pa_cons (pcl G__law_amount_of hr (by omega) rfl (pa_cons (pe_ix ix_list (pv 7) pe_int (fun _ _ => rfl)) pa_nil)) pa_nil)))))) pss_nil)))) (pss_one (ps_ret (pe_tup (pa_cons (pv 0) pa_nil)))))))), ?_⟩
  have inT : ∀ {b : Bool}, decide (S a.txt ∈ (["price", "time"] : List Str)) = b → Evl.EvT (tTest (tOp (rIn K false) (tVar 0) (tTup (tCons (tC (.str "price")) (tCons (tC (.str "time")) tNil))))) (L2.start N__law_amount_of [.str (S a.txt)]) H b := fun hb H7 e7 Q1 q1 =>
    ⟨_, rfl, (by show 2 ≤ sizeLine; decide), fun p np => ⟨p, (["price", "time"] : List Str).map V.str, rfl, .inr (SqT.of upd_same), rfl, all_flat _, _, rfl, by
      rw [if_neg Bool.false_ne_true, inV_str, hb]
      exact q1 _ (Evl.Ex.new np)⟩⟩
  have dig : ∀ {H1 : Hp} {b : Bool}, Txt.isdigit (S a.txt) = b → Evl.EvT (tTest (tM0 (fun x xs H Q => ∃ a, x = .str a ∧ xs = [] ∧ True ∧ Q (.bl (Txt.isdigit a)) H) (tVar 0))) (L2.start N__law_amount_of [.str (S a.txt)]) H1 b := fun hb => et_refl fun H7 _ Q1 q1 => ⟨_, rfl, ⟨_, rfl⟩, _, rfl, rfl, trivial, _, rfl, by rw [hb]; exact q1⟩
  have ret1 : ∀ (H1 : Hp) (D : L2.Ends), D.rt = Q → Same H H1 → a.pd = .tuple [.str (S a.txt)] → tRet (tTup (tCons (tVar 0) tNil)) D (L2.start N__law_amount_of [.str (S a.txt)]) H1 := fun H1 D eD e1 he => by
    refine ⟨_, rfl, (by show 1 ≤ sizeLine; decide), ?_⟩
    rw [eD]
    exact fun p np => q _ _ (Same.trans e1 (Same.new np)) (by rw [he]; exact ⟨p, _, rfl, upd_same, _, _, rfl, rfl, rfl⟩)
  -- a word and two amounts, made
  have mk3 : ∀ {H1 : Hp} {w0 : Str} {x y : Amt} {u v : V}, Same H H1 → a.pd = .tuple [.str w0, x.pd, y.pd] → Tp H1 x.pd u → Tp H1 y.pd v → ∀ p, H1 p = none → Q (.ref p) (upd H1 p (.tup [.str w0, u, v])) := fun e1 he hu hv p np =>
    q _ _ (e1.trans (Same.new np)) (by rw [he]; exact ⟨p, _, rfl, upd_same, _, _, rfl, rfl, _, _, rfl, hu.up (Same.tups (Same.new np)), _, _, rfl, hv.up (Same.tups (Same.new np)), rfl⟩)
  -- most, least
  have br : ∀ (w0 : Word) (x y : Amt), (w0 = .most ∨ w0 = .least) → a.txt = w0.tx ++ (tOpen ++ (x.txt ++ (tComma ++ (y.txt ++ tClose)))) → a.pd = .tuple [st w0.tx, x.pd, y.pd] → x.wf → y.wf → x.hgt < n → y.hgt < n →
      ∀ (H1 : Hp) (D : L2.Ends), D.rt = Q → Same H H1 →
      tSeq (tAsg (tM1 (fun x xs H Q => ∃ a b, x = V.str a ∧ xs = [V.str b] ∧ (b.length == 0) = false ∧ a.length ≤ sizeLine ∧ ∀ p, H p = none → Q (.ref p) (upd H p (.tup [.str (Txt.partition a b).1, .str (Txt.partition a b).2.1, .str (Txt.partition a b).2.2]))) (tVar 0) (tC (.str "("))) (gTup K 3 (gCons (gName 1) (gCons (gName 2) (gCons (gName 3) gNil)))))
        (tSeq (tAsg (tCl sp_spl (tCons (tSl rSlS (tVar 3) tNoPart (tPart (tUn (rU fun i => .int (-i)) (tC (.int 1))))) (tCons (tC (.str ", ")) tNil))) (gLst K 2 (gCons (gName 4) (gCons (gName 5) gNil))))
          (tRet (tTup (tCons (tVar 1) (tCons (tCl (sp_lao n) (tCons (tVar 4) tNil)) (tCons (tCl (sp_lao n) (tCons (tVar 5) tNil)) tNil)))))) D (L2.start N__law_amount_of [.str (S a.txt)]) H1 := fun w0 x y hw ht hp wx wy hx hy H1 D eD e1 => by
    refine ⟨_, rfl, ⟨_, rfl⟩, _, _, rfl, rfl, by decide +kernel, small _ (by rw [S_size]; omega), fun p np => ?_⟩
    have ep : Txt.partition (S a.txt) "(" = (S w0.tx, S [40], S ((x.txt ++ (tComma ++ y.txt)) ++ [41])) := by
      rw [ht, show w0.tx ++ (tOpen ++ (x.txt ++ (tComma ++ (y.txt ++ tClose)))) = w0.tx ++ (40 :: ((x.txt ++ (tComma ++ y.txt)) ++ [41])) by simp [tOpen, tClose]]
      exact part_open (word_no40 w0)
    rw [ep]
    have s2 : Same H1 (upd H1 p (.tup [.str (S w0.tx), .str (S [40]), .str (S ((x.txt ++ (tComma ++ y.txt)) ++ [41]))])) := Same.new np
    have h2 : (upd H1 p (.tup [.str (S w0.tx), .str (S [40]), .str (S ((x.txt ++ (tComma ++ y.txt)) ++ [41]))])) p = some (.tup [.str (S w0.tx), .str (S [40]), .str (S ((x.txt ++ (tComma ++ y.txt)) ++ [41]))]) := upd_same
    generalize upd H1 p (.tup [.str (S w0.tx), .str (S [40]), .str (S ((x.txt ++ (tComma ++ y.txt)) ++ [41]))]) = H2 at s2 h2 ⊢
    refine ⟨p, _, rfl, SqT.of h2, rfl, _, _, rfl, _, _, rfl, _, _, rfl, rfl, ?_⟩
    have hlen : ((x.txt ++ (tComma ++ y.txt)) ++ [41]).length ≤ 3000 ∧ x.txt.length ≤ 3000 ∧ y.txt.length ≤ 3000 := by
      have := hl
      rw [ht] at this
      simp only [List.length_append, tOpen, tClose, tComma, List.length_cons, List.length_nil] at this ⊢
      omega
    refine ⟨_, rfl, _, rfl, _, rfl, _, rfl, small _ (by rw [S_size]; omega), ?_⟩
    rw [cut_butlast]
    refine ⟨x.txt ++ (tComma ++ y.txt), tComma, by rw [show (", " : Str) = S tComma by decide +kernel], by have := hlen.1; rw [List.length_append] at this; omega, by decide, by decide, fun H3 l s3 h3 => ?_⟩
    rw [spl_comma (Amt.fitT (.inl rfl) wx) (Amt.fitT (.inl rfl) wy)] at h3
    refine ⟨l, _, rfl, Evl.sq_of h3, rfl, _, _, rfl, _, _, rfl, rfl, ?_⟩
    refine ⟨_, rfl, _, rfl, x, rfl, wx, hlen.2.1, hx, fun H4 u s4 hu => ?_⟩
    refine ⟨_, rfl, y, rfl, wy, hlen.2.2, hy, fun H5 v s5 hv => ?_⟩
    refine ⟨(by show 3 ≤ sizeLine; decide), ?_⟩
    rw [eD]
    exact mk3 (e1.trans (s2.trans (s3.trans (s4.trans s5)))) hp (hu.up (Same.tups s5)) hv
  cases a with
  | price => exact Evl.q_when (inT (b := true) (by decide +kernel)) (fun _ H1 e1 => ret1 H1 _ rfl e1 rfl) (fun hb => by cases hb)
  | time => exact Evl.q_when (inT (b := true) (by decide +kernel)) (fun _ H1 e1 => ret1 H1 _ rfl e1 rfl) (fun hb => by cases hb)
  | num ds =>
    have wf : Canon 10 ds := wf
    have h2 := wf.2.1
    have hno : S ds ∉ (["price", "time"] : List Str) := fun hm => by
      have hp : ∀ w0 : Word, ds = w0.tx → False := fun w0 e => by
        have h1 := tx_two w0
        cases hw : w0.tx with
        | nil => rw [hw] at h1; simp at h1
        | cons c t =>
          have h3 := word_plain w0 c (by rw [hw]; exact List.mem_cons_self)
          have h4 := wf.digit (c := c) (by rw [e, hw]; exact List.mem_cons_self)
          omega
      rcases List.mem_cons.mp hm with e | hm
      · exact hp .price (S_inj (e.trans (by decide +kernel)))
      · rcases List.mem_cons.mp hm with e | hm
        · exact hp .time (S_inj (e.trans (by decide +kernel)))
        · cases hm
    refine Evl.q_when (inT (b := false) (decide_eq_false hno)) (fun hb => by cases hb) (fun _ H1 e1 => ?_)
    refine Evl.q_when (dig (b := true) (isdigit_yes wf)) (fun _ H2 e2 => ?_) (fun hb => by cases hb)
    refine ⟨_, rfl, _, _, rfl, num_text wf.2.2.1 wf.1 (by omega), by show (S ds).length ≤ 640; rw [S_size]; omega, ?_⟩
    refine ⟨(by show 2 ≤ sizeLine; decide), fun p np => ?_⟩
    exact q _ _ (Same.trans e1 (Same.trans e2 (Same.new np))) ⟨p, _, rfl, upd_same, _, _, rfl, congrArg V.str (show ("number" : Str) = S tNumber by decide +kernel), _, _, rfl, rfl, rfl⟩
  | most x y =>
    have hm : max x.hgt y.hgt < n := by have : 1 + max x.hgt y.hgt < n + 1 := hh; omega
    refine Evl.q_when (inT (b := false) (decide_eq_false fun hm => ?_)) (fun hb => by cases hb) (fun _ H1 e1 => ?_)
    · rcases List.mem_cons.mp hm with e | hm
      · exact absurd (S_inj (e.trans (show ("price" : Str) = S Word.price.tx by decide +kernel))) (by intro h; have := (List.cons.inj h).1; cases this)
      · rcases List.mem_cons.mp hm with e | hm
        · exact absurd (S_inj (e.trans (show ("time" : Str) = S Word.time.tx by decide +kernel))) (by intro h; have := (List.cons.inj h).1; cases this)
        · cases hm
    refine Evl.q_when (dig (b := false) (isdigit_no (c := 109) (by decide) rfl)) (fun hb => by cases hb) (fun _ H2 e2 => ?_)
    refine Evl.q_when (b := true) (et_refl fun H3 e3 Q1 q1 => ?_) (fun _ H3 e3 => ?_) (fun hb => by cases hb)
    · exact ⟨_, rfl, _, _, 109, rfl, rfl, small _ (by rw [S_size]; omega), at0, rfl, _, rfl, q1⟩
    · exact br .most x y (.inl rfl) rfl rfl wf.1 wf.2 (by omega) (by omega) H3 _ rfl (Same.trans e1 (Same.trans e2 e3))
  | least x y =>
    have hm : max x.hgt y.hgt < n := by have : 1 + max x.hgt y.hgt < n + 1 := hh; omega
    refine Evl.q_when (inT (b := false) (decide_eq_false fun hm => ?_)) (fun hb => by cases hb) (fun _ H1 e1 => ?_)
    · rcases List.mem_cons.mp hm with e | hm
      · exact absurd (S_inj (e.trans (show ("price" : Str) = S Word.price.tx by decide +kernel))) (by intro h; have := (List.cons.inj h).1; cases this)
      · rcases List.mem_cons.mp hm with e | hm
        · exact absurd (S_inj (e.trans (show ("time" : Str) = S Word.time.tx by decide +kernel))) (by intro h; have := (List.cons.inj h).1; cases this)
        · cases hm
    refine Evl.q_when (dig (b := false) (isdigit_no (c := 108) (by decide) rfl)) (fun hb => by cases hb) (fun _ H2 e2 => ?_)
    refine Evl.q_when (b := true) (et_refl fun H3 e3 Q1 q1 => ?_) (fun _ H3 e3 => ?_) (fun hb => by cases hb)
    · exact ⟨_, rfl, _, _, 108, rfl, rfl, small _ (by rw [S_size]; omega), at0, rfl, _, rfl, q1⟩
    · exact br .least x y (.inr rfl) rfl rfl wf.1 wf.2 (by omega) (by omega) H3 _ rfl (Same.trans e1 (Same.trans e2 e3))
  | pr k x y =>
    have hm : max x.hgt y.hgt < n := by have : 1 + max x.hgt y.hgt < n + 1 := hh; omega
    obtain ⟨hk, wx, wy⟩ : k ∈ pairs ∧ x.wf ∧ y.wf := wf
    have ht : (Amt.pr k x y).txt = 40 :: ((x.txt ++ (k.tx ++ y.txt)) ++ [41]) := by show tOpen ++ _ = _; simp [tOpen, tClose]
    have hlen : (x.txt ++ (k.tx ++ y.txt)).length ≤ 3000 ∧ x.txt.length ≤ 3000 ∧ y.txt.length ≤ 3000 := by
      have := hl
      rw [ht] at this
      simp only [List.length_append, List.length_cons, List.length_nil] at this ⊢
      omega
    refine Evl.q_when (inT (b := false) (decide_eq_false fun hm => ?_)) (fun hb => by cases hb) (fun _ H1 e1 => ?_)
    · rcases List.mem_cons.mp hm with e | hm
      · exact absurd (S_inj (e.trans (show ("price" : Str) = S Word.price.tx by decide +kernel))) (by intro h; have := (List.cons.inj h).1; cases this)
      · rcases List.mem_cons.mp hm with e | hm
        · exact absurd (S_inj (e.trans (show ("time" : Str) = S Word.time.tx by decide +kernel))) (by intro h; have := (List.cons.inj h).1; cases this)
        · cases hm
    refine Evl.q_when (dig (b := false) (isdigit_no (c := 40) (by decide) rfl)) (fun hb => by cases hb) (fun _ H2 e2 => ?_)
    refine Evl.q_when (b := false) (et_refl fun H3 e3 Q1 q1 => ?_) (fun hb => by cases hb) (fun _ H3 e3 => ?_)
    · exact ⟨_, rfl, _, _, 40, rfl, rfl, small _ (by rw [S_size]; omega), at0, rfl, _, rfl, q1⟩
    have s3 : Same H H3 := Same.trans e1 (Same.trans e2 e3)
    have mk1 : ∀ {σ : L2.St} {H : Hp} {a b : Str} {k : Mk}, a = S k.tx → b = S k.nm → EvD (tTup (tCons (tC (.str a)) (tCons (tC (.str b)) tNil))) σ H (.tuple [st k.tx, st k.nm]) := fun ha hb => ed_tup (eds_cons (ed_str ha) (eds_cons (ed_str hb) eds_nil)) (by simp)
    have hidx : ∃ j : Nat, pairs[j]? = some k ∧ ∀ i : Nat, i < j → pairs[i]? ≠ some k := first_at hk
    obtain ⟨j, hj, hno⟩ := hidx
    have jl : j < 3 := (List.getElem?_eq_some_iff.mp hj).1
    refine q_forD (ds := pairs.map fun m => .tuple [st m.tx, st m.nm]) (eds_cons (mk1 (k := .plus) (by decide +kernel) (by decide +kernel)) (eds_cons (mk1 (k := .minus) (by decide +kernel) (by decide +kernel)) (eds_cons (mk1 (k := .times) (by decide +kernel) (by decide +kernel)) eds_nil))) (by decide)
      (fun i σ' H' => Same H H' ∧ i ≤ j ∧ ∃ o1 o6 o7, σ' = [some (.str (S (Amt.pr k x y).txt)), o1, none, none, none, none, o6, o7]) (fun H4 s4 => ⟨s3.trans s4, Nat.zero_le _, none, none, none, rfl⟩) (fun H4 l xs s4 h4 hxs i v σ' H' hi s5 p => ?_) (fun σ' H' p => ?_)
    · obtain ⟨s6, hij, o1, o6, o7, rfl⟩ := p
      obtain ⟨d, hd, hv⟩ := hxs.get hi
      rw [List.getElem?_map] at hd
      cases hpi : pairs[i]? with
      | none => rw [hpi] at hd; cases hd
      | some m =>
      rw [hpi] at hd
      cases hd
      obtain ⟨b, us, rfl, hb, u1, us1, rfl, hu1, u2, us2, rfl, hu2, hn⟩ := hv.up (Same.tups s5)
      cases hu1; cases hu2; cases hn
      refine ⟨b, _, rfl, SqT.of hb, rfl, _, _, rfl, _, _, rfl, rfl, ?_⟩
      refine ⟨_, rfl, _, rfl, _, rfl, _, rfl, _, rfl, small _ (by show (S (Amt.pr k x y).txt).length ≤ 100000; rw [S_size]; omega), ?_⟩
      rw [ht, cut_inner]
      refine ⟨_, rfl, x.txt ++ (k.tx ++ y.txt), m.tx, rfl, hlen.1, by cases m <;> decide, by cases m <;> decide, fun H7 l7 s7 h7 => ?_⟩
      by_cases hmk : m = k
      · subst hmk
        rw [spl_this wx wy] at h7
        refine ⟨_, rfl, _, _, rfl, .inl (Evl.sq_of h7), rfl, _, rfl, iteT ?_⟩
        refine ⟨_, rfl, _, rfl, l7, _, 0, _, rfl, rfl, Evl.sq_of h7, at0, x, rfl, wx, hlen.2.1, by omega, fun H8 u s8 hu => ?_⟩
        refine ⟨_, rfl, l7, _, 1, _, rfl, rfl, Evl.sq_of (s8 _ _ h7), at1, y, rfl, wy, hlen.2.2, by omega, fun H9 v s9 hv => ?_⟩
        refine ⟨(by show 3 ≤ sizeLine; decide), ?_⟩
        exact mk3 (s6.trans (s7.trans (s8.trans s9))) rfl (hu.up (Same.tups s9)) hv
      · rw [spl_other wx wy (fun e => hmk e.symm)] at h7
        refine ⟨_, rfl, _, _, rfl, .inl (Evl.sq_of h7), rfl, _, rfl, iteF ?_⟩
        refine ⟨s5.trans s7, s6.trans s7, ?_, _, _, _, rfl⟩
        have : i ≠ j := fun e => hmk (Option.some.inj (by rw [← hpi, e, hj]))
        omega
    · obtain ⟨s6, hij, _⟩ := p
      exact absurd hij (by show ¬ 3 ≤ j; omega)
theorem ok_law_amount_of (T : Txt K mg A) (G1 : Cl P w K mg base CX0 1 "_law_split" sp_spl) : ∀ n : Nat, Cl P w K mg base CX0 (2 + n) "_law_amount_of" (sp_lao n)
  | 0 => T.f__law_amount_of.none fun vs H Q E ⟨_, _, _, _, h, _⟩ => absurd h (Nat.not_lt_zero _)
  | n + 1 => lao_step T G1 (ok_law_amount_of T G1 n)
def sp_lso : Sp := fun vs H Q _ => ∃ q : Shr, vs = [.str (S q.txt)] ∧ q.wf ∧ ∀ H' v, Same H H' → Tp H' q.ld v → Q v H'
theorem neg_text {ds : Tx} {m : Nat} (h : Canon m ds) (hm : m ≤ 400) : intText? (S (45 :: ds)) = some (0 - numV ds) := by
  have e := intText_neg (x := S (45 :: ds)) (cs := ds) rfl (fun c hc => h.digit hc) h.1 (by rw [S_size, List.length_cons]; have := h.2.1; omega)
  rw [e]
  congr 1
  show -((natV ds : Nat) : Int) = 0 - ((natV ds : Nat) : Int)
  omega
theorem ok_law_share_of (T : Txt K mg A) : Cl P w K mg base CX0 1 "_law_share_of" sp_lso := by
  refine T.f__law_share_of.cl sc__law_share_of (fun vs H Q E h => ?_) (fun f cdv A' outer s H vs Q E hr h => ?_)
  · obtain ⟨q, rfl, _⟩ := h; rfl
  obtain ⟨q, rfl, wf, k⟩ := h
  refine ⟨_, (pss_cons (ps_asg (pe_partition (pv 0) pe_str) (pg_tup rfl (pgs_cons (pg_name (i := 1) sc__law_share_of.nd rfl (Or.inl rfl)) (pgs_cons (pg_name (i := 2) sc__law_share_of.nd rfl (Or.inl rfl)) (pgs_cons (pg_name (i := 3) sc__law_share_of.nd rfl (Or.inl rfl)) pgs_nil))))) (pss_cons (ps_if (PW.pt (pw_or (pt_cmpR op_eq (pv 1) pe_str (nomark _)) (pw_or1 (pt_cmpR op_eq (pv 3) pe_str (nomark _))))) (pss_one (ps_ret (pe_tup (pa_cons pe_int (pa_cons pe_int pa_nil))))) pss_nil) (pss_one (ps_ret (pe_tup (pa_cons (pe_callTy call_int_str (by rfl) T.z_int (by decide +kernel) (pa_cons (pv 1) pa_nil)) (pa_cons (pe_ifExp (pt_cmpR op_eq (pv 2) pe_str (nomark _)) pe_int (pe_callTy call_int_str (by rfl) T.z_int (by decide +kernel) (pa_cons (pv 3) pa_nil))) pa_nil))))))), ?_⟩
  have al := Shr.ablen wf
  refine ⟨_, rfl, ⟨_, rfl⟩, _, _, rfl, rfl, by decide +kernel, small _ (by rw [S_size]; have := Shr.len wf; omega), fun p np => ?_⟩
  rw [Shr.part wf]
  have s0 : Same H (upd H p (.tup [.str (S q.ab), .str (S q.st), .str (S q.be)])) := Same.new np
  have h0 : (upd H p (.tup [.str (S q.ab), .str (S q.st), .str (S q.be)])) p = some (.tup [.str (S q.ab), .str (S q.st), .str (S q.be)]) := upd_same
  refine ⟨p, _, rfl, SqT.of h0, rfl, _, _, rfl, _, _, rfl, _, _, rfl, rfl, ?_⟩
  generalize upd H p (.tup [.str (S q.ab), .str (S q.st), .str (S q.be)]) = H1 at s0 h0 ⊢
  have hab : decide (q.ab = [45, 48]) = (q.neg && decide (q.n = [48])) := by
    unfold Shr.ab
    cases hn : q.neg with
    | true => simp
    | false =>
      refine decide_eq_false fun e => ?_
      have e : q.n = [45, 48] := e
      have := wf.1.digit (c := 45) (by rw [e]; exact List.mem_cons_self)
      omega
  have hbe : decide (q.be = [49]) = decide (q.d = some [49]) := by
    unfold Shr.be
    cases q.d with
    | none => rfl
    | some e => simp
  have tp : ∀ {H2 : Hp} {x y : Int}, Same H1 H2 → q.ld = .tuple [.int x, .int y] → ∀ p, H2 p = none → Q (.ref p) (upd H2 p (.tup [.int x, .int y])) := fun s2 e p np => k _ _ (s0.trans (s2.trans (Same.new np))) (by rw [e]; exact ⟨p, _, rfl, upd_same, _, _, rfl, rfl, _, _, rfl, rfl, rfl⟩)
  dsimp only
  refine Evl.q_when (b := (q.neg && decide (q.n = [48])) || decide (q.d = some [49])) (Evl.et_or (et_refl fun H2 _ Q1 q1 => ⟨_, rfl, rfl, _, rfl, by rw [eqS (show ("-0" : Str) = S [45, 48] by decide +kernel), hab]; exact q1⟩) fun _ => et_refl fun H2 _ Q1 q1 => ⟨_, rfl, rfl, _, rfl, by rw [eqS (show ("1" : Str) = S [49] by decide +kernel), hbe]; exact q1⟩) (fun hb H2 e2 => ?_) (fun hb H2 e2 => ?_)
  · exact ⟨(by show 2 ≤ sizeLine; decide), tp e2 (by unfold Shr.ld; rw [if_pos hb])⟩
  · have hld : q.ld = .tuple [.int q.nV, .int q.dV] := by unfold Shr.ld; rw [if_neg (by rw [hb]; exact Bool.false_ne_true)]
    have hn : intText? (S q.ab) = some q.nV := by
      unfold Shr.ab Shr.nV
      cases hneg : q.neg with
      | true => exact neg_text wf.1 (by decide)
      | false => exact num_text (ds := q.n) wf.1.2.2.1 wf.1.1 (by have := wf.1.2.1; omega)
    refine ⟨_, rfl, _, _, rfl, hn, by rw [S_size]; omega, ?_⟩
    refine ⟨_, rfl, rfl, _, rfl, ?_⟩
    have hst : decide (V.str (S q.st) = V.str "") = q.d.isNone := by
      rw [eqS lit_nil]
      unfold Shr.st
      cases q.d <;> simp
    rw [hst]
    cases hd : q.d with
    | none =>
      refine iteT ⟨(by show 2 ≤ sizeLine; decide), ?_⟩
      exact tp e2 (by rw [hld]; unfold Shr.dV; rw [hd] <;> rfl)
    | some e =>
      have we := wf.2 e hd
      refine iteF ⟨_, rfl, _, _, rfl, (by unfold Shr.be; rw [hd]; exact num_text (ds := e) we.2.2.1 we.1 (by have := we.2.1; omega)), (by unfold Shr.be; rw [hd, S_size]; have := we.2.1; show e.length ≤ 640; omega), ?_⟩
      refine ⟨(by show 2 ≤ sizeLine; decide), ?_⟩
      exact tp e2 (by rw [hld]; unfold Shr.dV; rw [hd] <;> rfl)
end
end K06
end Sec_L7
section Sec_L8
set_option Elab.async false
set_option linter.all false
set_option maxRecDepth 100000
set_option maxHeartbeats 4000000
namespace K06
open PySem PySem.Spec PyProof.Rows L2
open SX (S)
/-! ### deals, from their texts -/
def Deal.hgt : Deal → Nat
  | .none => 0
  | .coin a => 1 + a.hgt
  | .one _ d => 1 + d.hgt
  | .two _ d e => 1 + max d.hgt e.hgt
  | .later _ d => 1 + d.hgt
  | .when _ s d => 1 + max (max s.a.hgt s.b.hgt) d.hgt
  | .scale a d => 1 + max a.hgt d.hgt
  | .by _ d => 1 + d.hgt
abbrev Deal.ld (d : Deal) : PyData := d.dat Shr.ld
theorem lc_data {J : It} {G : Hp → Prop} {xs : List V} (ds : List PyData) {g : TG} {te : TE} {vs : List Nat} {σ : L2.St} {H1 : Hp} {D : Addr} {Qd : Hp → Prop} (wk : Walk J xs.length G (YAt xs)) (hG : ∀ H', Same H1 H' → G H') (hD : H1 D = none) (hz : xs.length ≤ 100000) (hl : ds.length = xs.length)
    (hs : ∀ (i : Nat) (x : V) (d : PyData) (H : Hp), xs[i]? = some x → ds[i]? = some d → Same H1 H → ∀ Q : VK, (∀ v H4, Same H H4 → Tp H4 d v → Q v H4) → g x (wipe σ vs) H fun σ2 H2 => wipe σ2 vs = wipe σ vs ∧ te σ2 H2 Q)
    (hd : ∀ H acc, Same H1 H → H D = some (.lst acc) → TpL H ds acc → Qd H) :
    ∃ W : Nat → Nat → Hp → Prop, (∃ m, W 0 m (upd H1 D (.lst []))) ∧ ∀ i m H, W i m H →
      (J.stop i H ∧ Qd H) ∨ (J.go i H ∧ ∃ Nx : Hp → Prop, (∀ H', Nx H' → ∃ m', m' < m ∧ W (i + 1) m' H') ∧ ∀ x H', J.yld i H x H' → g x (wipe σ vs) H' fun σ2 H2 => wipe σ2 vs = wipe σ vs ∧ tYes σ2 H2 fun b H3 =>
        if b = true then te σ2 H3 fun y H4 => ∃ acc, H4 D = some (.lst acc) ∧ acc.length < sizeLine ∧ Nx (upd H4 D (.lst (acc ++ [y]))) else Nx H3) := by
  refine lc_it wk (fun i H => Same H1 H ∧ ∃ acc, H D = some (.lst acc) ∧ TpL H (ds.take i) acc) ⟨Same.new hD, [], upd_same, rfl⟩ (fun i H _ p => hG H p.1) (fun i x H H' hi p y => ?_) (fun H p => ?_)
  · obtain ⟨rfl, hx⟩ := y
    obtain ⟨s1, acc, ha, ht⟩ := p
    have il : i < ds.length := by omega
    refine hs i x ds[i] _ hx (List.getElem?_eq_getElem il) s1 _ fun v H4 s4 hv => ?_
    have h4 := s4 _ _ ha
    have t4 : Tups H4 (upd H4 D (.lst (acc ++ [v]))) := Tups.upd h4 (fun _ z => by cases z)
    refine ⟨acc, h4, ?_, (Evl.Ex.mut (Evl.Ex.trans s1 s4) hD : Same _ _), _, upd_same, ?_⟩
    · rw [ht.length, List.length_take]
      exact Nat.lt_of_lt_of_le (show min i ds.length < 100001 by omega) (by decide)
    · rw [List.take_succ_eq_append_getElem il]
      exact (ht.up ((Same.tups s4).trans t4)).snoc (hv.up t4)
  · obtain ⟨s1, acc, ha, ht⟩ := p
    rw [← hl, List.take_length] at ht
    exact hd H acc s1 ha ht
/-- (..) + tuple(the deals) -/
theorem fin_cat {K : PySem.W.Frag} {σ : L2.St} {H : Hp} {a l : Addr} {us acc : List V} {pre ds : List PyData} {Q : VK} {i : Nat} (ha : H a = some (.tup us)) (hu : TpL H pre us) (hne : us ≠ []) (hs : σ[i]? = some (some (.ref l))) (hl : H l = some (.lst acc)) (hacc : TpL H ds acc) (hz : pre.length + ds.length ≤ 1000)
    (k : ∀ H' v, Same H H' → Tp H' (.tuple (pre ++ ds)) v → Q v H') :
    (tCB (fun xs H Q => ∃ p ys, xs = [V.ref p] ∧ ((SqL K H p ys ∧ ∀ l, H l = none → Q (.ref l) (upd H l (.tup ys))) ∨ (SqT K H p ys ∧ Q (.ref p) H))) (tCons (tVar i) tNil)) σ H fun y H2 => rCatA K (.ref a) y H2 Q := by
  refine ⟨_, hs, l, _, rfl, .inl ⟨Evl.sq_of hl, fun p np => ?_⟩⟩
  have s1 : Same H (upd H p (.tup acc)) := Same.new np
  have h1 : (upd H p (.tup acc)) p = some (.tup acc) := upd_same
  generalize upd H p (.tup acc) = H1 at s1 h1 ⊢
  refine ⟨a, p, us, acc, rfl, rfl, Evl.st_of (s1 _ _ ha), Evl.st_of h1, Nat.le_trans (show us.length + acc.length ≤ 1000 by rw [hu.length, hacc.length]; exact hz) (by decide), fun h => absurd h hne, fun _ h => ?_, fun _ h q nq => ?_⟩
  · subst h
    have hds : ds = [] := by have := hacc.length; cases ds <;> simp at this ⊢
    subst hds
    refine k H1 _ s1 ?_
    rw [List.append_nil]
    exact ⟨a, us, rfl, s1 _ _ ha, hu.up (Same.tups s1)⟩
  · have s2 : Same H1 (upd H1 q (.tup (us ++ acc))) := Same.new nq
    refine k _ _ (s1.trans s2) ⟨q, _, rfl, upd_same, ?_⟩
    exact (hu.up ((Same.tups s1).trans (Same.tups s2))).app (hacc.up ((Same.tups s1).trans (Same.tups s2)))
/-- a deal's word, its inside, the texts of the arguments, how many stand ahead of the deals -/
def Deal.w : Deal → Word
  | .none => .none | .coin _ => .coin | .one v _ => v | .two v _ _ => v | .later _ _ => .later | .when v _ _ => v | .scale _ _ => .scale | .by _ _ => .by
def Deal.args : Deal → List Tx
  | .none => [] | .coin a => [a.txt] | .one _ d => [d.txt] | .two _ d e => [d.txt, e.txt] | .later f d => [f, d.txt] | .when _ s d => [s.txt, d.txt] | .scale a d => [a.txt, d.txt] | .by q d => [q.txt, d.txt]
def Deal.inn : Deal → Tx
  | .none => [] | .coin a => a.txt | .one _ d => d.txt | .two _ d e => d.txt ++ (tComma ++ e.txt) | .later f d => f ++ (tComma ++ d.txt) | .when _ s d => s.txt ++ (tComma ++ d.txt) | .scale a d => a.txt ++ (tComma ++ d.txt) | .by q d => q.txt ++ (tComma ++ d.txt)
def Deal.k : Deal → Nat
  | .none => 0 | .one _ _ => 0 | .two _ _ _ => 0 | _ => 1
theorem Deal.vtxt {d : Deal} (h : d ≠ .none) : d.txt = d.w.tx ++ (40 :: (d.inn ++ [41])) := by
  cases d with
  | none => exact absurd rfl h
  | _ => simp [Deal.txt, Deal.w, Deal.inn, tOpen, tClose]
theorem Deal.vsp {d : Deal} (h : d ≠ .none) (wf : d.wf) : spl tComma 0 0 d.inn [] = d.args := by
  cases d with
  | none => exact absurd rfl h
  | coin a => exact spl_comma1 (Amt.fitT (.inl rfl) wf)
  | one v d => exact spl_comma1 (Deal.fitT wf.2)
  | two v d e => exact spl_comma (Deal.fitT wf.2.1) (Deal.fitT wf.2.2)
  | later f d => exact spl_comma (fig_fit wf.1) (Deal.fitT wf.2)
  | when v s d => exact spl_comma (Sgn.fitT wf.2.1) (Deal.fitT wf.2.2)
  | scale a d => exact spl_comma (Amt.fitT (.inl rfl) wf.1) (Deal.fitT wf.2)
  | «by» q d => exact spl_comma (Shr.fitT wf.1) (Deal.fitT wf.2)
theorem Deal.vsub {d : Deal} : d.args.drop d.k = d.sub.map Deal.txt := by cases d <;> rfl
def isPl : Word → Bool
  | .give => true | .any => true | .both => true | .either => true | _ => false
theorem vkw (w : Word) : decide (S w.tx ∈ (["give", "any", "both", "either"] : List Str)) = isPl w := by cases w <;> decide +kernel
theorem Deal.vk {d : Deal} (h : d ≠ .none) (wf : d.wf) : decide (S d.w.tx ∈ (["give", "any", "both", "either"] : List Str)) = decide (d.k = 0) := by
  rw [vkw]
  cases d with
  | none => exact absurd rfl h
  | one v d => rcases wf.1 with rfl | rfl <;> rfl
  | two v d e => rcases wf.1 with rfl | rfl <;> rfl
  | when v s d => rcases wf.1 with rfl | rfl <;> rfl
  | _ => rfl
theorem Deal.k_le (d : Deal) : d.k ≤ 1 := by cases d <;> simp [Deal.k]
theorem Deal.alen {d : Deal} : (∀ x ∈ d.args, x.length ≤ d.txt.length) ∧ d.inn.length ≤ d.txt.length := by
  cases d <;> simp [Deal.args, Deal.inn, Deal.txt] <;> omega
theorem Deal.sub_hgt {d : Deal} : ∀ e ∈ d.sub, e.hgt < d.hgt := by
  cases d <;> intro e h <;> simp only [Deal.sub, List.mem_cons, List.not_mem_nil, or_false] at h
  · subst h; simp [Deal.hgt]
  · rcases h with rfl | rfl <;> simp [Deal.hgt] <;> omega
  · subst h; simp [Deal.hgt]
  · subst h; simp [Deal.hgt]; omega
  · subst h; simp [Deal.hgt]; omega
  · subst h; simp [Deal.hgt]
section
variable {P : Program} {w : World} {K : PySem.W.Frag} {mg : Str → Option Value} {base : Heap} {A : Ads}
def sp_ldo (n : Nat) : Sp := fun vs H Q _ => ∃ d : Deal, vs = [.str (S d.txt)] ∧ d.wf ∧ d.txt.length ≤ 3000 ∧ d.hgt < n ∧ ∀ H' v, Same H H' → Tp H' d.ld v → Q v H'
/-- the walk up to the deals -/
theorem ldo_step (T : Txt K mg A) {n : Nat} (G__law_split : Cl P w K mg base CX0 1 "_law_split" sp_spl) (G__law_share_of : Cl P w K mg base CX0 1 "_law_share_of" sp_lso) (G__law_amount_of : Cl P w K mg base CX0 (2 + n) "_law_amount_of" (sp_lao n)) (G__law_deal_of : Cl P w K mg base CX0 (3 + n) "_law_deal_of" (sp_ldo n)) : Cl P w K mg base CX0 (3 + n + 1) "_law_deal_of" (sp_ldo (n + 1)) := by
  refine T.f__law_deal_of.cl sc__law_deal_of (fun vs H Q E h => ?_) (fun f cdv A' outer s H vs Q E hr h => ?_)
  · obtain ⟨d, rfl, _⟩ := h; rfl
  obtain ⟨d, rfl, wf, hl, hh, q⟩ := h
  refine ⟨_, (pss_cons (ps_asg (pe_partition (pv 0) pe_str) (pg_tup rfl (pgs_cons (pg_name (i := 1) sc__law_deal_of.nd rfl (Or.inl rfl)) (pgs_cons (pg_name (i := 2) sc__law_deal_of.nd rfl (Or.inl rfl)) (pgs_cons (pg_name (i := 3) sc__law_deal_of.nd rfl (Or.inl rfl)) pgs_nil))))) (pss_cons (ps_if (pt_cmpR op_eq (pv 2) pe_str (nomark _)) (pss_one (ps_ret (pe_tup (pa_cons (pv 1) pa_nil)))) pss_nil) (pss_cons (ps_set (i := 4) sc__law_deal_of.nd rfl (Or.inl rfl) (pcl G__law_split hr (by omega) rfl (pa_cons (pe_slice sl_str (pv 3) po_none (po_some (pe_un un_neg pe_int))) (pa_cons pe_str pa_nil)))) (pss_cons (ps_setLc (i := 5) (own := [("_law_part", 9)]) (g := gName 9) rfl sc__law_deal_of.nd rfl rfl (sw_true rfl rfl rfl (by decide +kernel)) (pi_list (pe_slice sl_list (pv 4) (po_some (pe_callTy call_int1 (by rfl) T.z_int (by decide +kernel) (pa_cons (pe_cmpR op_notIn_seq (pv 1) (pe_tup (pa_cons pe_str (pa_cons pe_str (pa_cons pe_str (pa_cons pe_str pa_nil))))) (by rfl)) pa_nil))) po_none)) (blkOk_by (own := [("_law_part", 9)]) (N := N__law_deal_of) (sc := defScope s__law_deal_of) (by decide +kernel)) (fun _ _ _ _ _ => pg_name (i := 9) sc__law_deal_of.nd rfl (Or.inl rfl)) (fun _ _ _ _ _ => pts_nil) (fun _ _ _ _ _ => (pcl G__law_deal_of hr (by omega) rfl (pa_cons (pv 9) pa_nil)))) (pss_cons (ps_if (PW.pt (pw_or (pt_cmpR op_eq (pv 1) pe_str (nomark _)) (pw_or1 (pt_cmpR op_eq (pv 1) pe_str (nomark _))))) (pss_one (ps_ret (pe_op op_catA (pe_tup (pa_cons (pv 1) (pa_cons (pcl G__law_amount_of hr (by omega) rfl (pa_cons (pe_ix ix_list (pv 4) pe_int (fun _ _ => rfl)) pa_nil)) pa_nil))) (pe_callTy call_tuple_of (by rfl) T.z_tuple (by decide +kernel) (pa_cons (pv 5) pa_nil))))) pss_nil) (pss_cons (ps_if (pt_cmpR op_eq (pv 1) pe_str (nomark _)) (pss_one (ps_ret (pe_op op_catA (pe_tup (pa_cons (pv 1) (pa_cons (pe_callTy call_int_str (by rfl) T.z_int (by decide +kernel) (pa_cons (pe_ix ix_list (pv 4) pe_int (fun _ _ => rfl)) pa_nil)) pa_nil))) (pe_callTy call_tuple_of (by rfl) T.z_tuple (by decide +kernel) (pa_cons (pv 5) pa_nil))))) pss_nil) (pss_cons (ps_if (pt_cmpR op_eq (pv 1) pe_str (nomark _)) (pss_one (ps_ret (pe_op op_catA (pe_tup (pa_cons (pv 1) (pa_cons (pcl G__law_share_of hr (by omega) rfl (pa_cons (pe_ix ix_list (pv 4) pe_int (fun _ _ => rfl)) pa_nil)) pa_nil))) (pe_callTy call_tuple_of (by rfl) T.z_tuple (by decide +kernel) (pa_cons (pv 5) pa_nil))))) pss_nil) (pss_cons (ps_if (PW.pt (pw_or (pt_cmpR op_eq (pv 1) pe_str (nomark _)) (pw_or1 (pt_cmpR op_eq (pv 1) pe_str (nomark _))))) (pss_cons (ps_set (i := 6) sc__law_deal_of.nd rfl (Or.inl rfl) (pe_ifExp (pt_cmpR op_eq (pe_callB call_len_seq (by rfl) T.z_len (by decide +kernel) (pa_cons (pcl G__law_split hr (by omega) rfl (pa_cons (pe_ix ix_list (pv 4) pe_int (fun _ _ => rfl)) (pa_cons pe_str pa_nil))) pa_nil)) pe_int (nomark _)) pe_str pe_str)) (pss_cons (ps_asg (pcl G__law_split hr (by omega) rfl (pa_cons (pe_ix ix_list (pv 4) pe_int (fun _ _ => rfl)) (pa_cons (pe_ifExp (pt_cmpR op_eq (pv 6) pe_str (nomark _)) pe_str pe_str) pa_nil))) (pg_lst rfl (pgs_cons (pg_name (i := 7) sc__law_deal_of.nd rfl (Or.inl rfl)) (pgs_cons (pg_name (i := 8) sc__law_deal_of.nd rfl (Or.inl rfl)) pgs_nil)))) (pss_one (ps_ret (pe_op op_catA (pe_tup (pa_cons (pv 1) (pa_cons (pe_tup (pa_cons (pv 6) (pa_cons (pcl G__law_amount_of hr (by omega) rfl (pa_cons (pv 7) pa_nil)) (pa_cons (pcl G__law_amount_of hr (by omega) rfl (pa_cons (pv 8) pa_nil)) pa_nil)))) pa_nil))) (pe_callTy call_tuple_of (by rfl) T.z_tuple (by decide +kernel) (pa_cons (pv 5) pa_nil))))))) pss_nil) (pss_one (ps_ret (pe_op op_catA (pe_tup (pa_cons (pv 1) pa_nil)) (pe_callTy call_tuple_of (by rfl) T.z_tuple (by decide +kernel) (pa_cons (pv 5) pa_nil))))))))))))), ?_⟩
  refine ⟨_, rfl, ⟨_, rfl⟩, _, _, rfl, rfl, by decide +kernel, small _ (by rw [S_size]; omega), fun p np => ?_⟩
  by_cases hnone : d = .none
  · subst hnone
    rw [show Txt.partition (S (Deal.none).txt) "(" = (S Word.none.tx, S [], S []) from part_none (word_no40 .none)]
    have s2 : Same H (upd H p (.tup [.str (S Word.none.tx), .str (S []), .str (S [])])) := Same.new np
    refine ⟨p, _, rfl, SqT.of upd_same, rfl, _, _, rfl, _, _, rfl, _, _, rfl, rfl, ?_⟩
    generalize upd H p (.tup [.str (S Word.none.tx), .str (S []), .str (S [])]) = H2 at s2 ⊢
    refine ⟨_, rfl, rfl, _, rfl, tT (by rw [eqS lit_nil]; rfl) ?_⟩
    refine ⟨_, rfl, (by show 1 ≤ sizeLine; decide), fun p2 np2 => ?_⟩
    exact q _ _ (s2.trans (Same.new np2)) ⟨p2, _, rfl, upd_same, _, _, rfl, rfl, rfl⟩
  -- with arguments
  rw [Deal.vtxt hnone, part_open (word_no40 d.w)]
  have s2 : Same H (upd H p (.tup [.str (S d.w.tx), .str (S [40]), .str (S (d.inn ++ [41]))])) := Same.new np
  have h2 : (upd H p (.tup [.str (S d.w.tx), .str (S [40]), .str (S (d.inn ++ [41]))])) p = some (.tup [.str (S d.w.tx), .str (S [40]), .str (S (d.inn ++ [41]))]) := upd_same
  refine ⟨p, _, rfl, SqT.of h2, rfl, _, _, rfl, _, _, rfl, _, _, rfl, rfl, ?_⟩
  generalize upd H p (.tup [.str (S d.w.tx), .str (S [40]), .str (S (d.inn ++ [41]))]) = H2 at s2 h2 ⊢
  have hinn := (Deal.alen (d := d)).2
  have hargs := (Deal.alen (d := d)).1
  refine ⟨_, rfl, rfl, _, rfl, tF (by rw [eqS lit_nil]; rfl) ?_⟩
  refine ⟨_, rfl, _, rfl, _, rfl, _, rfl, small _ (by rw [S_size, List.length_append]; simp; omega), ?_⟩
  rw [cut_butlast]
  refine ⟨d.inn, tComma, by rw [show (", " : Str) = S tComma by decide +kernel], by omega, by decide, by decide, fun H3 l4 s3 h4 => ?_⟩
  rw [Deal.vsp hnone wf] at h4
  have kl := d.k_le
  have k2 : d.args.length ≤ 2 := by cases d <;> simp [Deal.args]
  refine ⟨_, rfl, _, rfl, (by show 4 ≤ sizeLine; decide), fun p5 np5 => ?_⟩
  have s5 : Same H3 (upd H3 p5 (.tup [.str "give", .str "any", .str "both", .str "either"])) := Same.new np5
  have h5 : (upd H3 p5 (.tup [.str "give", .str "any", .str "both", .str "either"])) p5 = some (.tup [.str "give", .str "any", .str "both", .str "either"]) := upd_same
  generalize upd H3 p5 (.tup [.str "give", .str "any", .str "both", .str "either"]) = H5 at s5 h5 ⊢
  refine ⟨p5, (["give", "any", "both", "either"] : List Str).map V.str, rfl, .inr (Evl.st_of h5), rfl, all_flat _, .inr ⟨_, rfl, ?_⟩⟩
  have ek : (if (if true = true then !inV (.str (S d.w.tx)) ((["give", "any", "both", "either"] : List Str).map V.str) else inV (.str (S d.w.tx)) ((["give", "any", "both", "either"] : List Str).map V.str)) = true then (1 : Int) else 0) = ((d.k : Nat) : Int) := by
    rw [if_pos rfl, inV_str, Deal.vk hnone wf]
    by_cases h : d.k = 0
    · rw [decide_eq_true h, h]; rfl
    · rw [decide_eq_false h]
      have : d.k = 1 := by omega
      rw [this]; rfl
  rw [ek]
  refine ⟨_, rfl, l4, _, rfl, Evl.sq_of (s5 _ _ h4), fun l6 nl6 => ?_⟩
  rw [cutV_from]
  have s6 : Same H5 (upd H5 l6 (.lst ((sts d.args).drop d.k))) := Same.new nl6
  have h6 : (upd H5 l6 (.lst ((sts d.args).drop d.k))) l6 = some (.lst (sts (d.sub.map Deal.txt))) := by rw [upd_same, ← Deal.vsub]; unfold sts; rw [List.map_drop]
  generalize upd H5 l6 (.lst ((sts d.args).drop d.k)) = H6 at s6 h6 ⊢
  have hsl : (sts (d.sub.map Deal.txt)).length = d.sub.length := by simp
  have sl := d.sub_le
  refine ⟨l6, rfl, ⟨_, Evl.sq_of h6⟩, fun D hD => ?_⟩
  refine lc_data (d.sub.map Deal.ld) (walk_list (K := K) (a := l6)) (fun H' s' => Evl.sq_of (s' _ _ h6)) hD (by rw [hsl]; omega) (by rw [hsl, List.length_map]) (fun i x dd H7 hi hdi s7 Q7 q7 => ?_) (fun H7 acc s7 h7 t7 => ?_)
  · unfold sts at hi
    rw [List.map_map, List.getElem?_map] at hi
    rw [List.getElem?_map] at hdi
    cases hsi : d.sub[i]? with
    | none => rw [hsi] at hi; cases hi
    | some e =>
      rw [hsi] at hi hdi
      cases hi; cases hdi
      have he := List.mem_of_getElem? hsi
      refine ⟨rfl, _, rfl, e, rfl, Deal.sub_wf wf e he, ?_, ?_, fun H8 v s8 hv => q7 v H8 s8 hv⟩
      · have : e.txt ∈ d.args := by
          have h1 : e.txt ∈ d.args.drop d.k := by rw [Deal.vsub]; exact List.mem_map.mpr ⟨e, he, rfl⟩
          exact List.mem_of_mem_drop h1
        have := hargs _ this
        omega
      · have := Deal.sub_hgt e he
        omega
  have s07 : Same H H7 := s2.trans (s3.trans (s5.trans (s6.trans s7)))
  have h47 : H7 l4 = some (.lst (sts d.args)) := s7 _ _ (s6 _ _ (s5 _ _ h4))
  dsimp only [gName]
  have eqw : ∀ {σ : L2.St} {H8 : Hp} {x : Str} (y : Word), x = S y.tx → σ[1]? = some (some (.str (S d.w.tx))) → Evl.EvT (tTest (tOp rEq (tVar 1) (tC (.str x)))) σ H8 (decide (d.w = y)) := fun y hx hs => et_refl fun H9 _ Q1 q1 => ⟨_, hs, rfl, _, rfl, by rw [eqS hx, show decide (d.w.tx = y.tx) = decide (d.w = y) from decide_eq_decide.mpr ⟨fun h => Word.tx_inj _ _ h, fun h => by rw [h]⟩]; exact q1⟩
  have eq2 : ∀ {σ : L2.St} {H8 : Hp} {x1 x2 : Str} (y1 y2 : Word) {b : Bool}, x1 = S y1.tx → x2 = S y2.tx → (decide (d.w = y1) || decide (d.w = y2)) = b → σ[1]? = some (some (.str (S d.w.tx))) → Evl.EvT (tOr (tTest (tOp rEq (tVar 1) (tC (.str x1)))) (tTest (tOp rEq (tVar 1) (tC (.str x2))))) σ H8 b := fun y1 y2 b h1 h2 hb hs => Evl.et_is (Evl.et_or (eqw y1 h1 hs) fun _ => eqw y2 h2 hs) hb
  have e_coin : ("coin" : Str) = S Word.coin.tx := by decide +kernel
  have e_scale : ("scale" : Str) = S Word.scale.tx := by decide +kernel
  have e_later : ("later" : Str) = S Word.later.tx := by decide +kernel
  have e_by : ("by" : Str) = S Word.by.tx := by decide +kernel
  have e_once : ("once" : Str) = S Word.once.tx := by decide +kernel
  have e_until : ("until" : Str) = S Word.until.tx := by decide +kernel
  have al3 : ∀ x ∈ d.args, x.length ≤ 3000 := fun x hx => Nat.le_trans (hargs x hx) hl
  -- what is made of the parts ahead (pre) and the deals
  have fc : ∀ {σ : L2.St} {H8 H9 : Hp} {us : List V} {pre : List PyData} {D0 : L2.Ends}, D0.rt = Q → Same H7 H8 → Same H8 H9 → σ[5]? = some (some (.ref D)) → us ≠ [] → d.ld = .tuple (pre ++ d.sub.map Deal.ld) → pre.length ≤ 5 → TpL H9 pre us → ∀ p, H9 p = none →
      (tCB (fun xs H Q => ∃ p ys, xs = [V.ref p] ∧ ((SqL K H p ys ∧ ∀ l, H l = none → Q (.ref l) (upd H l (.tup ys))) ∨ (SqT K H p ys ∧ Q (.ref p) H))) (tCons (tVar 5) tNil)) σ (upd H9 p (.tup us)) fun y H2 => rCatA K (.ref p) y H2 D0.rt := fun {σ H8 H9 us pre D0} eD s8 s9 hs hne hd hpl hu p np => by
    have s10 : Same H9 (upd H9 p (.tup us)) := Same.new np
    have s710 := s8.trans (s9.trans s10)
    refine fin_cat (pre := pre) (ds := d.sub.map Deal.ld) upd_same (hu.up (Same.tups s10)) hne hs (s710 _ _ h7) (t7.up (Same.tups s710)) (by rw [List.length_map]; omega) (fun H11 v s11 hv => ?_)
    rw [eD]
    refine q H11 v (s07.trans (s710.trans s11)) ?_
    rw [hd]
    exact hv
  cases d with
  | none => exact absurd rfl hnone
  | coin a =>
    refine Evl.q_when (b := true) (eq2 .coin .scale e_coin e_scale rfl rfl) (fun _ H8 e8 => ?_) (fun hb => by cases hb)
    have hh : 1 + a.hgt < n + 1 := hh
    refine ⟨_, rfl, _, rfl, l4, _, 0, _, rfl, rfl, Evl.sq_of (e8 _ _ h47), at0, a, rfl, wf, al3 _ List.mem_cons_self, by omega, fun H9 u s9 hu => ⟨(by show 2 ≤ sizeLine; decide), fun p np => ?_⟩⟩
    exact fc (pre := [st Word.coin.tx, a.pd]) (D0 := { nx := fun _ H' => Q .non H', rt := Q }) rfl e8 s9 rfl (by simp) rfl (by simp) ⟨_, _, rfl, rfl, _, _, rfl, hu, rfl⟩ p np
  | one v d1 =>
    refine Evl.q_when (b := false) (eq2 .coin .scale e_coin e_scale (by rcases wf.1 with rfl | rfl <;> rfl) rfl) (fun hb => by cases hb) (fun _ H8 e8 => ?_)
    refine Evl.q_when (b := false) (Evl.et_is (eqw .later e_later rfl) (by rcases wf.1 with rfl | rfl <;> rfl)) (fun hb => by cases hb) (fun _ H9 e9 => ?_)
    refine Evl.q_when (b := false) (Evl.et_is (eqw .by e_by rfl) (by rcases wf.1 with rfl | rfl <;> rfl)) (fun hb => by cases hb) (fun _ H10 e10 => ?_)
    refine Evl.q_when (b := false) (eq2 .once .until e_once e_until (by rcases wf.1 with rfl | rfl <;> rfl) rfl) (fun hb => by cases hb) (fun _ H11 e11 => ?_)
    have s8 : Same H7 H11 := Same.trans e8 (Same.trans e9 (Same.trans e10 e11))
    refine ⟨_, rfl, (by show 1 ≤ sizeLine; decide), fun p np => ?_⟩
    exact fc (pre := [st v.tx]) (D0 := { nx := fun _ H' => Q .non H', rt := Q }) rfl s8 (Same.refl _) rfl (by simp) rfl (by simp) ⟨_, _, rfl, rfl, rfl⟩ p np
  | two v d1 d2 =>
    refine Evl.q_when (b := false) (eq2 .coin .scale e_coin e_scale (by rcases wf.1 with rfl | rfl <;> rfl) rfl) (fun hb => by cases hb) (fun _ H8 e8 => ?_)
    refine Evl.q_when (b := false) (Evl.et_is (eqw .later e_later rfl) (by rcases wf.1 with rfl | rfl <;> rfl)) (fun hb => by cases hb) (fun _ H9 e9 => ?_)
    refine Evl.q_when (b := false) (Evl.et_is (eqw .by e_by rfl) (by rcases wf.1 with rfl | rfl <;> rfl)) (fun hb => by cases hb) (fun _ H10 e10 => ?_)
    refine Evl.q_when (b := false) (eq2 .once .until e_once e_until (by rcases wf.1 with rfl | rfl <;> rfl) rfl) (fun hb => by cases hb) (fun _ H11 e11 => ?_)
    have s8 : Same H7 H11 := Same.trans e8 (Same.trans e9 (Same.trans e10 e11))
    refine ⟨_, rfl, (by show 1 ≤ sizeLine; decide), fun p np => ?_⟩
    exact fc (pre := [st v.tx]) (D0 := { nx := fun _ H' => Q .non H', rt := Q }) rfl s8 (Same.refl _) rfl (by simp) rfl (by simp) ⟨_, _, rfl, rfl, rfl⟩ p np
  | later g d1 =>
    refine Evl.q_when (b := false) (eq2 .coin .scale e_coin e_scale rfl rfl) (fun hb => by cases hb) (fun _ H8 e8 => ?_)
    refine Evl.q_when (b := true) (Evl.et_is (eqw .later e_later rfl) rfl) (fun _ H9 e9 => ?_) (fun hb => by cases hb)
    have s8 : Same H7 H9 := Same.trans e8 e9
    have wg : Canon 1 g := wf.1
    have gl := wg.2.1
    refine ⟨_, rfl, _, rfl, l4, _, 0, _, rfl, rfl, Evl.sq_of (s8 _ _ h47), at0, _, _, rfl, num_text wg.2.2.1 wg.1 (by omega), by rw [S_size]; omega, (by show 2 ≤ sizeLine; decide), fun p np => ?_⟩
    exact fc (pre := [st Word.later.tx, .int (numV g)]) (D0 := { nx := fun _ H' => Q .non H', rt := Q }) rfl s8 (Same.refl _) rfl (by simp) rfl (by simp) ⟨_, _, rfl, rfl, _, _, rfl, rfl, rfl⟩ p np
  | when v g d1 =>
    refine Evl.q_when (b := false) (eq2 .coin .scale e_coin e_scale (by rcases wf.1 with rfl | rfl <;> rfl) rfl) (fun hb => by cases hb) (fun _ H8 e8 => ?_)
    refine Evl.q_when (b := false) (Evl.et_is (eqw .later e_later rfl) (by rcases wf.1 with rfl | rfl <;> rfl)) (fun hb => by cases hb) (fun _ H9 e9 => ?_)
    refine Evl.q_when (b := false) (Evl.et_is (eqw .by e_by rfl) (by rcases wf.1 with rfl | rfl <;> rfl)) (fun hb => by cases hb) (fun _ H10 e10 => ?_)
    refine Evl.q_when (b := true) (eq2 .once .until e_once e_until (by rcases wf.1 with rfl | rfl <;> rfl) rfl) (fun _ H11 e11 => ?_) (fun hb => by cases hb)
    have s8 : Same H7 H11 := Same.trans e8 (Same.trans e9 (Same.trans e10 e11))
    obtain ⟨hk, wa, wb⟩ := wf.2.1
    have hh : 1 + max (max g.a.hgt g.b.hgt) d1.hgt < n + 1 := hh
    have gl : g.txt.length ≤ 3000 := al3 _ List.mem_cons_self
    have gl2 : g.a.txt.length ≤ 3000 ∧ g.b.txt.length ≤ 3000 := by
      have := gl
      unfold Sgn.txt at this
      rw [List.length_append, List.length_append] at this
      omega
    have e_upto : (" <= " : Str) = S Mk.upto.tx := by decide +kernel
    have e_below : (" < " : Str) = S Mk.below.tx := by decide +kernel
    have spk : spl g.k.tx 0 0 g.txt [] = [g.a.txt, g.b.txt] := spl_this wa wb g.k
    have hlen2 : decide (V.int ((sts (spl Mk.upto.tx 0 0 g.txt [])).length : Nat) = V.int 2) = decide (g.k = .upto) := by
      by_cases hku : g.k = .upto
      · have := spk
        rw [hku] at this
        rw [this, decide_eq_true hku]
        rfl
      · have := spl_other wa wb hku
        rw [show g.a.txt ++ (g.k.tx ++ g.b.txt) = g.txt from rfl] at this
        rw [this, decide_eq_false hku]
        rfl
    have knm : ∀ (b : Bool), decide (g.k = .upto) = b → g.k = (if b = true then .upto else .below) := fun b hb => by
      cases b with
      | true => exact of_decide_eq_true hb
      | false =>
        have := of_decide_eq_false hb
        cases hgk : g.k <;> rw [hgk] at hk this <;> first | rfl | exact absurd rfl this | exact absurd hk (by decide)
    have n_upto : ("upto" : Str) = S Mk.upto.nm := by decide +kernel
    have n_below : ("below" : Str) = S Mk.below.nm := by decide +kernel
    have mk0 : ∀ k : Mk, k.tx ≠ [] ∧ k.tx.length ≤ 10 := by intro k; cases k <;> decide
    refine Evl.q_asg (v := .str (S g.k.nm)) (fun H12 e12 Q1 q1 => ?_) (fun H12 e12 => ?_)
    · refine ⟨_, rfl, l4, _, 0, _, rfl, rfl, Evl.sq_of (e12 _ _ (s8 _ _ h47)), at0, g.txt, Mk.upto.tx, by rw [e_upto], gl, (mk0 _).1, (mk0 _).2, fun H13 l s13 h13 => ⟨_, _, rfl, .inl (Evl.sq_of h13), rfl, _, rfl, ?_⟩⟩
      rw [hlen2]
      cases hku : decide (g.k = .upto) with
      | true =>
        refine iteT ?_
        have e := knm _ hku
        have q1 := q1 H13 s13
        rw [e] at q1
        show Q1 (.str "upto") H13
        rw [n_upto]
        exact q1
      | false =>
        refine iteF ?_
        have e := knm _ hku
        have q1 := q1 H13 s13
        rw [e] at q1
        show Q1 (.str "below") H13
        rw [n_below]
        exact q1
    have s12 : Same H7 H12 := s8.trans e12
    have ekn : decide (V.str (S g.k.nm) = V.str "upto") = decide (g.k = .upto) := by
      rw [eqS n_upto]
      have := knm
      cases hku : decide (g.k = .upto) with
      | true => rw [knm _ hku]; rfl
      | false => rw [knm _ hku]; rfl
    refine ⟨_, rfl, l4, _, 0, _, rfl, rfl, Evl.sq_of (s12 _ _ h47), at0, ?_⟩
    refine ⟨_, rfl, rfl, _, rfl, ?_⟩
    rw [ekn]
    have go : ∀ x : Str, x = S g.k.tx → tNil [some (V.str (S (Deal.when v g d1).txt)), some (V.str (S (Deal.when v g d1).w.tx)), some (V.str (S [40])), some (V.str (S ((Deal.when v g d1).inn ++ [41]))), some (V.ref l4), some (V.ref D), some (V.str (S g.k.nm)), none, none, none] H12 fun xs H2 => sp_spl (V.str (S g.txt) :: V.str x :: xs) H2 (fun y H3 => gLst K 2 (gCons (gName 7) (gCons (gName 8) gNil)) y [some (V.str (S (Deal.when v g d1).txt)), some (V.str (S (Deal.when v g d1).w.tx)), some (V.str (S [40])), some (V.str (S ((Deal.when v g d1).inn ++ [41]))), some (V.ref l4), some (V.ref D), some (V.str (S g.k.nm)), none, none, none] H3
        (tRet (tOp (rCatA K) (tTup (tCons (tVar 1) (tCons (tTup (tCons (tVar 6) (tCons (tCl (sp_lao n) (tCons (tVar 7) tNil)) (tCons (tCl (sp_lao n) (tCons (tVar 8) tNil)) tNil)))) tNil))) (tCB (fun xs H Q => ∃ p ys, xs = [V.ref p] ∧ ((SqL K H p ys ∧ ∀ l, H l = none → Q (.ref l) (upd H l (.tup ys))) ∨ (SqT K H p ys ∧ Q (.ref p) H))) (tCons (tVar 5) tNil))) { nx := fun _ H' => Q .non H', rt := Q })) E0 := fun x hx => by
      refine ⟨g.txt, g.k.tx, by rw [hx], gl, (mk0 _).1, (mk0 _).2, fun H13 l s13 h13 => ?_⟩
      rw [spk] at h13
      refine ⟨l, _, rfl, Evl.sq_of h13, rfl, _, _, rfl, _, _, rfl, rfl, ?_⟩
      refine ⟨_, rfl, _, rfl, _, rfl, g.a, rfl, wa, gl2.1, by omega, fun H14 u s14 hu => ?_⟩
      refine ⟨_, rfl, g.b, rfl, wb, gl2.2, by omega, fun H15 v2 s15 hv2 => ⟨(by show 3 ≤ sizeLine; decide), fun p2 np2 => ⟨(by show 2 ≤ sizeLine; decide), fun p np => ?_⟩⟩⟩
      have s16 : Same H15 (upd H15 p2 (.tup [.str (S g.k.nm), u, v2])) := Same.new np2
      refine fc (pre := [st v.tx, g.pd]) (D0 := { nx := fun _ H' => Q .non H', rt := Q }) rfl s12 (s13.trans (s14.trans (s15.trans s16))) rfl (by simp) rfl (by simp) ⟨_, _, rfl, rfl, _, _, rfl, ⟨p2, _, rfl, upd_same, _, _, rfl, rfl, _, _, rfl, hu.up (Same.tups (s15.trans s16)), _, _, rfl, hv2.up (Same.tups s16), rfl⟩, rfl⟩ p np
    cases hku : decide (g.k = .upto) with
    | true => exact iteT (go _ (by rw [e_upto, knm _ hku]; rfl))
    | false => exact iteF (go _ (by rw [e_below, knm _ hku]; rfl))
  | scale a d1 =>
    refine Evl.q_when (b := true) (eq2 .coin .scale e_coin e_scale rfl rfl) (fun _ H8 e8 => ?_) (fun hb => by cases hb)
    have hh : 1 + max a.hgt d1.hgt < n + 1 := hh
    refine ⟨_, rfl, _, rfl, l4, _, 0, _, rfl, rfl, Evl.sq_of (e8 _ _ h47), at0, a, rfl, wf.1, al3 _ List.mem_cons_self, by omega, fun H9 u s9 hu => ⟨(by show 2 ≤ sizeLine; decide), fun p np => ?_⟩⟩
    exact fc (pre := [st Word.scale.tx, a.pd]) (D0 := { nx := fun _ H' => Q .non H', rt := Q }) rfl e8 s9 rfl (by simp) rfl (by simp) ⟨_, _, rfl, rfl, _, _, rfl, hu, rfl⟩ p np
  | «by» g d1 =>
    refine Evl.q_when (b := false) (eq2 .coin .scale e_coin e_scale rfl rfl) (fun hb => by cases hb) (fun _ H8 e8 => ?_)
    refine Evl.q_when (b := false) (Evl.et_is (eqw .later e_later rfl) rfl) (fun hb => by cases hb) (fun _ H9 e9 => ?_)
    refine Evl.q_when (b := true) (Evl.et_is (eqw .by e_by rfl) rfl) (fun _ H10 e10 => ?_) (fun hb => by cases hb)
    have s8 : Same H7 H10 := Same.trans e8 (Same.trans e9 e10)
    refine ⟨_, rfl, _, rfl, l4, _, 0, _, rfl, rfl, Evl.sq_of (s8 _ _ h47), at0, g, rfl, wf.1, fun H11 u s11 hu => ⟨(by show 2 ≤ sizeLine; decide), fun p np => ?_⟩⟩
    exact fc (pre := [st Word.by.tx, g.ld]) (D0 := { nx := fun _ H' => Q .non H', rt := Q }) rfl s8 s11 rfl (by simp) rfl (by simp) ⟨_, _, rfl, rfl, _, _, rfl, hu, rfl⟩ p np
theorem ok_law_deal_of (T : Txt K mg A) (G1 : Cl P w K mg base CX0 1 "_law_split" sp_spl) (G2 : Cl P w K mg base CX0 1 "_law_share_of" sp_lso) : ∀ n : Nat, Cl P w K mg base CX0 (3 + n) "_law_deal_of" (sp_ldo n)
  | 0 => T.f__law_deal_of.none fun vs H Q E ⟨_, _, _, _, h, _⟩ => absurd h (Nat.not_lt_zero _)
  | n + 1 => ldo_step T G1 G2 (ok_law_amount_of T G1 n) (ok_law_deal_of T G1 G2 n)
end
end K06
end Sec_L8
section Sec_L9
set_option Elab.async false
set_option linter.all false
set_option maxRecDepth 100000
set_option maxHeartbeats 4000000
namespace K06
open PySem PySem.Spec PyProof.Rows L2
open SX (S)
/-! ### the law's own reckoning: amounts -/
def Amt.lap : Amt → Nat
  | .num ds => if (Amt.num ds).okN = true then 1 else 99
  | .price => 1
  | .time => 1
  | .most a b => min 99 (1 + a.lap + b.lap)
  | .least a b => min 99 (1 + a.lap + b.lap)
  | .pr _ a b => min 99 (1 + a.lap + b.lap)
theorem Amt.lap_eq : ∀ a : Amt, a.lap = if a.okN = true then min 99 a.parts else 99
  | .num ds => by unfold Amt.lap Amt.parts; split <;> rfl
  | .price => rfl
  | .time => rfl
  | .most a b => by
    have x := a.lap_eq; have y := b.lap_eq; have p := a.parts_pos; have q := b.parts_pos
    show min 99 (1 + a.lap + b.lap) = if (a.okN && b.okN) = true then min 99 (1 + a.parts + b.parts) else 99
    cases ha : a.okN <;> cases hb : b.okN <;> rw [ha] at x <;> rw [hb] at y <;> simp at x y ⊢ <;> omega
  | .least a b => by
    have x := a.lap_eq; have y := b.lap_eq; have p := a.parts_pos; have q := b.parts_pos
    show min 99 (1 + a.lap + b.lap) = if (a.okN && b.okN) = true then min 99 (1 + a.parts + b.parts) else 99
    cases ha : a.okN <;> cases hb : b.okN <;> rw [ha] at x <;> rw [hb] at y <;> simp at x y ⊢ <;> omega
  | .pr k a b => by
    have x := a.lap_eq; have y := b.lap_eq; have p := a.parts_pos; have q := b.parts_pos
    show min 99 (1 + a.lap + b.lap) = if (a.okN && b.okN) = true then min 99 (1 + a.parts + b.parts) else 99
    cases ha : a.okN <;> cases hb : b.okN <;> rw [ha] at x <;> rw [hb] at y <;> simp at x y ⊢ <;> omega
/-- an amount as a tuple, for the law -/
inductive LView : Amt → Prop where
  | leaf {a : Amt} (x : Tx) (hx : x = Word.price.tx ∨ x = Word.time.tx) (e : a.pd = .tuple [st x]) (el : a.lap = 1) : LView a
  | num (ds : Tx) : LView (.num ds)
  | bin {a : Amt} (x : Tx) (b c : Amt) (hx : x ∈ [Mk.plus.nm, Mk.minus.nm, Mk.times.nm, Word.most.tx, Word.least.tx]) (e : a.pd = .tuple [st x, b.pd, c.pd]) (el : a.lap = min 99 (1 + b.lap + c.lap)) (eh : a.hgt = 1 + max b.hgt c.hgt) (wb : b.wf) (wc : c.wf) : LView a
theorem Amt.lview {a : Amt} (w : a.wf) : LView a := by
  cases a with
  | num ds => exact .num ds
  | price => exact .leaf _ (.inl rfl) rfl rfl
  | time => exact .leaf _ (.inr rfl) rfl rfl
  | most a b => exact .bin _ a b (by decide) rfl rfl rfl w.1 w.2
  | least a b => exact .bin _ a b (by decide) rfl rfl rfl w.1 w.2
  | pr k a b =>
    refine .bin k.nm a b ?_ rfl rfl rfl w.2.1 w.2.2
    have h := w.1
    cases k <;> first | decide | exact absurd h (by decide)
section
variable {P : Program} {w : World} {K : PySem.W.Frag} {mg : Str → Option Value} {base : Heap} {A : Ads}
def sp_lap (n : Nat) : Sp := fun vs H Q _ => ∃ (v : V) (a : Amt), vs = [v] ∧ a.wf ∧ Tp H a.pd v ∧ a.hgt < n ∧ ∀ H', Same H H' → Q (.int (a.lap : Nat)) H'
theorem lap_step (T : Txt K mg A) {n : Nat} (G__law_amount_parts : Cl P w K mg base CX0 (1 + n) "_law_amount_parts" (sp_lap n)) : Cl P w K mg base CX0 (1 + n + 1) "_law_amount_parts" (sp_lap (n + 1)) := by
  refine T.f__law_amount_parts.cl sc__law_amount_parts (fun vs H Q E h => ?_) (fun f cdv A' outer s H vs Q E hr h => ?_)
  · obtain ⟨v, a, rfl, _⟩ := h; rfl
  obtain ⟨v, a, rfl, wf, hd, hh, q⟩ := h
  refine ⟨_, (pss_cons (ps_if (PW.pt (pw_and (pt_cmpR (op_in1 (room65 hr)) (pv 0) (pe_lst (pa_cons (pe_tup (pa_cons pe_str pa_nil)) (pa_cons (pe_tup (pa_cons pe_str pa_nil)) pa_nil))) (by rfl)) (pw_and1 (pt_val (pe_callB call_isi (by rfl) T.z_isinstance (by decide +kernel) (pa_cons (pv 0) (pa_cons (pe_bltn (by rfl) T.z_tuple (by decide +kernel) (v := .ty "tuple") rfl) pa_nil))))))) (pss_one (ps_ret pe_int)) pss_nil) (pss_cons (ps_if (PW.pt (pw_or (pt_not (pt_val (pe_callB call_isi (by rfl) T.z_isinstance (by decide +kernel) (pa_cons (pv 0) (pa_cons (pe_bltn (by rfl) T.z_tuple (by decide +kernel) (v := .ty "tuple") rfl) pa_nil))))) (pw_or (pt_cmpR op_lt (pe_callB call_len_seq (by rfl) T.z_len (by decide +kernel) (pa_cons (pv 0) pa_nil)) pe_int (nomark _)) (pw_or1 (pt_not (pt_val (pe_callB call_isi (by rfl) T.z_isinstance (by decide +kernel) (pa_cons (pe_ix ix_tup (pv 0) pe_int (fun _ _ => rfl)) (pa_cons (pe_bltn (by rfl) T.z_str (by decide +kernel) (v := .ty "str") rfl) pa_nil))))))))) (pss_one (ps_ret pe_int)) pss_nil) (pss_cons (ps_if (PW.pt (pw_and (pt_cmpR op_eq (pe_ix ix_tup (pv 0) pe_int (fun _ _ => rfl)) pe_str (nomark _)) (pw_and1 (pt_cmpR op_eq (pe_callB call_len_seq (by rfl) T.z_len (by decide +kernel) (pa_cons (pv 0) pa_nil)) pe_int (nomark _))))) (pss_cons (ps_set (i := 1) sc__law_amount_parts.nd rfl (Or.inl rfl) (pe_and (pe_callB call_isi (by rfl) T.z_isinstance (by decide +kernel) (pa_cons (pe_ix ix_tup (pv 0) pe_int (fun _ _ => rfl)) (pa_cons (pe_bltn (by rfl) T.z_int (by decide +kernel) (v := .ty "int") rfl) pa_nil))) (pe_and (pe_not (pe_callB call_isi (by rfl) T.z_isinstance (by decide +kernel) (pa_cons (pe_ix ix_tup (pv 0) pe_int (fun _ _ => rfl)) (pa_cons (pe_bltn (by rfl) T.z_bool (by decide +kernel) (v := .ty "bool") rfl) pa_nil)))) (pe_one (pe_chain op_le op_le pe_int (pe_ix ix_tup (pv 0) pe_int (fun _ _ => rfl)) (pe_op op_pow pe_int pe_int)))))) (pss_one (ps_ret (pe_ifExp (pt_val (pv 1)) pe_int pe_int)))) pss_nil) (pss_cons (ps_if (PW.pt (pw_or (pt_cmpR op_notIn_seq (pe_ix ix_tup (pv 0) pe_int (fun _ _ => rfl)) (pe_tup (pa_cons pe_str (pa_cons pe_str (pa_cons pe_str (pa_cons pe_str (pa_cons pe_str pa_nil)))))) (by rfl)) (pw_or1 (pt_cmpR op_ne (pe_callB call_len_seq (by rfl) T.z_len (by decide +kernel) (pa_cons (pv 0) pa_nil)) pe_int (nomark _))))) (pss_one (ps_ret pe_int)) pss_nil) (pss_one (ps_ret (pe_callB (call_min2 rfl) (by rfl) T.z_min (by decide +kernel) (pa_cons pe_int (pa_cons (pe_op op_add (pe_op op_add pe_int (pcl G__law_amount_parts hr (by omega) rfl (pa_cons (pe_ix ix_tup (pv 0) pe_int (fun _ _ => rfl)) pa_nil))) (pcl G__law_amount_parts hr (by omega) rfl (pa_cons (pe_ix ix_tup (pv 0) pe_int (fun _ _ => rfl)) pa_nil))) pa_nil))))))))), ?_⟩
  obtain ⟨x, rest, epd, hxne⟩ : ∃ (x : Tx) (rest : List PyData), a.pd = .tuple (st x :: rest) ∧ (rest = [] ↔ (x = Word.price.tx ∨ x = Word.time.tx)) := by
    cases Amt.lview wf with
    | leaf x hx e el => exact ⟨x, [], e, by simp [hx]⟩
    | num ds => exact ⟨tNumber, [.int (numV ds)], rfl, by simp [tNumber, Word.tx]⟩
    | bin x b c hx e el eh wb wc => exact ⟨x, _, e, by
      constructor
      · intro h; cases h
      · intro h; rcases h with rfl | rfl <;> exact absurd hx (by decide)⟩
  have hd2 := id hd
  rw [epd] at hd2
  obtain ⟨a0, us, rfl, ha, y, ys, rfl, hy, hys⟩ := hd2
  cases hy
  have yl : ys.length = rest.length := hys.length
  -- in [('price',), ('time',)]
  have inA : Evl.EvT (tTest (tOp (rIn1 K) (tVar 0) (tLst (tCons (tTup (tCons (tC (.str "price")) tNil)) (tCons (tTup (tCons (tC (.str "time")) tNil)) tNil))))) (L2.start N__law_amount_parts [.ref a0]) H (decide (rest = [])) := fun H1 e1 Q1 q1 => by
    refine ⟨_, rfl, (by show 1 ≤ sizeLine; decide), fun p1 n1 => ?_⟩
    have s1 : Same H1 (upd H1 p1 (.tup [.str "price"])) := Same.new n1
    have k1 : (upd H1 p1 (.tup [.str "price"])) p1 = some (.tup [.str "price"]) := upd_same
    have d1 : p1 ≠ a0 := fun z => by rw [z, e1 _ _ ha] at n1; cases n1
    generalize upd H1 p1 (.tup [.str "price"]) = H2 at s1 k1 ⊢
    refine ⟨(by show 1 ≤ sizeLine; decide), fun p2 n2 => ?_⟩
    have s2 : Same H2 (upd H2 p2 (.tup [.str "time"])) := Same.new n2
    have k2 : (upd H2 p2 (.tup [.str "time"])) p2 = some (.tup [.str "time"]) := upd_same
    have d2 : p2 ≠ a0 := fun z => by rw [z, s1 _ _ (e1 _ _ ha)] at n2; cases n2
    generalize upd H2 p2 (.tup [.str "time"]) = H3 at s2 k2 ⊢
    refine ⟨(by show 2 ≤ sizeLine; decide), fun p3 n3 => ?_⟩
    have s3 : Same H3 (upd H3 p3 (.lst [.ref p1, .ref p2])) := Same.new n3
    have k3 : (upd H3 p3 (.lst [.ref p1, .ref p2])) p3 = some (.lst [.ref p1, .ref p2]) := upd_same
    generalize upd H3 p3 (.lst [.ref p1, .ref p2]) = H4 at s3 k3 ⊢
    have k1' := s3 _ _ (s2 _ _ k1)
    have k2' := s3 _ _ k2
    refine ⟨a0, p3, ⟨x.toArray⟩, ys, [.ref p1, .ref p2], rfl, rfl, s3 _ _ (s2 _ _ (s1 _ _ (e1 _ _ ha))), k3, fun z hz => ?_, _, rfl, ?_⟩
    · rcases List.mem_cons.mp hz with rfl | hz
      · exact ⟨p1, _, rfl, d1, k1'⟩
      · rcases List.mem_cons.mp hz with rfl | hz
        · exact ⟨p2, _, rfl, d2, k2'⟩
        · cases hz
    · have e : ([V.ref p1, V.ref p2] : List V).any (oneOf H4 ⟨x.toArray⟩ (ys.length + 1)) = decide (rest = []) := by
        have o1 : oneOf H4 ⟨x.toArray⟩ (ys.length + 1) (.ref p1) = ((("price" : Str) == S x) && decide (ys.length + 1 = 1)) := by show (match H4 p1 with | some (.tup [.str z]) => _ | _ => false) = _; rw [k1']
        have o2 : oneOf H4 ⟨x.toArray⟩ (ys.length + 1) (.ref p2) = ((("time" : Str) == S x) && decide (ys.length + 1 = 1)) := by show (match H4 p2 with | some (.tup [.str z]) => _ | _ => false) = _; rw [k2']
        rw [List.any_cons, List.any_cons, List.any_nil, o1, o2, Bool.or_false, yl]
        have b1 : (("price" : Str) == S x) = decide (Word.price.tx = x) := by rw [show ("price" : Str) = S Word.price.tx by decide +kernel]; exact SX.S_beq_eq
        have b2 : (("time" : Str) == S x) = decide (Word.time.tx = x) := by rw [show ("time" : Str) = S Word.time.tx by decide +kernel]; exact SX.S_beq_eq
        rw [b1, b2]
        by_cases hr0 : rest = []
        · rw [decide_eq_true hr0, hr0]
          rcases hxne.mp hr0 with h | h
          · rw [h]; rfl
          · rw [h]; rfl
        · rw [decide_eq_false hr0]
          have : ¬ rest.length + 1 = 1 := fun e => hr0 (List.length_eq_zero_iff.mp (by omega))
          rw [decide_eq_false this, Bool.and_false, Bool.and_false]; rfl
      rw [e]
      exact q1 _ (Evl.Ex.trans (Evl.Ex.trans s1 s2) s3)
  have isT : ∀ {σ : L2.St} {H1 : Hp}, Same H H1 → σ[0]? = some (some (.ref a0)) → Evl.EvT (tTest (tCB (rIsi K) (tCons (tVar 0) (tCons (tC (.ty "tuple")) tNil)))) σ H1 true := fun s1 hs => et_refl fun H2 e2 Q1 q1 => by
    have ht := hd.up (Same.tups (s1.trans e2))
    rw [epd] at ht
    exact ⟨_, hs, _, _, _, _, _, rfl, .ty _, Tp.ty (K := K) ht, kit_ty (kit_tuple _), _, rfl, q1⟩
  by_cases hr0 : rest = []
  · refine Evl.q_when (b := true) (Evl.et_is (Evl.et_and inA fun _ => isT (Same.refl _) rfl) (by rw [hr0]; rfl)) (fun _ H1 e1 => ?_) (fun hb => by cases hb)
    have q := q H1 e1
    cases Amt.lview wf with
    | leaf x' hx' e el => rw [el] at q; exact q
    | num ds =>
      have e : PyData.tuple [st tNumber, .int (numV ds)] = .tuple (st x :: rest) := epd
      rw [hr0] at e; cases e
    | bin x' b c hx' e el eh wb wc =>
      rw [e, hr0] at epd; cases epd
  refine Evl.q_when (b := false) (Evl.et_is (Evl.et_and (a := false) (b := true) (Evl.et_is inA (decide_eq_false hr0)) fun h => Bool.noConfusion h) rfl) (fun hb => Bool.noConfusion hb) (fun _ H1 e1 => ?_)
  have len1 : 1 ≤ ys.length := by rw [yl]; exact List.length_pos_iff.mpr hr0
  refine Evl.q_when (b := false) (Evl.et_is (Evl.et_or (a := false) (b := false) (Evl.et_not (a := true) (isT e1 rfl)) fun _ => Evl.et_or (a := false) (b := false) (et_refl fun H2 e2 Q1 q1 => ?_) fun _ => Evl.et_not (a := true) (et_refl fun H2 e2 Q1 q1 => ?_)) rfl) (fun hb => Bool.noConfusion hb) (fun _ H2 e2 => ?_)
  · have e0 := Evl.Ex.trans e1 e2
    refine ⟨_, rfl, ?_⟩
    exact ⟨_, _, rfl, .inr (SqT.of (e0 _ _ ha)), _, _, rfl, rfl, false, congrArg V.bl (decide_eq_false (by rw [List.length_cons]; omega)), q1⟩
  · have e0 := Evl.Ex.trans e1 e2
    refine ⟨_, rfl, ?_⟩
    refine ⟨_, _, _, _, rfl, rfl, SqT.of (e0 _ _ ha), (by first | exact at0 | exact at1 | exact at2 | rfl), ?_⟩
    have t1 : Tp H2 (st x) (V.str (S x)) := rfl
    refine ⟨_, _, _, _, _, rfl, .ty _, Tp.ty (K := K) (t1), kit_ty (kit_str _), ?_⟩
    exact ⟨_, rfl, q1⟩
  have e0 : Same H H2 := Evl.Ex.trans e1 e2
  cases Amt.lview wf with
  | leaf x' hx' e el =>
    rw [e] at epd; cases epd; exact absurd rfl hr0
  | num ds =>
    have hx0 : x = tNumber ∧ rest = [.int (numV ds)] := by
      have e : PyData.tuple [st tNumber, .int (numV ds)] = .tuple (st x :: rest) := epd
      injection e with e
      injection e with e1 e2
      injection e1 with e1
      exact ⟨(S_inj (a := tNumber) (b := x) e1).symm, e2.symm⟩
    obtain ⟨rfl, rfl⟩ := hx0
    obtain ⟨y1, ys1, rfl, hy1, hn1⟩ := hys
    cases hy1; cases hn1
    clear inA isT hd hh
    refine Evl.q_when (b := true) (Evl.et_is (Evl.et_and (a := true) (b := true) (et_refl fun H3 e3 Q1 q1 => ?_) fun _ => (et_refl fun H3 e3 Q1 q1 => ?_)) rfl) (fun _ H3 e3 => ?_) (fun hb => Bool.noConfusion hb)
    · have e0 := Evl.Ex.trans e0 e3
      refine ⟨_, rfl, ?_⟩
      refine ⟨_, _, _, _, rfl, rfl, SqT.of (e0 _ _ ha), (by first | exact at0 | exact at1 | exact at2 | rfl), ?_⟩
      exact ⟨rfl, true, congrArg V.bl (decide_eq_true (by decide +kernel)), q1⟩
    · have e0 := Evl.Ex.trans e0 e3
      refine ⟨_, rfl, ?_⟩
      exact ⟨_, _, rfl, .inr (SqT.of (e0 _ _ ha)), rfl, true, rfl, q1⟩
    have e0 := Evl.Ex.trans e0 e3
    refine Evl.q_asg (v := .bl (Amt.num ds).okN) (Evl.ev_is (Evl.ev_andV (a := true) (b := (Amt.num ds).okN) (ev_refl fun H4 e4 Q1 q1 => ?_) fun _ => Evl.ev_andV (a := true) (b := (Amt.num ds).okN) (Evl.ev_notV (a := false) (ev_refl fun H4 e4 Q1 q1 => ?_)) fun _ => (ev_refl fun H4 e4 Q1 q1 => ?_)) rfl) (fun H4 e4 => ?_)
    · have e0 := Evl.Ex.trans e0 e4
      refine ⟨_, rfl, ?_⟩
      refine ⟨_, _, _, _, rfl, rfl, SqT.of (e0 _ _ ha), (by first | exact at0 | exact at1 | exact at2 | rfl), ?_⟩
      have t1 : Tp H4 (PyData.int (numV ds)) (V.int (numV ds)) := rfl
      refine ⟨_, _, _, _, _, rfl, .ty _, Tp.ty (K := K) (t1), kit_ty (kit_int _), ?_⟩
      exact q1
    · have e0 := Evl.Ex.trans e0 e4
      refine ⟨_, rfl, ?_⟩
      refine ⟨_, _, _, _, rfl, rfl, SqT.of (e0 _ _ ha), (by first | exact at0 | exact at1 | exact at2 | rfl), ?_⟩
      have t1 : Tp H4 (PyData.int (numV ds)) (V.int (numV ds)) := rfl
      refine ⟨_, _, _, _, _, rfl, .ty _, Tp.ty (K := K) (t1), kit_ty (kit_bool _), ?_⟩
      exact q1
    · have e0 := Evl.Ex.trans e0 e4
      refine ⟨_, rfl, ?_⟩
      refine ⟨_, _, _, _, rfl, rfl, SqT.of (e0 _ _ ha), (by first | exact at0 | exact at1 | exact at2 | rfl), ?_⟩
      refine ⟨0, _, rfl, rfl, true, congrArg V.bl (decide_eq_true (natV_nonneg ds)), iteT ?_⟩
      refine ⟨_, _, rfl, rfl, ⟨by decide, by decide, by decide⟩, _, _, rfl, rfl, ?_⟩
      rw [show (10 : Int) ^ (9 : Int).toNat = 1000000000 by decide +kernel]
      have e : (Amt.num ds).okN = decide (numV ds ≤ 1000000000) := by
        show (decide (0 ≤ numV ds) && decide (numV ds ≤ 1000000000)) = _
        rw [decide_eq_true (natV_nonneg ds), Bool.true_and]
      rw [e] at q1
      exact q1
    have e0 := Evl.Ex.trans e0 e4
    have q := q H4 e0
    unfold Amt.lap at q
    cases hok : (Amt.num ds).okN with
    | true =>
      rw [hok, if_pos rfl] at q
      exact ⟨_, rfl, _, rfl, iteT q⟩
    | false =>
      rw [hok, if_neg Bool.false_ne_true] at q
      exact ⟨_, rfl, _, rfl, iteF q⟩
  | bin x' b c hx' e el eh wb wc =>
    have hx0 : x = x' ∧ rest = [b.pd, c.pd] := by
      rw [e] at epd
      injection epd with e
      injection e with e1 e2
      injection e1 with e1
      exact ⟨(S_inj (a := x') (b := x) e1).symm, e2.symm⟩
    obtain ⟨rfl, rfl⟩ := hx0
    obtain ⟨y1, ys1, rfl, hy1, y2, ys2, rfl, hy2, hn1⟩ := hys
    cases hn1
    clear inA isT hd
    have xl : x ∈ [Mk.plus.nm, Mk.minus.nm, Mk.times.nm, Word.most.tx, Word.least.tx] := hx'
    have xn : (V.str (S x) = V.str "number") ↔ False := by
      rw [show ("number" : Str) = S tNumber by decide +kernel]
      refine ⟨fun h => ?_, False.elim⟩
      injection h with h
      rw [S_inj (a := x) (b := tNumber) h] at xl
      exact absurd xl (by decide)
    have xi : inV (V.str (S x)) [.str "plus", .str "minus", .str "times", .str "most", .str "least"] = true := by
      simp only [List.mem_cons, List.not_mem_nil, or_false] at xl
      rcases xl with rfl | rfl | rfl | rfl | rfl <;> decide +kernel
    refine Evl.q_when (b := false) (Evl.et_is (Evl.et_and (a := false) (b := true) (et_refl fun H3 e3 Q1 q1 => ?_) fun h => Bool.noConfusion h) rfl) (fun hb => Bool.noConfusion hb) (fun _ H3 e3 => ?_)
    · have e0 := Evl.Ex.trans e0 e3
      refine ⟨_, rfl, ?_⟩
      refine ⟨_, _, _, _, rfl, rfl, SqT.of (e0 _ _ ha), (by first | exact at0 | exact at1 | exact at2 | rfl), ?_⟩
      exact ⟨rfl, false, congrArg V.bl (decide_eq_false xn.mp), q1⟩
    have e0 := Evl.Ex.trans e0 e3
    refine Evl.q_when (b := false) (Evl.et_is (Evl.et_or (a := false) (b := false) (fun H4 e4 Q1 q1 => ?_) fun _ => (et_refl fun H4 e4 Q1 q1 => ?_)) rfl) (fun hb => Bool.noConfusion hb) (fun _ H4 e4 => ?_)
    · have e0 := Evl.Ex.trans e0 e4
      refine ⟨_, rfl, ?_⟩
      refine ⟨_, _, _, _, rfl, rfl, SqT.of (e0 _ _ ha), (by first | exact at0 | exact at1 | exact at2 | rfl), ?_⟩
      exact ⟨(by show 5 ≤ sizeLine; decide), fun p np => ⟨p, _, rfl, .inr (SqT.of upd_same), rfl, rfl, false, congrArg V.bl (by rw [if_pos rfl]; show (!(inV (V.str (S x)) _)) = _; rw [xi]; rfl), q1 _ (Evl.Ex.new np)⟩⟩
    · have e0 := Evl.Ex.trans e0 e4
      refine ⟨_, rfl, ?_⟩
      exact ⟨_, _, rfl, .inr (SqT.of (e0 _ _ ha)), rfl, false, rfl, q1⟩
    have e0 := Evl.Ex.trans e0 e4
    refine ⟨_, rfl, ?_⟩
    refine ⟨_, _, _, _, rfl, rfl, SqT.of (e0 _ _ ha), (by first | exact at0 | exact at1 | exact at2 | rfl), ?_⟩
    refine ⟨y1, b, rfl, wb, hy1.up (Same.tups e0), by omega, fun H5 e5 => ?_⟩
    have e0 := Evl.Ex.trans e0 e5
    refine ⟨_, _, rfl, rfl, ?_⟩
    refine ⟨_, rfl, ?_⟩
    refine ⟨_, _, _, _, rfl, rfl, SqT.of (e0 _ _ ha), (by first | exact at0 | exact at1 | exact at2 | rfl), ?_⟩
    refine ⟨y2, c, rfl, wc, hy2.up (Same.tups e0), by omega, fun H6 e6 => ⟨_, _, rfl, rfl, _, _, rfl, ?_⟩⟩
    have q := q H6 (Evl.Ex.trans e0 e6)
    have ee : (if (1 : Int) + (b.lap : Nat) + (c.lap : Nat) < 99 then (1 : Int) + (b.lap : Nat) + (c.lap : Nat) else 99) = (a.lap : Nat) := by
      rw [el]
      split <;> omega
    rw [← ee] at q
    exact q
theorem ok_law_amount_parts (T : Txt K mg A) : ∀ n : Nat, Cl P w K mg base CX0 (1 + n) "_law_amount_parts" (sp_lap n)
  | 0 => T.f__law_amount_parts.none fun vs H Q E ⟨_, _, _, _, _, h, _⟩ => absurd h (Nat.not_lt_zero _)
  | n + 1 => lap_step T (ok_law_amount_parts T n)
end
end K06
end Sec_L9
section Sec_L10
set_option Elab.async false
set_option linter.all false
set_option maxRecDepth 100000
set_option maxHeartbeats 4000000
namespace K06
open PySem PySem.Spec PyProof.Rows L2
open SX (S)
/-! ### the words with no number of their own, and small fractions -/
theorem room1 {k : Nat} {A : Around} (r : Room k A) : A.units + 1 < cLine := by have := r.un; omega
def longs : List (Key × V) := [(.inr "none", .int 0), (.inr "coin", .int 1), (.inr "give", .int 1), (.inr "any", .int 1), (.inr "both", .int 2), (.inr "either", .int 2)]
def longN (x : Str) : V := (valV longs (.inr x)).getD (.int 99)
section
variable {P : Program} {w : World} {K : PySem.W.Frag} {mg : Str → Option Value} {base : Heap} {A : Ads}
def sp_long : Sp := fun vs H Q _ => ∃ x : Str, vs = [.str x] ∧ ∀ H', Same H H' → Q (longN x) H'
theorem ok_law_long (T : Txt K mg A) : Cl P w K mg base CX0 1 "_law_long" sp_long := by
  refine T.f__law_long.cl sc__law_long (fun vs H Q E h => ?_) (fun f cdv A' outer s H vs Q E hr h => ?_)
  · obtain ⟨x, rfl, _⟩ := h; rfl
  obtain ⟨x, rfl, q⟩ := h
  refine ⟨_, (pss_one (ps_ret (pe_dget2 (room1 hr) (pe_disp (pps_cons pe_str pe_int (pps_cons pe_str pe_int (pps_cons pe_str pe_int (pps_cons pe_str pe_int (pps_cons pe_str pe_int (pps_cons pe_str pe_int pps_nil)))))) (by rfl) (by rfl) (fun z => by cases z) (by decide)) (pv 0) pe_int (by constructor <;> rfl)))), ?_⟩
  refine fun p np => ?_
  refine ⟨upd_same, longs, rfl, by decide, p, rfl, .inl ⟨_, .inl upd_same⟩, _, rfl, _, DGet.k (k := .inr x) upd_same, ?_⟩
  have q := q _ (Evl.Ex.mut (Evl.Ex.new np) np (o := .dK (mergeK [] longs)) (p := p) (H' := upd H p (.dK [])))
  have e : mergeK [] longs = longs := by rfl
  unfold longN at q
  rw [e] at q ⊢
  exact q
def rng (n : Int) : Bool := decide (0 - GR < n) && decide (n < GR)
def lsm (x y : Int) : Bool := rng x && (rng y && (decide (1 ≤ y) && decide (Int.gcd x y = 1)))
theorem p30 : (10 : Int) ^ (30 : Int).toNat = GR := by rw [GR_eq]; decide +kernel
def sp_lis : Sp := fun vs H Q _ => ∃ (v : V) (x y : Int), vs = [v] ∧ Tp H (.tuple [.int x, .int y]) v ∧ ∀ H', Same H H' → Q (.bl (lsm x y)) H'
theorem ok_law_is_small (T : Txt K mg A) : Cl P w K mg base CX0 1 "_law_is_small" sp_lis := by
  refine T.f__law_is_small.cl sc__law_is_small (fun vs H Q E h => ?_) (fun f cdv A' outer s H vs Q E hr h => ?_)
  · obtain ⟨v, x, y, rfl, _⟩ := h; rfl
  obtain ⟨v, x, y, rfl, hd, q⟩ := h
  refine ⟨_, (pss_cons (ps_if (PW.pt (pw_or (pt_not (pt_val (pe_callB call_isi (by rfl) T.z_isinstance (by decide +kernel) (pa_cons (pv 0) (pa_cons (pe_bltn (by rfl) T.z_tuple (by decide +kernel) (v := .ty "tuple") rfl) pa_nil))))) (pw_or1 (pt_cmpR op_ne (pe_callB call_len_seq (by rfl) T.z_len (by decide +kernel) (pa_cons (pv 0) pa_nil)) pe_int (nomark _))))) (pss_one (ps_ret pe_bl)) pss_nil) (pss_cons (ps_for PassesOwn.never rfl (pi_tup (pv 0)) (pg_name (i := 1) sc__law_is_small.nd rfl (Or.inl rfl)) (pss_one (ps_if (PW.pt (pw_or (pt_val (pe_callB call_isi (by rfl) T.z_isinstance (by decide +kernel) (pa_cons (pv 1) (pa_cons (pe_bltn (by rfl) T.z_bool (by decide +kernel) (v := .ty "bool") rfl) pa_nil)))) (pw_or (pt_not (pt_val (pe_callB call_isi (by rfl) T.z_isinstance (by decide +kernel) (pa_cons (pv 1) (pa_cons (pe_bltn (by rfl) T.z_int (by decide +kernel) (v := .ty "int") rfl) pa_nil))))) (pw_or1 (pt_not (pt_chain op_lt op_lt (pe_op op_sub pe_int (pe_op op_pow pe_int pe_int)) (pv 1) (pe_op op_pow pe_int pe_int))))))) (pss_one (ps_ret pe_bl)) pss_nil))) (pss_cons (ps_par (i := 2) (j := 3) (by rfl) sc__law_is_small.nd rfl rfl (by decide) rfl rfl (pa_cons (pe_callB call_abs (by rfl) T.z_abs (by decide +kernel) (pa_cons (pe_ix ix_tup (pv 0) pe_int (fun _ _ => rfl)) pa_nil)) (pa_cons (pe_ix ix_tup (pv 0) pe_int (fun _ _ => rfl)) pa_nil)) (by rfl)) (pss_cons (ps_if (pt_cmpR op_lt (pv 3) pe_int (nomark _)) (pss_one (ps_ret pe_bl)) pss_nil) (pss_cons (ps_while PassesOwn.never (pt_cmpR op_gt (pv 3) pe_int (nomark _)) (pss_one (ps_par (i := 2) (j := 3) (by rfl) sc__law_is_small.nd rfl rfl (by decide) rfl rfl (pa_cons (pv 3) (pa_cons (pe_op op_mod (pv 2) (pv 3)) pa_nil)) (by rfl)))) (pss_one (ps_ret (pe_cmpR op_eq (pv 2) pe_int (nomark _))))))))), ?_⟩
  obtain ⟨a0, us, rfl, ha, y0, ys, rfl, hy, y1, ys1, rfl, hy1, hn⟩ := id hd
  cases hn; cases hy; cases hy1
  refine Evl.q_when (b := false) (Evl.et_is (Evl.et_or (a := false) (b := false) (Evl.et_not (a := true) (et_refl fun H2 e2 Q1 q1 => ?_)) fun _ => (et_refl fun H2 e2 Q1 q1 => ?_)) rfl) (fun hb => Bool.noConfusion hb) (fun _ H1 e1 => ?_)
  · refine ⟨_, rfl, ?_⟩
    have t1 := hd.up (Same.tups e2)
    refine ⟨_, _, _, _, _, rfl, .ty _, Tp.ty (K := K) (t1), kit_ty (kit_tuple _), ?_⟩
    exact ⟨_, rfl, q1⟩
  · refine ⟨_, rfl, ?_⟩
    exact ⟨_, _, rfl, .inr (SqT.of (e2 _ _ ha)), rfl, false, rfl, q1⟩
  refine Evl.q_forT (a := a0) (xs := [.int x, .int y]) (Evl.ev_var rfl) (SqT.of (e1 _ _ ha)) (fun i σ' H' => ∃ o1, σ' = [some (.ref a0), o1, none, none] ∧ Same H H' ∧ (0 < i → rng x = true) ∧ (1 < i → rng y = true)) (fun H2 e2 => ⟨_, rfl, Evl.Ex.trans e1 e2, fun h => absurd h (by omega), fun h => absurd h (by omega)⟩) (fun i σ' H' _ ⟨_, _, s1, _⟩ => SqT.of (s1 _ _ ha)) (fun i u σ' H' hi hP => ?_) (fun σ' H' hP => ?_)
  · obtain ⟨o1, rfl, s1, h0, h1⟩ := hP
    have hu : ∃ n : Int, u = .int n ∧ ((i = 0 ∧ n = x) ∨ (i = 1 ∧ n = y)) := by
      match i, hi with
      | 0, hi => exact ⟨x, by cases hi; rfl, .inl ⟨rfl, rfl⟩⟩
      | 1, hi => exact ⟨y, by cases hi; rfl, .inr ⟨rfl, rfl⟩⟩
      | i + 2, hi => simp at hi
    obtain ⟨n, rfl, hn⟩ := hu
    dsimp only [gName]
    refine Evl.s_when (b := !rng n) (Evl.et_is (Evl.et_or (a := false) (b := !rng n) (et_refl fun H2 e2 Q1 q1 => ?_) fun _ => Evl.et_or (a := false) (b := !rng n) (Evl.et_not (a := true) (et_refl fun H2 e2 Q1 q1 => ?_)) fun _ => Evl.et_not (a := rng n) (et_refl fun H2 e2 Q1 q1 => ?_)) (by cases rng n <;> rfl)) (fun hb H2 e2 => ?_) (fun hb H2 e2 => ?_)
    · refine ⟨_, rfl, ?_⟩
      have t1 : Tp H2 (PyData.int n) (V.int n) := rfl
      refine ⟨_, _, _, _, _, rfl, .ty _, Tp.ty (K := K) (t1), kit_ty (kit_bool _), ?_⟩
      exact ⟨_, rfl, q1⟩
    · refine ⟨_, rfl, ?_⟩
      have t1 : Tp H2 (PyData.int n) (V.int n) := rfl
      refine ⟨_, _, _, _, _, rfl, .ty _, Tp.ty (K := K) (t1), kit_ty (kit_int _), ?_⟩
      exact ⟨_, rfl, q1⟩
    · refine ⟨_, _, rfl, rfl, ⟨by decide, by decide, by decide⟩, _, _, rfl, rfl, ?_⟩
      refine ⟨_, rfl, ?_⟩
      rw [p30]
      refine ⟨_, _, rfl, rfl, decide (0 - GR < n), rfl, ?_⟩
      unfold rng at q1
      refine itD (fun c => ?_) (fun c => ?_)
      · have c : 0 - GR < n := c
        rw [decide_eq_true c, Bool.true_and] at q1
        refine ⟨_, _, rfl, rfl, ⟨by decide, by decide, by decide⟩, _, _, rfl, rfl, ?_⟩
        rw [p30]
        exact ⟨_, rfl, q1⟩
      · have c : ¬ 0 - GR < n := c
        rw [decide_eq_false c, Bool.false_and] at q1
        exact ⟨_, rfl, q1⟩
    · have hr : rng n = false := by cases h : rng n with | true => rw [h] at hb; exact Bool.noConfusion hb | false => rfl
      have e : lsm x y = false := by
        unfold lsm
        rcases hn with ⟨_, rfl⟩ | ⟨_, rfl⟩
        · rw [hr]; rfl
        · rw [hr]; cases rng x <;> rfl
      have q := q H2 (Evl.Ex.trans s1 e2)
      rw [e] at q
      exact q
    · have hr : rng n = true := by cases h : rng n with | false => rw [h] at hb; exact Bool.noConfusion hb | true => rfl
      refine ⟨_, rfl, Evl.Ex.trans s1 e2, fun h => ?_, fun h => ?_⟩
      · rcases hn with ⟨_, rfl⟩ | ⟨hi, _⟩
        · exact hr
        · exact h0 (by omega)
      · rcases hn with ⟨hi, _⟩ | ⟨_, rfl⟩
        · omega
        · exact hr
  · obtain ⟨o1, rfl, s1, h0, h1⟩ := hP
    have rx := h0 (by simp)
    have ry := h1 (by simp)
    refine ⟨_, rfl, ?_⟩
    refine ⟨_, _, _, _, rfl, rfl, SqT.of (s1 _ _ ha), (by first | exact at0 | exact at1 | exact at2 | rfl), ?_⟩
    refine ⟨_, rfl, ?_⟩
    refine ⟨_, rfl, ?_⟩
    refine ⟨_, _, _, _, rfl, rfl, SqT.of (s1 _ _ ha), (by first | exact at0 | exact at1 | exact at2 | rfl), ?_⟩
    refine ⟨_, _, rfl, ?_⟩
    have lq : lsm x y = (decide (1 ≤ y) && decide (Int.gcd x y = 1)) := by unfold lsm; rw [rx, ry]; rfl
    rw [lq] at q
    dsimp only
    refine Evl.q_when (b := decide (y < 1)) (et_refl fun H2 e2 Q1 q1 => ⟨_, rfl, _, _, rfl, rfl, _, rfl, q1⟩) (fun hb H2 e2 => ?_) (fun hb H2 e2 => ?_)
    · have q := q H2 (Evl.Ex.trans s1 e2)
      rw [decide_eq_false (show ¬ 1 ≤ y by have := of_decide_eq_true hb; omega), Bool.false_and] at q
      exact q
    · have y1 : 1 ≤ y := by have := of_decide_eq_false hb; omega
      rw [decide_eq_true y1, Bool.true_and] at q
      refine Evl.q_while (fun m σ H' => ∃ a b : Int, σ = [some (.ref a0), o1, some (.int a), some (.int b)] ∧ Same H H' ∧ 0 ≤ a ∧ 0 ≤ b ∧ Int.gcd a b = Int.gcd x y ∧ m = b.toNat) _ ⟨_, _, rfl, Evl.Ex.trans s1 e2, (by split <;> omega), (by omega), gcd_abs x y, rfl⟩ (fun m σ H' ⟨a, b, hσ, s2, pa, pb, hg, hm⟩ => ?_)
      subst hσ
      refine ⟨decide (0 < b), et_refl fun H2 e2 Q1 q1 => ⟨_, rfl, _, _, rfl, rfl, _, rfl, q1⟩, fun hb H3 e3 => ?_, fun hb H3 e3 => ?_⟩
      · have hb := of_decide_eq_true hb
        refine ⟨fun σ2 H2 => σ2 = [some (.ref a0), o1, some (.int b), some (.int (a % b))] ∧ Same H H2, fun σ2 H2 ⟨hσ, s3⟩ => ⟨(a % b).toNat, ?_, b, a % b, hσ, s3, pb, Int.emod_nonneg _ (by omega), ?_, rfl⟩, ?_⟩
        · have := Int.emod_lt_of_pos a hb
          have := Int.emod_nonneg a (show b ≠ 0 by omega)
          omega
        · rw [gcd_step pa pb, hg]
        · exact ⟨_, rfl, _, rfl, _, rfl, _, _, rfl, rfl, hb, _, _, rfl, rfl, Evl.Ex.trans s2 e3⟩
      · have hb : b = 0 := by have := of_decide_eq_false hb; omega
        subst hb
        have q := q H3 (Evl.Ex.trans s2 e3)
        rw [← hg] at q
        refine ⟨_, rfl, rfl, ?_⟩
        have e : decide (V.int a = V.int 1) = decide (Int.gcd a 0 = 1) := by
          have := gcd_zero pa
          by_cases h : Int.gcd a 0 = 1
          · rw [decide_eq_true h, decide_eq_true (by congr 1; omega)]
          · rw [decide_eq_false h, decide_eq_false (fun z => h (by injection z with z; omega))]
        rw [e]
        exact q
end
end K06
end Sec_L10
section Sec_P8
set_option Elab.async false
set_option linter.all false
set_option maxRecDepth 100000
set_option maxHeartbeats 4000000
namespace K06
open PySem PySem.Spec PyProof.Rows L2
open SX (S)
/-! ### a fraction, small as the law says it -/
theorem fold_ge : ∀ (ds : Tx) (n : Nat), n ≤ ds.foldl (fun n c => n * 10 + (c - 48)) n
  | [], n => Nat.le_refl _
  | c :: ds, n => Nat.le_trans (by omega) (fold_ge ds (n * 10 + (c - 48)))
theorem Canon.lt10 {m : Nat} {ds : Tx} (h : Canon m ds) (hn : natV ds < 10) : ∃ c, ds = [c] ∧ 48 ≤ c ∧ natV ds = c - 48 := by
  obtain ⟨h0, h1, h2, h3⟩ := h
  have hp := Canon.pl ⟨h0, h1, h2, h3⟩
  match ds, h0, hp, h3, hn with
  | [c], _, hp, _, _ => exact ⟨c, rfl, (hp c List.mem_cons_self).1, by show 0 * 10 + (c - 48) = c - 48; omega⟩
  | c :: c2 :: r, _, hp, h3, hn =>
    have a := (hp c List.mem_cons_self).1
    have b : c ≠ 48 := fun z => by have := h3 (by rw [z]; rfl); simp at this
    have g : (0 * 10 + (c - 48)) * 10 + (c2 - 48) ≤ natV (c :: c2 :: r) := fold_ge r _
    omega
theorem Canon.zero {m : Nat} {ds : Tx} (h : Canon m ds) : numV ds = 0 ↔ ds = [48] := by
  constructor
  · intro e
    have e : natV ds = 0 := by have e : ((natV ds : Nat) : Int) = 0 := e; omega
    obtain ⟨c, rfl, h1, h2⟩ := h.lt10 (by omega)
    rw [show c = 48 by omega]
  · rintro rfl; rfl
theorem Canon.one {m : Nat} {ds : Tx} (h : Canon m ds) : numV ds = 1 ↔ ds = [49] := by
  constructor
  · intro e
    have e : natV ds = 1 := by have e : ((natV ds : Nat) : Int) = 1 := e; omega
    obtain ⟨c, rfl, h1, h2⟩ := h.lt10 (by omega)
    rw [show c = 49 by omega]
  · rintro rfl; rfl
def Shr.lp (q : Shr) : Int × Int := if ((q.neg && decide (q.n = [48])) || decide (q.d = some [49])) = true then (0, 0) else (q.nV, q.dV)
theorem Shr.ld_lp (q : Shr) : q.ld = .tuple [.int q.lp.1, .int q.lp.2] := by
  unfold Shr.ld Shr.lp
  split <;> rfl
theorem Shr.lsm {q : Shr} (w : q.wf) : K06.lsm q.lp.1 q.lp.2 = q.ok := by
  have z1 : decide (numV q.n = 0) = decide (q.n = [48]) := decide_eq_decide.mpr w.1.zero
  have z2 : (q.d.isSome && decide (q.dV = 1)) = decide (q.d = some [49]) := by
    unfold Shr.dV
    cases hd : q.d with
    | none => rfl
    | some e =>
      have := (w.2 e hd).one
      show (true && decide (numV e = 1)) = _
      rw [Bool.true_and]
      exact decide_eq_decide.mpr ⟨fun h => by rw [this.mp h], fun h => this.mpr (Option.some.inj h)⟩
  have dn := q.dV_nonneg
  have G := GR_eq
  unfold Shr.ok Shr.good Shr.lp
  rw [z1, z2]
  cases h1 : (q.neg && decide (q.n = [48])) with
  | true =>
    rw [Bool.true_or, if_pos rfl, Bool.not_true, Bool.and_false, Bool.false_and, Bool.false_and, Bool.false_and]
    unfold K06.lsm
    rw [show decide ((1 : Int) ≤ 0) = false from rfl, Bool.false_and, Bool.and_false, Bool.and_false]
  | false =>
    cases h2 : decide (q.d = some [49]) with
    | true =>
      rw [Bool.false_or, if_pos rfl, Bool.not_true, Bool.and_false, Bool.false_and, Bool.false_and, Bool.false_and, Bool.false_and]
      unfold K06.lsm
      rw [show decide ((1 : Int) ≤ 0) = false from rfl, Bool.false_and, Bool.and_false, Bool.and_false]
    | false =>
      rw [Bool.false_or, if_neg Bool.false_ne_true, Bool.not_false, Bool.and_true, Bool.and_true]
      unfold K06.lsm rng
      have g : Int.gcd q.nV q.dV = Int.gcd (numV q.n) q.dV := by
        unfold Shr.nV
        split
        · rw [show 0 - numV q.n = -(numV q.n) by omega, Int.neg_gcd]
        · rfl
      rw [g]
      rw [Bool.eq_iff_iff]
      simp only [Bool.and_eq_true, decide_eq_true_eq]
      constructor
      · rintro ⟨⟨a, b⟩, ⟨c, d⟩, e, f⟩
        exact ⟨⟨⟨by omega, f⟩, by omega⟩, d⟩
      · rintro ⟨⟨⟨a, f⟩, b⟩, d⟩
        exact ⟨⟨by omega, by omega⟩, ⟨by omega, d⟩, by omega, f⟩
end K06
end Sec_P8
section Sec_L11
set_option Elab.async false
set_option linter.all false
set_option maxRecDepth 100000
set_option maxHeartbeats 4000000
namespace K06
open PySem PySem.Spec PyProof.Rows L2
open SX (S)
/-! ### a deal's own number and what stands within, for the law -/
theorem Amt.lap10 (a : Amt) : decide ((10 : Int) < (a.lap : Nat)) = !a.ok10 := by
  rw [a.lap_eq]
  unfold Amt.ok10
  cases h : a.okN with
  | false => rfl
  | true =>
    rw [if_pos rfl, Bool.true_and, ← decide_not]
    exact decide_eq_decide.mpr (by omega)
theorem Amt.lap_ok {a : Amt} (h : a.ok10 = true) : a.lap = a.parts := by
  rw [a.lap_eq]
  unfold Amt.ok10 at h
  simp only [Bool.and_eq_true, decide_eq_true_eq] at h
  rw [if_pos h.1]
  omega
def Deal.isL : Deal → Bool
  | .none => true
  | .coin _ => true
  | .one _ _ => true
  | .two _ _ _ => true
  | _ => false
def Deal.isWn : Deal → Bool
  | .when _ _ _ => true
  | _ => false
section
variable {P : Program} {w : World} {K : PySem.W.Frag} {mg : Str → Option Value} {base : Heap} {A : Ads}
def sp_lhd (n : Nat) : Sp := fun vs H Q _ => ∃ (v : V) (d : Deal), vs = [v] ∧ d.wf ∧ Tp H d.ld v ∧ d.hgt ≤ n ∧
  ∀ H' p l xs, Same H H' → H' p = some (.tup [.int (((ownN d).getD 99 : Nat)), .ref l]) → H' l = some (.lst xs) → (ownN d ≠ none → TpL H' (d.sub.map Deal.ld) xs) → Q (.ref p) H'
theorem ok_law_head (T : Txt K mg A) {n : Nat} (G__law_amount_parts : Cl P w K mg base CX0 (1 + n) "_law_amount_parts" (sp_lap n)) (G__law_long : Cl P w K mg base CX0 1 "_law_long" sp_long) (G__law_is_small : Cl P w K mg base CX0 1 "_law_is_small" sp_lis) : Cl P w K mg base CX0 (1 + n + 1) "_law_head" (sp_lhd n) := by
  refine T.f__law_head.cl sc__law_head (fun vs H Q E h => ?_) (fun f cdv A' outer s H vs Q E hr h => ?_)
  · obtain ⟨v, d, rfl, _⟩ := h; rfl
  obtain ⟨v, d, rfl, wf, hd, hh, q⟩ := h
  refine ⟨_, (pss_cons (ps_if (PW.pt (pw_or (pt_not (pt_val (pe_callB call_isi (by rfl) T.z_isinstance (by decide +kernel) (pa_cons (pv 0) (pa_cons (pe_bltn (by rfl) T.z_tuple (by decide +kernel) (v := .ty "tuple") rfl) pa_nil))))) (pw_or (pt_cmpR op_eq (pe_callB call_len_seq (by rfl) T.z_len (by decide +kernel) (pa_cons (pv 0) pa_nil)) pe_int (nomark _)) (pw_or1 (pt_not (pt_val (pe_callB call_isi (by rfl) T.z_isinstance (by decide +kernel) (pa_cons (pe_ix ix_tup (pv 0) pe_int (fun _ _ => rfl)) (pa_cons (pe_bltn (by rfl) T.z_str (by decide +kernel) (v := .ty "str") rfl) pa_nil))))))))) (pss_one (ps_ret (pe_tup (pa_cons pe_int (pa_cons (pe_lst pa_nil) pa_nil))))) pss_nil) (pss_cons (ps_set (i := 1) sc__law_head.nd rfl (Or.inl rfl) (pe_ix ix_tup (pv 0) pe_int (fun _ _ => rfl))) (pss_cons (ps_set (i := 2) sc__law_head.nd rfl (Or.inl rfl) (pe_callTy call_list_of (by rfl) T.z_list (by decide +kernel) (pa_cons (pe_slice sl_tupA (pv 0) (po_some pe_int) po_none) pa_nil))) (pss_cons (ps_if (pt_cmpR op_eq (pcl G__law_long hr (by omega) rfl (pa_cons (pv 1) pa_nil)) (pe_callB call_len_seq (by rfl) T.z_len (by decide +kernel) (pa_cons (pv 2) pa_nil)) (nomark _)) (pss_cons (ps_if (pt_cmpR op_eq (pv 1) pe_str (nomark _)) (pss_cons (ps_set (i := 3) sc__law_head.nd rfl (Or.inl rfl) (pcl G__law_amount_parts hr (by omega) rfl (pa_cons (pe_ix ix_list (pv 2) pe_int (fun _ _ => rfl)) pa_nil))) (pss_one (ps_ret (pe_tup (pa_cons (pe_ifExp (pt_cmpR op_gt (pv 3) pe_int (nomark _)) pe_int (pe_op op_add pe_int (pv 3))) (pa_cons (pe_lst pa_nil) pa_nil)))))) pss_nil) (pss_one (ps_ret (pe_tup (pa_cons pe_int (pa_cons (pv 2) pa_nil)))))) pss_nil) (pss_cons (ps_if (pt_cmpR op_ne (pe_callB call_len_seq (by rfl) T.z_len (by decide +kernel) (pa_cons (pv 2) pa_nil)) pe_int (nomark _)) (pss_one (ps_ret (pe_tup (pa_cons pe_int (pa_cons (pe_lst pa_nil) pa_nil))))) pss_nil) (pss_cons (ps_if (pt_cmpR op_eq (pv 1) pe_str (nomark _)) (pss_cons (ps_set (i := 4) sc__law_head.nd rfl (Or.inl rfl) (pe_and (pe_callB call_isi (by rfl) T.z_isinstance (by decide +kernel) (pa_cons (pe_ix ix_list (pv 2) pe_int (fun _ _ => rfl)) (pa_cons (pe_bltn (by rfl) T.z_int (by decide +kernel) (v := .ty "int") rfl) pa_nil))) (pe_and (pe_not (pe_callB call_isi (by rfl) T.z_isinstance (by decide +kernel) (pa_cons (pe_ix ix_list (pv 2) pe_int (fun _ _ => rfl)) (pa_cons (pe_bltn (by rfl) T.z_bool (by decide +kernel) (v := .ty "bool") rfl) pa_nil)))) (pe_one (pe_chain op_le op_le pe_int (pe_ix ix_list (pv 2) pe_int (fun _ _ => rfl)) pe_int))))) (pss_one (ps_ret (pe_tup (pa_cons (pe_ifExp (pt_val (pv 4)) pe_int pe_int) (pa_cons (pe_slice sl_list (pv 2) (po_some pe_int) po_none) pa_nil)))))) pss_nil) (pss_cons (ps_if (pt_cmpR op_in_seq (pv 1) (pe_tup (pa_cons pe_str (pa_cons pe_str pa_nil))) (by rfl)) (pss_cons (ps_set (i := 5) sc__law_head.nd rfl (Or.inl rfl) (pe_ix ix_list (pv 2) pe_int (fun _ _ => rfl))) (pss_cons (ps_if (PW.pt (pw_or (pt_not (pt_val (pe_callB call_isi (by rfl) T.z_isinstance (by decide +kernel) (pa_cons (pv 5) (pa_cons (pe_bltn (by rfl) T.z_tuple (by decide +kernel) (v := .ty "tuple") rfl) pa_nil))))) (pw_or (pt_cmpR op_ne (pe_callB call_len_seq (by rfl) T.z_len (by decide +kernel) (pa_cons (pv 5) pa_nil)) pe_int (nomark _)) (pw_or1 (pt_cmpR op_notIn_seq (pe_ix ix_tup (pv 5) pe_int (fun _ _ => rfl)) (pe_lst (pa_cons pe_str (pa_cons pe_str pa_nil))) (by rfl)))))) (pss_one (ps_ret (pe_tup (pa_cons pe_int (pa_cons (pe_lst pa_nil) pa_nil))))) pss_nil) (pss_cons (ps_setLc (i := 3) (own := [("_law_one", 6)]) (g := gName 6) rfl sc__law_head.nd rfl rfl (sw_true rfl rfl rfl (by decide +kernel)) (pi_tup (pe_slice sl_tupA (pv 5) (po_some pe_int) po_none)) (blkOk_by (own := [("_law_one", 6)]) (N := N__law_head) (sc := defScope s__law_head) (by decide +kernel)) (fun _ _ _ _ _ => pg_name (i := 6) sc__law_head.nd rfl (Or.inl rfl)) (fun _ _ _ _ _ => pts_nil) (fun _ _ _ _ _ => (pcl G__law_amount_parts hr (by omega) rfl (pa_cons (pv 6) pa_nil)))) (pss_one (ps_ret (pe_tup (pa_cons (pe_ifExp (pt_cmpR op_gt (pe_callB (cr_max rfl) (by rfl) T.z_max (by decide +kernel) (pa_cons (pv 3) pa_nil)) pe_int (nomark _)) pe_int (pe_op op_add pe_int (pe_callB (cr_sum rfl) (by rfl) T.z_sum (by decide +kernel) (pa_cons (pv 3) pa_nil)))) (pa_cons (pe_slice sl_list (pv 2) (po_some pe_int) po_none) pa_nil)))))))) pss_nil) (pss_cons (ps_if (pt_cmpR op_eq (pv 1) pe_str (nomark _)) (pss_cons (ps_set (i := 3) sc__law_head.nd rfl (Or.inl rfl) (pcl G__law_amount_parts hr (by omega) rfl (pa_cons (pe_ix ix_list (pv 2) pe_int (fun _ _ => rfl)) pa_nil))) (pss_one (ps_ret (pe_tup (pa_cons (pe_ifExp (pt_cmpR op_gt (pv 3) pe_int (nomark _)) pe_int (pe_op op_add pe_int (pv 3))) (pa_cons (pe_slice sl_list (pv 2) (po_some pe_int) po_none) pa_nil)))))) pss_nil) (pss_one (ps_ret (pe_tup (pa_cons (pe_ifExp (PW.pt (pw_and (pt_cmpR op_eq (pv 1) pe_str (nomark _)) (pw_and1 (pt_val (pcl G__law_is_small hr (by omega) rfl (pa_cons (pe_ix ix_list (pv 2) pe_int (fun _ _ => rfl)) pa_nil)))))) pe_int pe_int) (pa_cons (pe_slice sl_list (pv 2) (po_some pe_int) po_none) pa_nil))))))))))))), ?_⟩
  obtain ⟨x, rest, epd⟩ : ∃ (x : Tx) (rest : List PyData), d.ld = .tuple (st x :: rest) := by cases d <;> exact ⟨_, _, rfl⟩
  have hd2 := id hd
  rw [epd] at hd2
  obtain ⟨a0, us, rfl, ha, y, ys, rfl, hy, hys⟩ := hd2
  cases hy
  have yl : ys.length = rest.length := hys.length
  refine Evl.q_when (b := false) (Evl.et_is (Evl.et_or (a := false) (b := false) (Evl.et_not (a := true) (et_refl fun H2 e2 Q1 q1 => ?_)) fun _ => Evl.et_or (a := false) (b := false) (et_refl fun H2 e2 Q1 q1 => ?_) fun _ => Evl.et_not (a := true) (et_refl fun H2 e2 Q1 q1 => ?_)) rfl) (fun hb => Bool.noConfusion hb) (fun _ H1 e1 => ?_)
  · refine ⟨_, rfl, ?_⟩
    have t1 := hd.up (Same.tups e2)
    rw [epd] at t1
    refine ⟨_, _, _, _, _, rfl, .ty _, Tp.ty (K := K) (t1), kit_ty (kit_tuple _), ?_⟩
    exact ⟨_, rfl, q1⟩
  · refine ⟨_, rfl, ?_⟩
    exact ⟨_, _, rfl, .inr (SqT.of (e2 _ _ ha)), rfl, false, congrArg V.bl (decide_eq_false (fun z => by injection z with z; rw [List.length_cons] at z; omega)), q1⟩
  · refine ⟨_, rfl, ?_⟩
    refine ⟨_, _, _, _, rfl, rfl, SqT.of (e2 _ _ ha), (by first | exact at0 | exact at1 | exact at2 | rfl), ?_⟩
    have t1 : Tp H2 (st x) (V.str (S x)) := rfl
    refine ⟨_, _, _, _, _, rfl, .ty _, Tp.ty (K := K) (t1), kit_ty (kit_str _), ?_⟩
    exact ⟨_, rfl, q1⟩
  refine Evl.q_asg (v := .str (S x)) (ev_refl fun H2 e2 Q1 q1 => ?_) (fun H2 e2 => ?_)
  · refine ⟨_, rfl, ?_⟩
    refine ⟨_, _, _, _, rfl, rfl, SqT.of ((e1.trans e2) _ _ ha), (by first | exact at0 | exact at1 | exact at2 | rfl), ?_⟩
    exact q1
  have e0 : Same H H2 := Evl.Ex.trans e1 e2
  refine Evl.q_asgL (xs := ys) (fun H3 e3 Q1 q1 => ?_) (fun l H3 nl e3 hl => ?_)
  · refine ⟨_, rfl, ?_⟩
    dsimp only [tNoPart]
    refine ⟨_, rfl, ?_⟩
    refine sl1 ((e0.trans e3) _ _ ha) fun p np => ?_
    refine ⟨p, _, rfl, .inr (SqT.of upd_same), fun l nl => ?_⟩
    exact q1 l _ (Evl.fresh_back (Evl.Ex.new np) nl) (Evl.Ex.trans (Evl.Ex.new np) (Evl.Ex.new nl)) upd_same
  have e0 := Same.trans e0 e3
  have mk : ∀ {H' : Hp} {l' : Addr} {zs : List V} {m : Int}, Same H H' → m = (((ownN d).getD 99 : Nat) : Int) → H' l' = some (.lst zs) → (ownN d ≠ none → TpL H' (d.sub.map Deal.ld) zs) → ∀ p, H' p = none → Q (.ref p) (upd H' p (.tup [.int m, .ref l'])) := by
    intro H' l' zs m s1 em hl' hz p np
    subst em
    have s2 : Same H' (upd H' p (.tup [.int (((ownN d).getD 99 : Nat) : Int), .ref l'])) := Same.new np
    exact q _ p l' zs (s1.trans s2) upd_same (s2 _ _ hl') fun h => (hz h).up (Same.tups s2)
  have lq : ∀ {k : Int}, longN (S x) = .int k → ∀ H4, Same H3 H4 → ∀ Q1 : Bool → Hp → Prop, (∀ H5, Same H4 H5 → Q1 (decide (k = ys.length)) H5) → (tTest (tOp rEq (tCl sp_long (tCons (tVar 1) tNil)) (tCB (fun xs H_1 Q => ∃ p ys, xs = [V.ref p] ∧ (SqL K H_1 p ys ∨ SqT K H_1 p ys) ∧ Q (V.int ↑ys.length) H_1) (tCons (tVar 2) tNil)))) [some (.ref a0), some (.str (S x)), some (.ref l), none, none, none, none] H4 Q1 := by
    intro k hk H4 e4 Q1 q1
    refine ⟨_, rfl, ?_⟩
    refine ⟨S x, rfl, fun H5 e5 => ?_⟩
    refine ⟨_, rfl, ?_⟩
    refine ⟨_, _, rfl, .inl (SqL.of (e5 _ _ (e4 _ _ hl))), ?_⟩
    rw [hk]
    exact ⟨rfl, _, congrArg V.bl (decide_eq_decide.mpr ⟨fun z => by injection z, fun z => by rw [z]⟩), q1 H5 e5⟩
  have wx : ∀ {x' : Tx} {rest' : List PyData}, d.ld = .tuple (st x' :: rest') → x = x' ∧ rest = rest' := by
    intro x' rest' e
    rw [e] at epd
    injection epd with e
    injection e with e1 e2
    injection e1 with e1
    exact ⟨(S_inj (a := x') (b := x) e1).symm, e2.symm⟩
  obtain ⟨k, hk, hkl⟩ : ∃ k : Int, longN (S x) = .int k ∧ decide (k = ys.length) = d.isL := by
    rw [yl]
    cases d with
    | none => obtain ⟨rfl, rfl⟩ := wx rfl; exact ⟨0, by decide +kernel, rfl⟩
    | coin a => obtain ⟨rfl, rfl⟩ := wx rfl; exact ⟨1, by decide +kernel, rfl⟩
    | one w d => obtain ⟨rfl, rfl⟩ := wx rfl; rcases wf.1 with rfl | rfl <;> exact ⟨1, by decide +kernel, rfl⟩
    | two w d e => obtain ⟨rfl, rfl⟩ := wx rfl; rcases wf.1 with rfl | rfl <;> exact ⟨2, by decide +kernel, rfl⟩
    | later g d => obtain ⟨rfl, rfl⟩ := wx rfl; exact ⟨99, by decide +kernel, rfl⟩
    | when w s d => obtain ⟨rfl, rfl⟩ := wx rfl; rcases wf.1 with rfl | rfl <;> exact ⟨99, by decide +kernel, rfl⟩
    | scale a d => obtain ⟨rfl, rfl⟩ := wx rfl; exact ⟨99, by decide +kernel, rfl⟩
    | «by» q d => obtain ⟨rfl, rfl⟩ := wx rfl; exact ⟨99, by decide +kernel, rfl⟩
  refine Evl.q_when (b := d.isL) (fun H4 e4 Q1 q1 => lq hk H4 e4 Q1 fun H5 e5 => by rw [hkl]; exact q1 H5 e5) (fun hL H4 e4 => ?_) (fun hL H4 e4 => ?_)
  · have e0 := Same.trans e0 e4
    have hl := e4 _ _ hl
    refine Evl.q_when (b := decide (x = Word.coin.tx)) (et_refl fun H5 e5 Q1 q1 => ⟨_, rfl, rfl, _, rfl, by rw [eqS (show ("coin" : Str) = S Word.coin.tx by decide +kernel)]; exact q1⟩) (fun hb H5 e5 => ?_) (fun hb H5 e5 => ?_)
    · have hb := of_decide_eq_true hb
      have e0 := Same.trans e0 e5
      have hl := e5 _ _ hl
      cases d with
      | coin a =>
        obtain ⟨rfl, rfl⟩ := wx rfl
        obtain ⟨z, zs, rfl, hz, hn⟩ := hys
        cases hn
        refine ⟨_, rfl, ?_⟩
        refine ⟨_, _, _, _, rfl, rfl, SqL.of hl, rfl, ?_⟩
        refine ⟨z, a, rfl, wf, hz.up (Same.tups e0), (by have : 1 + a.hgt ≤ n := hh; omega), fun H6 e6 => ?_⟩
        have e0 := Same.trans e0 e6
        dsimp only [gName]
        refine ⟨_, rfl, ?_⟩
        refine ⟨_, _, rfl, rfl, _, rfl, ?_⟩
        rw [a.lap10]
        cases ho : a.ok10 with
        | true =>
          refine iteF ⟨_, rfl, _, _, rfl, rfl, ⟨(by show 0 ≤ sizeLine; decide), fun p np => ⟨(by show 2 ≤ sizeLine; decide), ?_⟩⟩⟩
          refine mk (zs := []) (Same.trans e0 (Same.new np)) ?_ upd_same fun _ => rfl
          have e : ownN (.coin a) = some (1 + a.parts) := if_pos ho
          rw [e, a.lap_ok ho]
          show (1 : Int) + (a.parts : Nat) = ((1 + a.parts : Nat) : Int)
          omega
        | false =>
          refine iteT ⟨(by show 0 ≤ sizeLine; decide), fun p np => ⟨(by show 2 ≤ sizeLine; decide), ?_⟩⟩
          have e : ownN (.coin a) = none := if_neg (by rw [ho]; exact Bool.false_ne_true)
          refine mk (zs := []) (Same.trans e0 (Same.new np)) (by rw [e]; rfl) upd_same fun h => absurd e h
      | none => exact absurd ((wx rfl).1.symm.trans hb) (by decide)
      | one w d => rcases wf.1 with rfl | rfl <;> exact absurd ((wx rfl).1.symm.trans hb) (by decide)
      | two w d e => rcases wf.1 with rfl | rfl <;> exact absurd ((wx rfl).1.symm.trans hb) (by decide)
      | _ => exact Bool.noConfusion hL
    · have hb := of_decide_eq_false hb
      have e0 := Same.trans e0 e5
      have hl := e5 _ _ hl
      refine ⟨_, rfl, ?_⟩
      refine ⟨(by show 2 ≤ sizeLine; decide), mk e0 ?_ hl fun _ => ?_⟩
      · cases d <;> first | rfl | exact absurd (wx rfl).1 hb | exact Bool.noConfusion hL
      · have t := hys.up (Same.tups e0)
        have er : rest = d.sub.map Deal.ld := by cases d <;> first | exact (wx rfl).2 | exact absurd (wx rfl).1 hb | exact Bool.noConfusion hL
        rw [← er]
        exact t
  · have e0 := Same.trans e0 e4
    have hl := e4 _ _ hl
    obtain ⟨u, t, hu, ys2, er⟩ : ∃ (u : PyData) (t : Deal), rest = [u, t.ld] ∧ d.sub = [t] ∧ True := by
      cases d with
      | later g t => exact ⟨_, t, (wx rfl).2, rfl, trivial⟩
      | when w s t => exact ⟨_, t, (wx rfl).2, rfl, trivial⟩
      | scale a t => exact ⟨_, t, (wx rfl).2, rfl, trivial⟩
      | «by» g t => exact ⟨_, t, (wx rfl).2, rfl, trivial⟩
      | _ => exact Bool.noConfusion hL
    rw [hu] at hys
    obtain ⟨z, zs, rfl, hz, z2, zs2, rfl, hz2, hn⟩ := hys
    cases hn
    refine Evl.q_when (b := false) (et_refl fun H5 e5 Q1 q1 => ?_) (fun hb => Bool.noConfusion hb) (fun _ H5 e5 => ?_)
    · refine ⟨_, rfl, ?_⟩
      exact ⟨_, _, rfl, .inl (SqL.of (e5 _ _ hl)), rfl, false, rfl, q1⟩
    have e0 := Same.trans e0 e5
    have hl := e5 _ _ hl
    have rest1 : ∀ {σ : L2.St} {H6 : Hp} {Q1 : VK}, σ[2]? = some (some (.ref l)) → Same H5 H6 → (∀ p, H6 p = none → Q1 (.ref p) (upd H6 p (.lst [z2]))) → tSl (rSlL K) (tVar 2) (tPart (tC (.int 1))) tNoPart σ H6 Q1 := fun hs e6 q1 =>
      ⟨_, hs, _, rfl, l, _, rfl, Evl.sq_of (e6 _ _ hl), fun p np => q1 p np⟩
    have fin : ∀ {H6 : Hp} {m : Int}, Same H5 H6 → m = (((ownN d).getD 99 : Nat) : Int) → ∀ p, H6 p = none → ([V.int m, V.ref p].length ≤ sizeLine ∧ ∀ r, upd H6 p (.lst [z2]) r = none → Q (.ref r) (upd (upd H6 p (.lst [z2])) r (.tup [.int m, .ref p]))) := fun e6 em p np =>
      ⟨(by show 2 ≤ sizeLine; decide), mk (zs := [z2]) (Same.trans e0 (Same.trans e6 (Same.new np))) em upd_same fun _ => by
        rw [ys2]
        exact ⟨z2, [], rfl, hz2.up (Same.tups (Same.trans e0 (Same.trans e6 (Same.new np)))), rfl⟩⟩
    refine Evl.q_when (b := decide (x = Word.later.tx)) (et_refl fun H6 e6 Q1 q1 => ⟨_, rfl, rfl, _, rfl, by rw [eqS (show ("later" : Str) = S Word.later.tx by decide +kernel)]; exact q1⟩) (fun hb H6 e6 => ?_) (fun hb H6 e6 => ?_)
    · have hb := of_decide_eq_true hb
      cases d with
      | later g t' =>
        have hu2 : u = .int (numV g) := by
          have e := (wx rfl).2
          rw [hu] at e
          injection e
        subst hu2
        cases hz
        refine Evl.q_asg (v := .bl (decide (numV g ≤ 9))) (Evl.ev_is (Evl.ev_andV (a := true) (b := decide (numV g ≤ 9)) (ev_refl fun H7 e7 Q1 q1 => ?_) fun _ => Evl.ev_andV (a := true) (b := decide (numV g ≤ 9)) (Evl.ev_notV (a := false) (ev_refl fun H7 e7 Q1 q1 => ?_)) fun _ => (ev_refl fun H7 e7 Q1 q1 => ?_)) rfl) (fun H7 e7 => ?_)
        · refine ⟨_, rfl, ?_⟩
          refine ⟨_, _, _, _, rfl, rfl, SqL.of ((e6.trans e7) _ _ hl), rfl, ?_⟩
          have t1 : Tp H7 (PyData.int (numV g)) (V.int (numV g)) := rfl
          refine ⟨_, _, _, _, _, rfl, .ty _, Tp.ty (K := K) (t1), kit_ty (kit_int _), ?_⟩
          exact q1
        · refine ⟨_, rfl, ?_⟩
          refine ⟨_, _, _, _, rfl, rfl, SqL.of ((e6.trans e7) _ _ hl), rfl, ?_⟩
          have t1 : Tp H7 (PyData.int (numV g)) (V.int (numV g)) := rfl
          refine ⟨_, _, _, _, _, rfl, .ty _, Tp.ty (K := K) (t1), kit_ty (kit_bool _), ?_⟩
          exact q1
        · refine ⟨_, rfl, ?_⟩
          refine ⟨_, _, _, _, rfl, rfl, SqL.of ((e6.trans e7) _ _ hl), rfl, ?_⟩
          exact ⟨0, _, rfl, rfl, true, congrArg V.bl (decide_eq_true (natV_nonneg g)), iteT ⟨_, _, rfl, rfl, q1⟩⟩
        · have e : ownN (.later g t') = if decide (numV g ≤ 9) = true then some 1 else none := by
            show (if (decide (0 ≤ numV g) && decide (numV g ≤ 9)) = true then some 1 else none) = _
            rw [decide_eq_true (natV_nonneg g), Bool.true_and]
          cases hn : decide (numV g ≤ 9) with
          | true =>
            rw [hn, if_pos rfl] at e
            exact ⟨_, rfl, _, rfl, iteT (rest1 rfl (e6.trans e7) (fin (e6.trans e7) (by rw [e]; rfl)))⟩
          | false =>
            rw [hn, if_neg Bool.false_ne_true] at e
            exact ⟨_, rfl, _, rfl, iteF (rest1 rfl (e6.trans e7) (fin (e6.trans e7) (by rw [e]; rfl)))⟩
      | when w s t' => rcases wf.1 with rfl | rfl <;> exact absurd ((wx rfl).1.symm.trans hb) (by decide)
      | scale a t' => exact absurd ((wx rfl).1.symm.trans hb) (by decide)
      | «by» g t' => exact absurd ((wx rfl).1.symm.trans hb) (by decide)
      | _ => exact Bool.noConfusion hL
    have hb1 := of_decide_eq_false hb
    have hw : decide (S x ∈ (["once", "until"] : List Str)) = d.isWn := by
      cases d with
      | later g t' => exact absurd (wx rfl).1 hb1
      | when w s t' => rw [(wx rfl).1]; rcases wf.1 with rfl | rfl <;> (show _ = true; decide +kernel)
      | scale a t' => rw [(wx rfl).1]; show _ = false; decide +kernel
      | «by» g t' => rw [(wx rfl).1]; show _ = false; decide +kernel
      | _ => exact Bool.noConfusion hL
    refine Evl.q_when (b := d.isWn) (fun H7 e7 Q1 q1 => ⟨_, rfl, (by show 2 ≤ sizeLine; decide), fun p np => ⟨p, (["once", "until"] : List Str).map V.str, rfl, .inr (SqT.of upd_same), rfl, all_flat _, _, rfl, by
      rw [if_neg Bool.false_ne_true, inV_str, hw]
      exact q1 _ (Evl.Ex.new np)⟩⟩) (fun hW H7 e7 => ?_) (fun hW H7 e7 => ?_)
    · cases d with
      | when w s t' =>
        have hu2 : u = s.pd := by
          have e := (wx rfl).2
          rw [hu] at e
          injection e
        subst hu2
        have e67 := e6.trans e7
        obtain ⟨ap, us3, rfl, hap, y0, r0, rfl, hy0, y1, r1, rfl, hy1, y2, r2, rfl, hy2, hn3⟩ := id hz
        cases hn3; cases hy0
        have hh : 1 + max (max s.a.hgt s.b.hgt) t'.hgt ≤ n := hh
        obtain ⟨hsk, wa, wb⟩ := wf.2.1
        have ap0 := (Same.trans e0 e67) _ _ hap
        refine Evl.q_asg (v := .ref ap) (ev_refl fun H8 e8 Q1 q1 => ?_) (fun H8 e8 => ?_)
        · refine ⟨_, rfl, ?_⟩
          refine ⟨_, _, _, _, rfl, rfl, SqL.of ((e67.trans e8) _ _ hl), rfl, ?_⟩
          exact q1
        have ap8 := e8 _ _ ap0
        have skn : inV (V.str (S s.k.nm)) [.str "below", .str "upto"] = true := by
          have := hsk
          simp only [signs, List.mem_cons, List.not_mem_nil, or_false] at this
          rcases this with h | h <;> rw [h] <;> decide +kernel
        refine Evl.q_when (b := false) (Evl.et_is (Evl.et_or (a := false) (b := false) (Evl.et_not (a := true) (et_refl fun H9 e9 Q1 q1 => ?_)) fun _ => Evl.et_or (a := false) (b := false) (et_refl fun H9 e9 Q1 q1 => ?_) fun _ => (fun H9 e9 Q1 q1 => ?_)) rfl) (fun hb => Bool.noConfusion hb) (fun _ H9 e9 => ?_)
        · refine ⟨_, rfl, ?_⟩
          have t1 := hz.up (Same.tups (Same.trans e0 (Same.trans e67 (Same.trans e8 e9))))
          refine ⟨_, _, _, _, _, rfl, .ty _, Tp.ty (K := K) (t1), kit_ty (kit_tuple _), ?_⟩
          exact ⟨_, rfl, q1⟩
        · refine ⟨_, rfl, ?_⟩
          exact ⟨_, _, rfl, .inr (SqT.of (e9 _ _ ap8)), rfl, false, rfl, q1⟩
        · refine ⟨_, rfl, ?_⟩
          refine ⟨_, _, _, _, rfl, rfl, SqT.of (e9 _ _ ap8), (by first | exact at0 | exact at1 | exact at2 | rfl), ?_⟩
          exact ⟨(by show 2 ≤ sizeLine; decide), fun p np => ⟨p, _, rfl, .inl (SqL.of upd_same), rfl, rfl, false, congrArg V.bl (by rw [if_pos rfl]; show (!(inV (V.str (S s.k.nm)) _)) = _; rw [skn]; rfl), q1 _ (Evl.Ex.new np)⟩⟩
        have ap9 := e9 _ _ ap8
        have e0L := Same.trans e0 (Same.trans e67 (Same.trans e8 e9))
        refine ⟨_, rfl, ?_⟩
        dsimp only [tNoPart]
        refine ⟨_, rfl, ?_⟩
        refine sl1 ap9 fun p np => ?_
        have s10 : Same H9 (upd H9 p (.tup [y1, y2])) := Same.new np
        have h10 : (upd H9 p (.tup [y1, y2])) p = some (.tup [y1, y2]) := upd_same
        generalize upd H9 p (.tup [y1, y2]) = H10 at s10 h10 ⊢
        have hy1' := hy1.up (Same.tups (e0L.trans s10))
        have hy2' := hy2.up (Same.tups (e0L.trans s10))
        refine ⟨p, rfl, ⟨_, SqT.of h10⟩, fun D hD => ?_⟩
        refine lc_opt (rs := [some s.a.lap, some s.b.lap]) hD (SqT.of h10) (by show 2 ≤ 100000; decide) rfl (fun i x' r H11 hi hr s11 Q7 q7 => ?_) (fun _ H11 s11 h11 => ?_)
        · have : ∃ b : Amt, r = some b.lap ∧ b.wf ∧ Tp H11 b.pd x' ∧ b.hgt ≤ max s.a.hgt s.b.hgt := by
            match i, hi, hr with
            | 0, hi, hr => cases hi; cases hr; exact ⟨s.a, rfl, wa, hy1'.up (Same.tups s11), by omega⟩
            | 1, hi, hr => cases hi; cases hr; exact ⟨s.b, rfl, wb, hy2'.up (Same.tups s11), by omega⟩
            | i + 2, hi, _ => simp at hi
          obtain ⟨b, rfl, wb, hb, hbh⟩ := this
          refine ⟨rfl, _, rfl, x', b, rfl, wb, hb, by omega, fun H12 e12 => q7 _ rfl H12 e12⟩
        · have s910 : Same H9 H11 := s10.trans s11
          have h11' : H11 D = some (.lst (([(s.a.lap : Int), (s.b.lap : Int)] : List Int).map V.int)) := h11
          dsimp only [gName]
          have e511 : Same H5 H11 := Same.trans e67 (Same.trans e8 (Same.trans e9 s910))
          refine ⟨_, rfl, ?_⟩
          refine ⟨D, _, rfl, SqL.of h11', (by show 0 < 2; omega), fun m hm hmx => ?_⟩
          refine ⟨_, _, rfl, rfl, _, rfl, ?_⟩
          have em : decide ((10 : Int) < m) = !(s.a.ok10 && s.b.ok10) := by
            have ha10 := s.a.lap10
            have hb10 := s.b.lap10
            have m1 := hmx (s.a.lap : Int) (by simp)
            have m2 := hmx (s.b.lap : Int) (by simp)
            have m3 : m = s.a.lap ∨ m = s.b.lap := by simpa using hm
            rw [Bool.not_and, ← ha10, ← hb10, Bool.eq_iff_iff]
            simp only [Bool.or_eq_true, decide_eq_true_eq]
            omega
          rw [em]
          cases ho : (s.a.ok10 && s.b.ok10) with
          | true =>
            obtain ⟨oa, ob⟩ := (Bool.and_eq_true _ _).mp ho
            have e : ownN (.when w s t') = some (2 + s.a.parts + s.b.parts) := if_pos ho
            refine iteF ⟨_, rfl, D, _, rfl, SqL.of h11', _, _, rfl, rfl, rest1 rfl e511 (fin e511 ?_)⟩
            rw [e, ← s.a.lap_ok oa, ← s.b.lap_ok ob]
            show (2 : Int) + ((s.a.lap : Int) + ((s.b.lap : Int) + 0)) = ((2 + s.a.lap + s.b.lap : Nat) : Int)
            omega
          | false =>
            have e : ownN (.when w s t') = none := if_neg (by rw [ho]; exact Bool.false_ne_true)
            exact iteT (rest1 rfl e511 (fin e511 (by rw [e]; rfl)))
      | later g t' => exact Bool.noConfusion hW
      | scale a t' => exact Bool.noConfusion hW
      | «by» g t' => exact Bool.noConfusion hW
      | _ => exact Bool.noConfusion hL
    · have e0 := Same.trans e0 (e6.trans e7)
      have hl := (e6.trans e7) _ _ hl
      refine Evl.q_when (b := decide (x = Word.scale.tx)) (et_refl fun H8 e8 Q1 q1 => ⟨_, rfl, rfl, _, rfl, by rw [eqS (show ("scale" : Str) = S Word.scale.tx by decide +kernel)]; exact q1⟩) (fun hb H8 e8 => ?_) (fun hb H8 e8 => ?_)
      · have hb := of_decide_eq_true hb
        cases d with
        | scale a t' =>
          have hu2 : u = a.pd := by
            have e := (wx rfl).2
            rw [hu] at e
            injection e
          subst hu2
          refine ⟨_, rfl, ?_⟩
          refine ⟨_, _, _, _, rfl, rfl, SqL.of (e8 _ _ hl), rfl, ?_⟩
          refine ⟨z, a, rfl, wf.1, hz.up (Same.tups (Same.trans e0 e8)), (by have : 1 + max a.hgt t'.hgt ≤ n := hh; omega), fun H9 e9 => ?_⟩
          dsimp only [gName]
          refine ⟨_, rfl, ?_⟩
          refine ⟨_, _, rfl, rfl, _, rfl, ?_⟩
          rw [a.lap10]
          cases ho : a.ok10 with
          | true =>
            have e : ownN (.scale a t') = some (1 + a.parts) := if_pos ho
            refine iteF ⟨_, rfl, _, _, rfl, rfl, rest1 rfl ((e6.trans e7).trans (e8.trans e9)) (fin ((e6.trans e7).trans (e8.trans e9)) ?_)⟩
            rw [e, a.lap_ok ho]
            show (1 : Int) + (a.parts : Nat) = ((1 + a.parts : Nat) : Int)
            omega
          | false =>
            have e : ownN (.scale a t') = none := if_neg (by rw [ho]; exact Bool.false_ne_true)
            exact iteT (rest1 rfl ((e6.trans e7).trans (e8.trans e9)) (fin ((e6.trans e7).trans (e8.trans e9)) (by rw [e]; rfl)))
        | later g t' => exact absurd (wx rfl).1 hb1
        | when w s t' => exact Bool.noConfusion hW
        | «by» g t' => exact absurd ((wx rfl).1.symm.trans hb) (by decide)
        | _ => exact Bool.noConfusion hL
      · have hb := of_decide_eq_false hb
        cases d with
        | «by» g t' =>
          have hu2 : u = g.ld := by
            have e := (wx rfl).2
            rw [hu] at e
            injection e
          subst hu2
          have ex : x = Word.by.tx := (wx rfl).1
          subst ex
          refine ⟨_, rfl, rfl, _, rfl, iteT ?_⟩
          refine ⟨_, rfl, ?_⟩
          refine ⟨_, _, _, _, rfl, rfl, SqL.of (e8 _ _ hl), rfl, ?_⟩
          rw [g.ld_lp] at hz
          refine ⟨z, _, _, rfl, hz.up (Same.tups (Same.trans e0 e8)), fun H9 e9 => ?_⟩
          rw [Shr.lsm wf.1]
          have e59 := (e6.trans e7).trans (e8.trans e9)
          cases ho : g.ok with
          | true =>
            have e : ownN (.by g t') = some 1 := if_pos ho
            exact ⟨_, rfl, iteT (rest1 rfl e59 (fin e59 (by rw [e]; rfl)))⟩
          | false =>
            have e : ownN (.by g t') = none := if_neg (by rw [ho]; exact Bool.false_ne_true)
            exact ⟨_, rfl, iteF (rest1 rfl e59 (fin e59 (by rw [e]; rfl)))⟩
        | later g t' => exact absurd (wx rfl).1 hb1
        | when w s t' => exact Bool.noConfusion hW
        | scale a t' => exact absurd (wx rfl).1 hb
        | _ => exact Bool.noConfusion hL
end
end K06
end Sec_L11
section Sec_P9
set_option Elab.async false
set_option linter.all false
set_option maxRecDepth 100000
set_option maxHeartbeats 4000000
namespace K06
open PySem
open SX (S)
/-! ### the law's going over a deal, with a pile -/
def Deal.sz : Deal → Nat
  | .none => 1
  | .coin _ => 1
  | .one _ d => 1 + d.sz
  | .two _ d e => 1 + (d.sz + e.sz)
  | .later _ d => 1 + d.sz
  | .when _ _ d => 1 + d.sz
  | .scale _ d => 1 + d.sz
  | .by _ d => 1 + d.sz
theorem Deal.sz_sub (d : Deal) : d.sz = 1 + (d.sub.map Deal.sz).sum := by cases d <;> simp [Deal.sz, Deal.sub]
theorem Deal.sz_pos (d : Deal) : 1 ≤ d.sz := by rw [d.sz_sub]; omega
theorem Deal.sz_txt : ∀ d : Deal, d.sz ≤ d.txt.length
  | .none => by decide
  | .coin _ => by simp [Deal.sz, Deal.txt, tOpen]; omega
  | .one _ d => by have := d.sz_txt; simp [Deal.sz, Deal.txt, tOpen]; omega
  | .two _ d e => by have := d.sz_txt; have := e.sz_txt; simp [Deal.sz, Deal.txt, tOpen]; omega
  | .later _ d => by have := d.sz_txt; simp [Deal.sz, Deal.txt, tOpen]; omega
  | .when _ _ d => by have := d.sz_txt; simp [Deal.sz, Deal.txt, tOpen]; omega
  | .scale _ d => by have := d.sz_txt; simp [Deal.sz, Deal.txt, tOpen]; omega
  | .by _ d => by have := d.sz_txt; simp [Deal.sz, Deal.txt, tOpen]; omega
/-! words of some kinds, counted on the tree -/
def wd (ws : List Str) (x : Tx) : Nat := if S x ∈ ws then 1 else 0
theorem cntD_tup (ws : List Str) (x : Tx) (ds : List PyData) : cntD ws (.tuple (st x :: ds)) = wd ws x + cntL ws ds := by
  show wd ws x + (cntD ws (st x) + cntL ws ds) = _
  rw [show cntD ws (st x) = 0 from rfl, Nat.zero_add]
def Plain (ws : List Str) : Prop := ∀ x ∈ [tNumber, Word.price.tx, Word.time.tx, Word.most.tx, Word.least.tx, Mk.plus.nm, Mk.minus.nm, Mk.times.nm, Mk.below.nm, Mk.upto.nm], wd ws x = 0
theorem plainE : Plain wEither := by unfold Plain; decide +kernel
theorem plainA : Plain wAny := by unfold Plain; decide +kernel
theorem cnt_mk {ws : List Str} (p : Plain ws) (k : Mk) : wd ws k.nm = 0 := p _ (by cases k <;> simp)
theorem cnt_amt {ws : List Str} (p : Plain ws) : ∀ a : Amt, cntD ws a.pd = 0
  | .num ds => by show cntD ws (.tuple [st tNumber, .int (numV ds)]) = 0; rw [cntD_tup, p _ (by simp)]; rfl
  | .price => by show cntD ws (.tuple [st Word.price.tx]) = 0; rw [cntD_tup, p _ (by simp)]; rfl
  | .time => by show cntD ws (.tuple [st Word.time.tx]) = 0; rw [cntD_tup, p _ (by simp)]; rfl
  | .most a b => by show cntD ws (.tuple [st Word.most.tx, a.pd, b.pd]) = 0; rw [cntD_tup, p _ (by simp)]; show 0 + (cntD ws a.pd + (cntD ws b.pd + 0)) = 0; rw [cnt_amt p a, cnt_amt p b]
  | .least a b => by show cntD ws (.tuple [st Word.least.tx, a.pd, b.pd]) = 0; rw [cntD_tup, p _ (by simp)]; show 0 + (cntD ws a.pd + (cntD ws b.pd + 0)) = 0; rw [cnt_amt p a, cnt_amt p b]
  | .pr k a b => by show cntD ws (.tuple [st k.nm, a.pd, b.pd]) = 0; rw [cntD_tup, cnt_mk p]; show 0 + (cntD ws a.pd + (cntD ws b.pd + 0)) = 0; rw [cnt_amt p a, cnt_amt p b]
theorem cnt_sgn {ws : List Str} (p : Plain ws) (s : Sgn) : cntD ws s.pd = 0 := by
  show cntD ws (.tuple [st s.k.nm, s.a.pd, s.b.pd]) = 0
  rw [cntD_tup, cnt_mk p]
  show 0 + (cntD ws s.a.pd + (cntD ws s.b.pd + 0)) = 0
  rw [cnt_amt p, cnt_amt p]
theorem cnt_shr (ws : List Str) (q : Shr) : cntD ws q.pd = 0 := by unfold Shr.pd; split <;> rfl
abbrev cnt (ws : List Str) (d : Deal) : Nat := cntD ws (d.dat Shr.pd)
theorem cnt_eq {ws : List Str} (p : Plain ws) (d : Deal) : cnt ws d = wd ws d.w.tx + (d.sub.map (cnt ws)).sum := by
  cases d with
  | none => show cntD ws (.tuple (st _ :: _)) = _; rw [cntD_tup]; rfl
  | coin a => show cntD ws (.tuple (st _ :: _)) = _; rw [cntD_tup]; show _ + (cntD ws a.pd + 0) = _; rw [cnt_amt p]; rfl
  | one w d => show cntD ws (.tuple (st _ :: _)) = _; rw [cntD_tup]; rfl
  | two w d e => show cntD ws (.tuple (st _ :: _)) = _; rw [cntD_tup]; rfl
  | later f d => show cntD ws (.tuple (st _ :: _)) = _; rw [cntD_tup]; show _ + (0 + cntL ws [d.dat Shr.pd]) = _; rw [Nat.zero_add]; rfl
  | when w s d => show cntD ws (.tuple (st _ :: _)) = _; rw [cntD_tup]; show _ + (cntD ws s.pd + cntL ws [d.dat Shr.pd]) = _; rw [cnt_sgn p, Nat.zero_add]; rfl
  | scale a d => show cntD ws (.tuple (st _ :: _)) = _; rw [cntD_tup]; show _ + (cntD ws a.pd + cntL ws [d.dat Shr.pd]) = _; rw [cnt_amt p, Nat.zero_add]; rfl
  | «by» q d => show cntD ws (.tuple (st _ :: _)) = _; rw [cntD_tup]; show _ + (cntD ws q.pd + cntL ws [d.dat Shr.pd]) = _; rw [cnt_shr, Nat.zero_add]; rfl
/-! the pile -/
abbrev Wt := Deal × Nat × Nat
def nWt (x : Wt) : Option Nat := nW x.1 x.2.1 x.2.2
def okW (x : Wt) : Bool := (nWt x).isSome
def paW (x : Wt) : Nat := (nWt x).getD 0
def resG (L : List Wt) (p e a : Nat) : Bool := L.all okW && (decide (p + (L.map paW).sum ≤ 40) && (decide (a + (L.map fun x => cnt wAny x.1).sum ≤ 2) && decide (a + e + (L.map fun x => cnt wEither x.1).sum ≤ 4)))
theorem resG_start (d : Deal) : resG [(d, 1, 0)] 0 0 0 = goodP d := by
  unfold goodP resG
  cases h : nW d 1 0 with
  | none => simp [okW, nWt, h]
  | some n =>
    rw [Bool.eq_iff_iff]
    simp [okW, paW, nWt, h, cnt]
    omega
theorem resG_nil (p e a : Nat) : resG [] p e a = (decide (p ≤ 40) && (decide (a ≤ 2) && decide (a + e ≤ 4))) := by unfold resG; simp
theorem resG_none {L : List Wt} {x : Wt} {p e a : Nat} (h : nWt x = none) : resG (L ++ [x]) p e a = false := by
  unfold resG
  rw [List.all_append]
  simp [okW, h]
def inner (d : Deal) (deep sc : Nat) : List Wt := d.sub.map fun t => (t, deep + 1, scN d sc)
theorem nWt_eq (d : Deal) (deep sc : Nat) : nWt (d, deep, sc) = comb (ownN d) deep (scN d sc) ((inner d deep sc).map nWt) := by
  show nW d deep sc = _
  rw [nW_eq]
  unfold inner
  rw [List.map_map]
  rfl
theorem nWt_own {d : Deal} {deep sc : Nat} (h : ownN d = none) : nWt (d, deep, sc) = none := by rw [nWt_eq, h]; rfl
theorem nWt_deep {d : Deal} {deep sc : Nat} (h : 12 < deep) : nWt (d, deep, sc) = none := by
  rw [nWt_eq]
  cases ownN d with
  | none => rfl
  | some n => show (if 12 < deep then none else _) = none; rw [if_pos h]
theorem nWt_sc {d : Deal} {deep sc : Nat} (h : 3 < scN d sc) : nWt (d, deep, sc) = none := by
  rw [nWt_eq]
  cases ownN d with
  | none => rfl
  | some n => show (if 12 < deep then none else if 3 < scN d sc then none else _) = none; rw [if_pos h]; split <;> rfl
theorem resG_step {L : List Wt} {d : Deal} {deep sc n p e a e' a' : Nat} (ho : ownN d = some n) (hd : ¬ 12 < deep) (hs : ¬ 3 < scN d sc) (ha : a' = a + wd wAny d.w.tx) (he : a' + e' = a + e + wd wEither d.w.tx) :
    resG (L ++ [(d, deep, sc)]) p e a = resG (L ++ inner d deep sc) (p + n) e' a' := by
  have e1 : nWt (d, deep, sc) = if ((inner d deep sc).map nWt).all (·.isSome) = true then some (n + (((inner d deep sc).map nWt).map (·.getD 0)).sum) else none := by
    rw [nWt_eq, ho]
    show (if 12 < deep then none else if 3 < scN d sc then none else _) = _
    rw [if_neg hd, if_neg hs]
  have cA : cnt wAny d = wd wAny d.w.tx + ((inner d deep sc).map fun x => cnt wAny x.1).sum := by
    rw [cnt_eq plainA]; unfold inner; rw [List.map_map]; rfl
  have cE : cnt wEither d = wd wEither d.w.tx + ((inner d deep sc).map fun x => cnt wEither x.1).sum := by
    rw [cnt_eq plainE]; unfold inner; rw [List.map_map]; rfl
  have e2 : ((inner d deep sc).map nWt).all (·.isSome) = (inner d deep sc).all okW := by rw [List.all_map]; rfl
  have e3 : (((inner d deep sc).map nWt).map (·.getD 0)).sum = ((inner d deep sc).map paW).sum := by rw [List.map_map]; rfl
  rw [e2, e3] at e1
  unfold resG
  cases hall : (inner d deep sc).all okW with
  | false =>
    rw [hall, if_neg Bool.false_ne_true] at e1
    rw [List.all_append, List.all_append, hall]
    simp [okW, e1]
  | true =>
    rw [hall, if_pos rfl] at e1
    rw [List.all_append, List.all_append, hall]
    rw [Bool.eq_iff_iff]
    simp only [List.all_cons, List.all_nil, List.map_append, List.map_cons, List.map_nil, List.sum_append, List.sum_cons, List.sum_nil, okW, paW, e1, Option.isSome_some, Option.getD_some, Bool.and_true, Bool.and_eq_true, decide_eq_true_eq, cA, cE]
    constructor
    · rintro ⟨h1, h2, h3, h4⟩; exact ⟨h1, by omega, by omega, by omega⟩
    · rintro ⟨h1, h2, h3, h4⟩; exact ⟨h1, by omega, by omega, by omega⟩
theorem ownN_le {d : Deal} {n : Nat} (h : ownN d = some n) : n ≤ 22 := by
  have k : ∀ {a : Amt}, a.ok10 = true → a.parts ≤ 10 := fun {a} h => by
    unfold Amt.ok10 at h
    rw [Bool.and_eq_true] at h
    exact of_decide_eq_true h.2
  cases d <;> simp only [ownN] at h
  case none => cases h; decide
  case one => cases h; decide
  case two => cases h; decide
  case coin a => split at h <;> cases h; rename_i c; have := k c; omega
  case later => split at h <;> cases h; decide
  case when w s d =>
    split at h <;> cases h
    rename_i c
    rw [Bool.and_eq_true] at c
    have := k c.1
    have := k c.2
    omega
  case scale a d => split at h <;> cases h; rename_i c; have := k c; omega
  case «by» q d => split at h <;> cases h; decide
/-! the law's data and the program's: the same where it is a deal -/
theorem Shr.ld_pd {q : Shr} (w : q.wf) (h : q.ok = true) : q.ld = q.pd := by
  have g : q.good = true := by
    unfold Shr.ok at h
    simp only [Bool.and_eq_true] at h
    exact h.1.1
  have l := Shr.lsm w
  rw [h] at l
  unfold Shr.pd
  rw [if_pos g]
  unfold Shr.lp at l
  unfold Shr.ld
  split
  · rename_i c
    rw [if_pos c] at l
    exact absurd l (by unfold K06.lsm; rw [show decide ((1 : Int) ≤ 0) = false from rfl, Bool.false_and, Bool.and_false, Bool.and_false]; exact Bool.false_ne_true)
  · rfl
theorem nWt_parts {d : Deal} {deep sc : Nat} (h : okW (d, deep, sc) = true) : ownN d ≠ none ∧ (inner d deep sc).all okW = true := by
  unfold okW at h
  rw [nWt_eq] at h
  cases ho : ownN d with
  | none => rw [ho] at h; cases h
  | some n =>
    rw [ho] at h
    refine ⟨fun z => (by cases z), ?_⟩
    cases hall : (inner d deep sc).all okW with
    | true => rfl
    | false =>
      have e2 : ((inner d deep sc).map nWt).all (·.isSome) = (inner d deep sc).all okW := by rw [List.all_map]; rfl
      unfold comb at h
      simp only [e2, hall] at h
      split at h <;> first | cases h | (split at h <;> cases h)
theorem ld_pd : ∀ (d : Deal) {deep sc : Nat}, d.wf → okW (d, deep, sc) = true → d.ld = d.dat Shr.pd
  | .none, _, _, _, _ => rfl
  | .coin _, _, _, _, _ => rfl
  | .one w d, deep, sc, wf, h => by
    have h := (nWt_parts h).2
    have := ld_pd d wf.2 ((List.all_eq_true.mp h) _ (List.mem_cons_self))
    show PyData.tuple [st w.tx, d.ld] = .tuple [st w.tx, d.dat Shr.pd]
    rw [this]
  | .two w d e, deep, sc, wf, h => by
    have h := (nWt_parts h).2
    have h1 := ld_pd d wf.2.1 ((List.all_eq_true.mp h) _ (List.mem_cons_self))
    have h2 := ld_pd e wf.2.2 ((List.all_eq_true.mp h) _ (List.mem_cons_of_mem _ List.mem_cons_self))
    show PyData.tuple [st w.tx, d.ld, e.ld] = .tuple [st w.tx, d.dat Shr.pd, e.dat Shr.pd]
    rw [h1, h2]
  | .later f d, deep, sc, wf, h => by
    have h := (nWt_parts h).2
    have := ld_pd d wf.2 ((List.all_eq_true.mp h) _ (List.mem_cons_self))
    show PyData.tuple [st Word.later.tx, .int (numV f), d.ld] = .tuple [st Word.later.tx, .int (numV f), d.dat Shr.pd]
    rw [this]
  | .when w s d, deep, sc, wf, h => by
    have h := (nWt_parts h).2
    have := ld_pd d wf.2.2 ((List.all_eq_true.mp h) _ (List.mem_cons_self))
    show PyData.tuple [st w.tx, s.pd, d.ld] = .tuple [st w.tx, s.pd, d.dat Shr.pd]
    rw [this]
  | .scale a d, deep, sc, wf, h => by
    have h := (nWt_parts h).2
    have := ld_pd d wf.2 ((List.all_eq_true.mp h) _ (List.mem_cons_self))
    show PyData.tuple [st Word.scale.tx, a.pd, d.ld] = .tuple [st Word.scale.tx, a.pd, d.dat Shr.pd]
    rw [this]
  | .by q d, deep, sc, wf, h => by
    obtain ⟨h0, h⟩ := nWt_parts h
    have := ld_pd d wf.2 ((List.all_eq_true.mp h) _ (List.mem_cons_self))
    have hq : q.ok = true := by
      cases hq : q.ok with
      | true => rfl
      | false => exact absurd (if_neg (by rw [hq]; exact Bool.false_ne_true)) h0
    show PyData.tuple [st Word.by.tx, q.ld, d.ld] = .tuple [st Word.by.tx, q.pd, d.dat Shr.pd]
    rw [this, Shr.ld_pd wf.1 hq]
theorem good_ld {d : Deal} (wf : d.wf) (h : goodP d = true) : d.ld = d.dat Shr.pd := by
  refine ld_pd d (deep := 1) (sc := 0) wf ?_
  unfold goodP at h
  unfold okW
  show (nW d 1 0).isSome = true
  cases hn : nW d 1 0 with
  | none => rw [hn] at h; cases h
  | some n => rfl
end K06
end Sec_P9
section Sec_P10
set_option Elab.async false
set_option linter.all false
set_option maxRecDepth 100000
set_option maxHeartbeats 4000000
namespace K06
open PySem
/-! ### brackets -/
def brk (c : Nat) : Int := if c = 40 then 1 else if c = 41 then -1 else 0
def net : Tx → Int
  | [] => 0
  | c :: r => brk c + net r
def mxp : Tx → Int
  | [] => 0
  | c :: r => max 0 (brk c + mxp r)
theorem mxp_nn : ∀ t : Tx, 0 ≤ mxp t
  | [] => Int.le_refl _
  | c :: r => by show 0 ≤ max 0 _; omega
theorem net_app : ∀ a b : Tx, net (a ++ b) = net a + net b
  | [], b => by show net b = 0 + net b; omega
  | c :: a, b => by show brk c + net (a ++ b) = brk c + net a + net b; rw [net_app a b]; omega
theorem mxp_app : ∀ a b : Tx, mxp (a ++ b) = max (mxp a) (net a + mxp b)
  | [], b => by have := mxp_nn b; show mxp b = max 0 (0 + mxp b); omega
  | c :: a, b => by show max 0 (brk c + mxp (a ++ b)) = max (max 0 (brk c + mxp a)) (brk c + net a + mxp b); rw [mxp_app a b]; omega
theorem net_le : ∀ t : Tx, net t ≤ mxp t
  | [] => Int.le_refl _
  | c :: r => by have := net_le r; show brk c + net r ≤ max 0 (brk c + mxp r); omega
theorem brk_le (c : Nat) : -1 ≤ brk c ∧ brk c ≤ 1 := by unfold brk; split <;> (try split) <;> omega
theorem mxp_take (k : Nat) (t : Tx) : mxp (t.take k) ≤ mxp t := by
  have e := mxp_app (t.take k) (t.drop k)
  rw [List.take_append_drop] at e
  omega
def Flat (t : Tx) : Prop := ∀ c ∈ t, brk c = 0
theorem Flat.net : ∀ {t : Tx}, Flat t → K06.net t = 0 ∧ mxp t = 0
  | [], _ => ⟨rfl, rfl⟩
  | c :: r, h => by
    have h0 := h c List.mem_cons_self
    obtain ⟨a, b⟩ := Flat.net (t := r) fun x hx => h x (List.mem_cons_of_mem _ hx)
    exact ⟨by show brk c + K06.net r = 0; omega, by show max 0 (brk c + mxp r) = 0; omega⟩
theorem mxp_one {s : Tx} (h : s.length ≤ 1) : -1 ≤ net s ∧ net s ≤ 1 ∧ mxp s ≤ 1 := by
  match s, h with
  | [], _ => exact ⟨by decide, by decide, by decide⟩
  | [c], _ =>
    have := brk_le c
    exact ⟨by show -1 ≤ brk c + 0; omega, by show brk c + 0 ≤ 1; omega, by show max 0 (brk c + 0) ≤ 1; omega⟩
/-- a text with one sign put in, left out or exchanged -/
theorem mxp_edit {a x y b : Tx} (hx : x.length ≤ 1) (hy : y.length ≤ 1) : mxp (a ++ (x ++ b)) ≤ mxp (a ++ (y ++ b)) + 2 := by
  obtain ⟨x1, x2, x3⟩ := mxp_one hx
  obtain ⟨y1, y2, y3⟩ := mxp_one hy
  have := net_le a
  have := mxp_nn b
  have := mxp_nn y
  rw [mxp_app a (x ++ b), mxp_app a (y ++ b), mxp_app x, mxp_app y]
  omega
/-! a balanced text of a height -/
def Bal (h : Int) (t : Tx) : Prop := net t = 0 ∧ mxp t ≤ h
theorem Bal.up {h k : Int} {t : Tx} (b : Bal h t) (l : h ≤ k) : Bal k t := ⟨b.1, Int.le_trans b.2 l⟩
theorem Bal.app {h : Int} {a b : Tx} (x : Bal h a) (y : Bal h b) : Bal h (a ++ b) := by
  obtain ⟨x1, x2⟩ := x
  obtain ⟨y1, y2⟩ := y
  exact ⟨by rw [net_app]; omega, by rw [mxp_app]; omega⟩
theorem Flat.bal {h : Int} {t : Tx} (f : Flat t) (hh : 0 ≤ h) : Bal h t := ⟨f.net.1, by rw [f.net.2]; exact hh⟩
theorem Bal.br {h : Int} {t : Tx} (b : Bal h t) : Bal (h + 1) (40 :: (t ++ [41])) := by
  obtain ⟨b1, b2⟩ := b
  refine ⟨?_, ?_⟩
  · show 1 + net (t ++ [41]) = 0
    rw [net_app]
    show 1 + (net t + (-1 + 0)) = 0
    omega
  · show max 0 (1 + mxp (t ++ [41])) ≤ h + 1
    rw [mxp_app]
    have e : mxp [41] = 0 := by decide
    have := mxp_nn t
    omega
theorem Bal.nn {h : Int} {t : Tx} (b : Bal h t) : 0 ≤ h := Int.le_trans (mxp_nn t) b.2
/-! a tree's height and its text's -/
theorem word_flat (w : Word) : Flat w.tx := by unfold Flat; cases w <;> decide
theorem mk_flat (k : Mk) : Flat k.tx := by unfold Flat; cases k <;> decide
theorem dig_flat {m : Nat} {ds : Tx} (h : Canon m ds) : Flat ds := fun c hc => by
  have := h.pl c hc
  unfold brk
  rw [if_neg (by omega), if_neg (by omega)]
theorem hg2 {p w c : Tx} {x y : Tx} {hx hy : Nat} (fw : Flat w) (fc : Flat c) (X : net x = 0 ∧ (hx : Int) ≤ mxp x) (Y : net y = 0 ∧ (hy : Int) ≤ mxp y) :
    net (w ++ (tOpen ++ (x ++ (c ++ (y ++ tClose))))) = 0 ∧ ((1 + max hx hy : Nat) : Int) ≤ mxp (w ++ (tOpen ++ (x ++ (c ++ (y ++ tClose))))) := by
  obtain ⟨w1, w2⟩ := fw.net
  obtain ⟨c1, c2⟩ := fc.net
  have o1 : net tOpen = 1 := by decide
  have o2 : net tClose = -1 := by decide
  have o3 : mxp tOpen = 1 := by decide
  have o4 : mxp tClose = 0 := by decide
  rw [net_app, net_app, net_app, net_app, net_app, mxp_app, mxp_app, mxp_app, mxp_app, mxp_app]
  omega
theorem hg1 {w : Tx} {x : Tx} {hx : Nat} (fw : Flat w) (X : net x = 0 ∧ (hx : Int) ≤ mxp x) :
    net (w ++ (tOpen ++ (x ++ tClose))) = 0 ∧ ((1 + hx : Nat) : Int) ≤ mxp (w ++ (tOpen ++ (x ++ tClose))) := by
  obtain ⟨w1, w2⟩ := fw.net
  have o1 : net tOpen = 1 := by decide
  have o2 : net tClose = -1 := by decide
  have o3 : mxp tOpen = 1 := by decide
  have o4 : mxp tClose = 0 := by decide
  rw [net_app, net_app, net_app, mxp_app, mxp_app, mxp_app]
  omega
theorem comma_flat : Flat tComma := by unfold Flat; decide
theorem Amt.hg : ∀ a : Amt, a.wf → net a.txt = 0 ∧ (a.hgt : Int) ≤ mxp a.txt
  | .num ds, w => by have := (dig_flat w).net; exact ⟨this.1, by show (0 : Int) ≤ mxp ds; omega⟩
  | .price, _ => by decide
  | .time, _ => by decide
  | .most a b, w => hg2 (p := []) (word_flat .most) comma_flat (a.hg w.1) (b.hg w.2)
  | .least a b, w => hg2 (p := []) (word_flat .least) comma_flat (a.hg w.1) (b.hg w.2)
  | .pr k a b, w => hg2 (p := []) (w := []) (fun c hc => by cases hc) (mk_flat k) (a.hg w.2.1) (b.hg w.2.2)
theorem Sgn.hg {s : Sgn} (w : s.wf) : net s.txt = 0 ∧ ((max s.a.hgt s.b.hgt : Nat) : Int) ≤ mxp s.txt := by
  obtain ⟨a1, a2⟩ := s.a.hg w.2.1
  obtain ⟨b1, b2⟩ := s.b.hg w.2.2
  obtain ⟨k1, k2⟩ := (mk_flat s.k).net
  unfold Sgn.txt
  rw [net_app, net_app, mxp_app, mxp_app]
  omega
theorem Shr.hg {q : Shr} (w : q.wf) : net q.txt = 0 ∧ ((0 : Nat) : Int) ≤ mxp q.txt := by
  have f : Flat q.txt := fun c hc => by
    have := Shr.plT w c hc
    unfold brk
    rw [if_neg (by omega), if_neg (by omega)]
  obtain ⟨a, b⟩ := f.net
  exact ⟨a, by omega⟩
theorem Deal.hg : ∀ d : Deal, d.wf → net d.txt = 0 ∧ (d.hgt : Int) ≤ mxp d.txt
  | .none, _ => by decide
  | .coin a, w => hg1 (word_flat .coin) (a.hg w)
  | .one v d, w => hg1 (word_flat v) (d.hg w.2)
  | .two v d e, w => hg2 (p := []) (word_flat v) comma_flat (d.hg w.2.1) (e.hg w.2.2)
  | .later f d, w => by
    have f0 := (dig_flat w.1).net
    have := hg2 (p := []) (hx := 0) (word_flat .later) comma_flat ⟨f0.1, by omega⟩ (d.hg w.2)
    rw [Nat.zero_max] at this
    exact this
  | .when v s d, w => hg2 (p := []) (word_flat v) comma_flat (Sgn.hg w.2.1) (d.hg w.2.2)
  | .scale a d, w => hg2 (p := []) (word_flat .scale) comma_flat (a.hg w.1) (d.hg w.2)
  | .by q d, w => by
    have := hg2 (p := []) (hx := 0) (word_flat .by) comma_flat (Shr.hg w.1) (d.hg w.2)
    rw [Nat.zero_max] at this
    exact this
theorem Amt.dp : ∀ a : Amt, dpt a.pd ≤ a.hgt + 1
  | .num _ => Nat.le_refl _
  | .price => Nat.le_refl _
  | .time => Nat.le_refl _
  | .most a b => by have := a.dp; have := b.dp; show 1 + max 0 (max (dpt a.pd) (max (dpt b.pd) 0)) ≤ 1 + max a.hgt b.hgt + 1; omega
  | .least a b => by have := a.dp; have := b.dp; show 1 + max 0 (max (dpt a.pd) (max (dpt b.pd) 0)) ≤ 1 + max a.hgt b.hgt + 1; omega
  | .pr _ a b => by have := a.dp; have := b.dp; show 1 + max 0 (max (dpt a.pd) (max (dpt b.pd) 0)) ≤ 1 + max a.hgt b.hgt + 1; omega
theorem Shr.dp (q : Shr) : dpt q.pd ≤ 1 := by unfold Shr.pd; split <;> exact (by show _ ≤ 1; first | exact Nat.le_refl 1 | exact Nat.zero_le 1)
theorem Deal.dp {f : Shr → PyData} (hf : ∀ q, dpt (f q) ≤ 1) : ∀ d : Deal, dpt (d.dat f) ≤ d.hgt + 2
  | .none => by show 1 + max 0 0 ≤ 0 + 2; omega
  | .coin a => by have := a.dp; show 1 + max 0 (max (dpt a.pd) 0) ≤ 1 + a.hgt + 2; omega
  | .one _ d => by have := d.dp hf; show 1 + max 0 (max (dpt (d.dat f)) 0) ≤ 1 + d.hgt + 2; omega
  | .two _ d e => by have := d.dp hf; have := e.dp hf; show 1 + max 0 (max (dpt (d.dat f)) (max (dpt (e.dat f)) 0)) ≤ 1 + max d.hgt e.hgt + 2; omega
  | .later _ d => by have := d.dp hf; show 1 + max 0 (max 0 (max (dpt (d.dat f)) 0)) ≤ 1 + d.hgt + 2; omega
  | .when _ s d => by
    have := d.dp hf; have := s.a.dp; have := s.b.dp
    show 1 + max 0 (max (1 + max 0 (max (dpt s.a.pd) (max (dpt s.b.pd) 0))) (max (dpt (d.dat f)) 0)) ≤ 1 + max (max s.a.hgt s.b.hgt) d.hgt + 2
    omega
  | .scale a d => by have := d.dp hf; have := a.dp; show 1 + max 0 (max (dpt a.pd) (max (dpt (d.dat f)) 0)) ≤ 1 + max a.hgt d.hgt + 2; omega
  | .by q d => by have := d.dp hf; have := hf q; show 1 + max 0 (max (dpt (f q)) (max (dpt (d.dat f)) 0)) ≤ 1 + d.hgt + 2; omega
theorem Deal.low {d : Deal} {h : Int} {n : Nat} (w : d.wf) (hm : mxp d.txt ≤ h) (hn : h ≤ n) : d.hgt ≤ n := by have := (d.hg w).2; omega
end K06
end Sec_P10
section Sec_L12
set_option Elab.async false
set_option linter.all false
set_option maxRecDepth 100000
set_option maxHeartbeats 4000000
namespace K06
open PySem PySem.Spec PyProof.Rows L2
open SX (S)
/-! ### whether it is a deal, as the law reckons it -/
def wtD (x : Wt) : PyData := .tuple [x.1.ld, .int (x.2.1 : Nat), .int (x.2.2 : Nat)]
def cts (e a : Nat) : List (Key × V) := [(.inr "either", .int (e : Nat)), (.inr "any", .int (a : Nat))]
theorem eEither : ("either" : Str) = S Word.either.tx := by decide +kernel
theorem eAny : ("any" : Str) = S Word.any.tx := by decide +kernel
theorem cts_e (e a : Nat) : valV (cts e a) (.inr "either") = some (.int (e : Nat)) := valV_pos rfl
theorem cts_a (e a : Nat) : valV (cts e a) (.inr "any") = some (.int (a : Nat)) := (valV_neg (fun z => absurd (Sum.inr.inj z) (by decide))).trans (valV_pos rfl)
theorem cts_no (e a : Nat) {x : Str} (h1 : ("either" : Str) ≠ x) (h2 : ("any" : Str) ≠ x) : valV (cts e a) (.inr x) = none :=
  (valV_neg (fun z => h1 (by injection z))).trans ((valV_neg (fun z => h2 (by injection z))).trans rfl)
theorem cts_pe (e a : Nat) : putK (cts e a) (.inr "either") (.int ((e : Nat) + 1)) = cts (e + 1) a := by rfl
theorem cts_pa (e a : Nat) : putK (cts e a) (.inr "any") (.int ((a : Nat) + 1)) = cts e (a + 1) := by rfl
theorem cts_val (e a : Nat) (w : Word) : valV (cts e a) (.inr (S w.tx)) = if w = .either then some (.int (e : Nat)) else if w = .any then some (.int (a : Nat)) else none := by
  by_cases h1 : w = .either
  · subst h1; rw [if_pos rfl, ← eEither]; exact cts_e e a
  · rw [if_neg h1]
    by_cases h2 : w = .any
    · subst h2; rw [if_pos rfl, ← eAny]; exact cts_a e a
    · rw [if_neg h2]
      exact cts_no e a (fun z => h1 (Word.tx_inj _ _ (S_inj (a := w.tx) (b := Word.either.tx) (by rw [← eEither]; exact z.symm)))) (fun z => h2 (Word.tx_inj _ _ (S_inj (a := w.tx) (b := Word.any.tx) (by rw [← eAny]; exact z.symm))))
theorem Deal.lw (d : Deal) : ∃ rest, d.ld = .tuple (st d.w.tx :: rest) := by cases d <;> exact ⟨_, rfl⟩
theorem scw0 (w : Word) : inV (V.str (S w.tx)) [.str "scale", .str "by"] = (decide (w = .scale) || decide (w = .by)) := by cases w <;> decide +kernel
theorem Deal.scw {d : Deal} (wf : d.wf) : inV (V.str (S d.w.tx)) [.str "scale", .str "by"] = d.isSc := by
  rw [scw0]
  cases d with
  | one w d => rcases wf.1 with rfl | rfl <;> rfl
  | two w d e => rcases wf.1 with rfl | rfl <;> rfl
  | when w s d => rcases wf.1 with rfl | rfl <;> rfl
  | _ => rfl
theorem wdE (w : Word) : wd wEither w.tx = (if w = .either then 1 else 0) + (if w = .any then 1 else 0) := by cases w <;> decide +kernel
theorem wdA (w : Word) : wd wAny w.tx = if w = .any then 1 else 0 := by cases w <;> decide +kernel
section
variable {P : Program} {w : World} {K : PySem.W.Frag} {mg : Str → Option Value} {base : Heap} {A : Ads}
def sp_lg (n : Nat) : Sp := fun vs H Q _ => ∃ (v : V) (d : Deal), vs = [v] ∧ d.wf ∧ Tp H d.ld v ∧ d.hgt ≤ n ∧ d.txt.length ≤ 3000 ∧ ∀ H', Same H H' → Q (.bl (goodP d)) H'
/-- the going, at the while -/
def Wg (H : Hp) (d : Deal) (n : Nat) (v : V) (m : Nat) (σ : L2.St) (H' : Hp) : Prop := ∃ (l dc : Addr) (L : List Wt) (xs : List V) (p e a : Nat) (o4 o5 o6 o7 o8 o9 : Option V),
  σ = [some v, some (.ref l), some (.int (p : Nat)), some (.ref dc), o4, o5, o6, o7, o8, o9] ∧ Same H H' ∧ H l = none ∧ H dc = none ∧ H' l = some (.lst xs) ∧ H' dc = some (.dK (cts e a)) ∧ TpL H' (L.map wtD) xs ∧
  resG L p e a = goodP d ∧ (∀ x ∈ L, x.1.wf ∧ x.1.hgt ≤ n) ∧ m = (L.map fun x => x.1.sz).sum ∧ m ≤ 3000
theorem sz_len (L : List Wt) : L.length ≤ (L.map fun x => x.1.sz).sum := by
  induction L with
  | nil => exact Nat.le_refl _
  | cons x L ih => rw [List.length_cons, List.map_cons, List.sum_cons]; have := x.1.sz_pos; omega
theorem ok_law_good (T : Txt K mg A) {n : Nat} (G__law_head : Cl P w K mg base CX0 (1 + n + 1) "_law_head" (sp_lhd n)) : Cl P w K mg base CX0 (1 + n + 2) "_law_good" (sp_lg n) := by
  refine T.f__law_good.cl sc__law_good (fun vs H Q E h => ?_) (fun f cdv A' outer s H vs Q E hr h => ?_)
  · obtain ⟨v, d, rfl, _⟩ := h; rfl
  obtain ⟨v, d, rfl, wf, hd, hh, hln, q⟩ := h
  refine ⟨_, (pss_cons (ps_set (i := 1) sc__law_good.nd rfl (Or.inl rfl) (pe_lst (pa_cons (pe_tup (pa_cons (pv 0) (pa_cons pe_int (pa_cons pe_int pa_nil)))) pa_nil))) (pss_cons (ps_set (i := 2) sc__law_good.nd rfl (Or.inl rfl) pe_int) (pss_cons (ps_set (i := 3) sc__law_good.nd rfl (Or.inl rfl) (pe_disp (pps_cons pe_str pe_int (pps_cons pe_str pe_int pps_nil)) (by rfl) (by rfl) (fun z => by cases z) (by decide))) (pss_cons (ps_while PassesOwn.never (pt_cmpR (op_neL hr.units) (pv 1) (pe_lst pa_nil) (nomark _)) (pss_cons (ps_asg (pe_bm0 PySem.F.plainAttrs_list PySem.F.slot_list_pop PySem.F.type_list_pop mt_pop (pv 1)) (pg_tup rfl (pgs_cons (pg_name (i := 4) sc__law_good.nd rfl (Or.inl rfl)) (pgs_cons (pg_name (i := 5) sc__law_good.nd rfl (Or.inr rfl)) (pgs_cons (pg_name (i := 6) sc__law_good.nd rfl (Or.inr rfl)) pgs_nil))))) (pss_cons (ps_asg (pcl G__law_head hr (by omega) rfl (pa_cons (pv 4) pa_nil)) (pg_tup rfl (pgs_cons (pg_name (i := 7) sc__law_good.nd rfl (Or.inl rfl)) (pgs_cons (pg_name (i := 8) sc__law_good.nd rfl (Or.inl rfl)) pgs_nil)))) (pss_cons (ps_if (PW.pt (pw_or (pt_cmpR op_gt (pv 7) pe_int (nomark _)) (pw_or1 (pt_cmpR op_gt (pv 5) pe_int (nomark _))))) (pss_one (ps_ret pe_bl)) pss_nil) (pss_cons (ps_set (i := 2) sc__law_good.nd rfl (Or.inl rfl) (pe_op op_add (pv 2) (pv 7))) (pss_cons (ps_set (i := 6) sc__law_good.nd rfl (Or.inr rfl) (pe_op op_add (pv 6) (pe_callTy call_int1 (by rfl) T.z_int (by decide +kernel) (pa_cons (pe_cmpR op_in_seq (pe_ix ix_tup (pv 4) pe_int (fun _ _ => rfl)) (pe_tup (pa_cons pe_str (pa_cons pe_str pa_nil))) (by rfl)) pa_nil)))) (Evl.pss_cut (ps_if (pt_cmp (pc_din (room1 hr) (pe_ix ix_tup (pv 4) pe_int (fun _ _ => rfl)) (pv 3)) (by rfl)) (pss_one (ps_dput (room1 hr) (pv 3) (pe_ix ix_tup (pv 4) pe_int (fun _ _ => rfl)) (pe_op op_add (pe_dget (room1 hr) (pv 3) (pe_ix ix_tup (pv 4) pe_int (fun _ _ => rfl)) (fun _ _ => rfl)) pe_int) (by rfl))) pss_nil) (pss_cons (ps_if (pt_cmpR op_gt (pv 6) pe_int (nomark _)) (pss_one (ps_ret pe_bl)) pss_nil) (pss_one (ps_set (i := 1) sc__law_good.nd rfl (Or.inl rfl) (pe_op op_cat (pv 1) (pe_lc (own := [("_law_other", 9)]) (g := gName 9) rfl sc__law_good.nd (pi_list (pv 8)) (blkOk_by (own := [("_law_other", 9)]) (N := N__law_good) (sc := defScope s__law_good) (by decide +kernel)) (fun _ _ _ _ _ => pg_name (i := 9) sc__law_good.nd rfl (Or.inl rfl)) (fun _ _ _ _ _ => pts_nil) (fun _ _ _ _ _ => (pe_tup (pa_cons (pv 9) (pa_cons (pe_op op_add (pv 5) pe_int) (pa_cons (pv 6) pa_nil))))))))))))))))) (pss_one (ps_ret (pe_and (pe_cmpR op_le (pv 2) pe_int (nomark _)) (pe_and (pe_cmpR op_le (pe_dget (room1 hr) (pv 3) pe_str (fun _ _ => rfl)) pe_int (nomark _)) (pe_one (pe_cmpR op_le (pe_op op_add (pe_dget (room1 hr) (pv 3) pe_str (fun _ _ => rfl)) (pe_dget (room1 hr) (pv 3) pe_str (fun _ _ => rfl))) pe_int (nomark _))))))))))), ?_⟩
  refine ⟨_, rfl, (by show 3 ≤ sizeLine; decide), fun t0 nt0 => ⟨(by show 1 ≤ sizeLine; decide), fun l0 nl0 => ?_⟩⟩
  have s1 : Same H (upd H t0 (.tup [v, .int 1, .int 0])) := Same.new nt0
  have h1 : (upd H t0 (.tup [v, .int 1, .int 0])) t0 = some (.tup [v, .int 1, .int 0]) := upd_same
  generalize upd H t0 (.tup [v, .int 1, .int 0]) = H1 at s1 h1 nl0 ⊢
  have s2 : Same H1 (upd H1 l0 (.lst [.ref t0])) := Same.new nl0
  have h2 : (upd H1 l0 (.lst [.ref t0])) l0 = some (.lst [.ref t0]) := upd_same
  have nl : H l0 = none := by
    cases hz : H l0 with
    | none => rfl
    | some o => rw [s1 _ _ hz] at nl0; cases nl0
  generalize upd H1 l0 (.lst [.ref t0]) = H2 at s2 h2 ⊢
  refine fun dc nd => ?_
  refine ⟨upd_same, cts 0 0, rfl, by decide, ?_⟩
  have ndH : H dc = none := by
    cases hz : H dc with
    | none => rfl
    | some o => rw [s2 _ _ (s1 _ _ hz)] at nd; cases nd
  have s3 : Same H2 (upd (upd H2 dc (.dK [])) dc (.dK (mergeK [] (cts 0 0)))) := Evl.Ex.mut (Evl.Ex.new nd) nd
  have h3 : (upd (upd H2 dc (.dK [])) dc (.dK (mergeK [] (cts 0 0)))) dc = some (.dK (cts 0 0)) := upd_same
  generalize upd (upd H2 dc (.dK [])) dc (.dK (mergeK [] (cts 0 0))) = H3 at s3 h3 ⊢
  have s03 := s1.trans (s2.trans s3)
  refine Evl.q_while (Wg H d n v) d.sz ⟨l0, dc, [(d, 1, 0)], _, 0, 0, 0, none, none, none, none, none, none, rfl, s03, nl, ndH, s3 _ _ h2, h3, ⟨_, [], rfl, ⟨t0, _, rfl, s3 _ _ (s2 _ _ h1), _, _, rfl, hd.up (Same.tups s03), _, _, rfl, rfl, _, _, rfl, rfl, rfl⟩, rfl⟩, resG_start d, fun x hx => by rw [List.mem_singleton.mp hx]; exact ⟨wf, hh⟩, by simp, Nat.le_trans d.sz_txt hln⟩ (fun m σ H4 hw => ?_)
  obtain ⟨l, dc, L, xs, p, e, a, o4, o5, o6, o7, o8, o9, rfl, s4, nl', nd', hl4, hd4, ht4, hres, hL, hm, hm3⟩ := hw
  clear s03 s1 s2 s3 h1 h2 h3
  refine ⟨!xs.isEmpty, fun H5 e5 Q1 q1 => ⟨_, rfl, (by show 0 ≤ sizeLine; decide), fun pn nn => ⟨l, pn, xs, rfl, rfl, SqL.of ((Evl.Ex.trans e5 (Evl.Ex.new nn)) _ _ hl4), SqL.of upd_same, _, rfl, q1 _ (Evl.Ex.new nn)⟩⟩, fun hb H5 e5 => ?_, fun hb H5 e5 => ?_⟩
  · rcases (show L = [] ∨ ∃ L0 x, L = L0 ++ [x] from (List.eq_nil_or_concat L).imp id fun ⟨a, b, h⟩ => ⟨a, b, by rw [h, List.concat_eq_append]⟩) with rfl | ⟨L0, x, rfl⟩
    · cases (show xs = [] from ht4); exact Bool.noConfusion hb
    obtain ⟨d1, deep, sc⟩ := x
    rw [List.map_append] at ht4
    obtain ⟨xs0, y, rfl, ht0, hy⟩ := TpL.unsnoc (d := wtD (d1, deep, sc)) ht4
    refine ⟨_, fun _ _ h => h, ?_⟩
    have hl5 := e5 _ _ hl4
    refine ⟨_, rfl, .inl ⟨rfl, _, Evl.sq_of hl5⟩, l, _, y, rfl, rfl, hl5, by simp, ?_⟩
    rw [List.dropLast_concat]
    have hdl : dc ≠ l := fun z => by rw [z, hl4] at hd4; cases hd4
    have tu : Tups H4 (upd H5 l (.lst xs0)) := (Same.tups e5).trans (Tups.upd hl5 (fun _ z => by cases z))
    have s6 : Same H (upd H5 l (.lst xs0)) := Evl.Ex.mut (Evl.Ex.trans s4 e5) nl'
    have hl6 : (upd H5 l (.lst xs0)) l = some (.lst xs0) := upd_same
    have hd6 : (upd H5 l (.lst xs0)) dc = some (.dK (cts e a)) := by rw [upd_ne hdl]; exact e5 _ _ hd4
    generalize upd H5 l (.lst xs0) = H6 at tu s6 hl6 hd6 ⊢
    obtain ⟨wf1, hh1⟩ := hL (d1, deep, sc) (List.mem_append_right _ List.mem_cons_self)
    obtain ⟨t, us, rfl, ht, v1, r1, rfl, hv1, v2, r2, rfl, h2, v3, r3, rfl, h3, hn⟩ := hy
    cases hn; cases h2; cases h3
    have hv6 := hv1.up tu
    refine ⟨t, _, rfl, SqT.of (tu _ _ ht), rfl, _, _, rfl, _, _, rfl, _, _, rfl, rfl, ?_⟩
    refine ⟨_, rfl, v1, d1, rfl, wf1, hv6, hh1, fun H7 tp l2 zs s7 h7 h72 ht7 => ?_⟩
    refine ⟨tp, _, rfl, SqT.of h7, rfl, _, _, rfl, _, _, rfl, rfl, ?_⟩
    have hl7 := s7 _ _ hl6
    have hd7 := s7 _ _ hd6
    have s07 := s6.trans s7
    have bad : nWt (d1, deep, sc) = none → goodP d = false := fun h => by rw [← hres, resG_none h]
    have hret : goodP d = false → ∀ H', Same H7 H' → Q (.bl false) H' := fun g H' s' => by have := q H' (s07.trans s'); rw [g] at this; exact this
    dsimp only [gName]
    cases ho : ownN d1 with
    | none =>
      refine Evl.q_when (b := true) (Evl.et_is (Evl.et_or (a := true) (b := true) (et_refl fun H8 e8 Q1 q1 => ⟨_, rfl, _, _, rfl, rfl, true, rfl, q1⟩) fun h => Bool.noConfusion h) rfl) (fun _ H8 e8 => hret (bad (nWt_own ho)) H8 e8) (fun hb => Bool.noConfusion hb)
    | some n1 =>
      have n22 := ownN_le ho
      refine Evl.q_when (b := decide (12 < deep)) (Evl.et_is (Evl.et_or (a := false) (b := decide (12 < deep)) (et_refl fun H8 e8 Q1 q1 => ⟨_, rfl, _, _, rfl, rfl, false, congrArg V.bl (decide_eq_false (show ¬ (98 : Int) < (n1 : Nat) by omega)), q1⟩) fun _ => et_refl fun H8 e8 Q1 q1 => ⟨_, rfl, _, _, rfl, rfl, _, congrArg V.bl (decide_eq_decide.mpr (show (12 : Int) < (deep : Nat) ↔ 12 < deep by omega)), q1⟩) rfl) (fun hb H8 e8 => hret (bad (nWt_deep (of_decide_eq_true hb))) H8 e8) (fun hb H8 e8 => ?_)
      have hdeep := of_decide_eq_false hb
      refine ⟨_, rfl, _, rfl, _, _, rfl, rfl, ?_⟩
      obtain ⟨rest, epd⟩ := d1.lw
      have hv8 := hv6.up (Same.tups (Same.trans s7 e8))
      rw [epd] at hv8
      obtain ⟨b0, bs, rfl, hb0, y0, ys, rfl, hy0, hys⟩ := hv8
      cases hy0
      dsimp only [gName]
      refine Evl.q_asg (v := .int (scN d1 sc : Nat)) (fun H8' e8' Q1 q1 => ?_) (fun H9 e9 => ?_)
      · refine ⟨_, rfl, _, rfl, ?_⟩
        refine ⟨_, _, _, _, rfl, rfl, SqT.of (e8' _ _ hb0), (by first | exact at0 | exact at1 | exact at2 | rfl), ?_⟩
        refine ⟨(by show 2 ≤ sizeLine; decide), fun p5 np5 => ?_⟩
        refine ⟨p5, (["scale", "by"] : List Str).map V.str, rfl, .inr (Evl.st_of upd_same), rfl, all_flat _, .inr ⟨_, rfl, _, _, rfl, rfl, ?_⟩⟩
        have esc : (sc : Int) + (if (if false = true then !inV (.str (S d1.w.tx)) ((["scale", "by"] : List Str).map V.str) else inV (.str (S d1.w.tx)) ((["scale", "by"] : List Str).map V.str)) = true then (1 : Int) else 0) = ((scN d1 sc : Nat) : Int) := by
          rw [if_neg Bool.false_ne_true]
          show (sc : Int) + (if inV (V.str (S d1.w.tx)) [.str "scale", .str "by"] = true then (1 : Int) else 0) = _
          rw [Deal.scw wf1]
          unfold scN
          cases d1.isSc <;> simp
        have q1 := q1 _ (Evl.Ex.new np5 (o := .tup [.str "scale", .str "by"]))
        rw [← esc] at q1
        exact q1
      have s79 : Same H7 H9 := Same.trans e8 e9
      have hb9 := e9 _ _ hb0
      have hl9 := s79 _ _ hl7
      have hd9 := s79 _ _ hd7
      have h29 := s79 _ _ h72
      have s09 := s07.trans s79
      refine Evl.q_cut (M := fun σ' H' => σ' = [some v, some (.ref l), some (.int ((p : Int) + (n1 : Nat))), some (.ref dc), some (.ref b0), some (.int (deep : Nat)), some (.int (scN d1 sc : Nat)), some (.int (n1 : Nat)), some (.ref l2), o9] ∧ Same H H' ∧ Tups H9 H' ∧ H' l = some (.lst xs0) ∧ H' l2 = some (.lst zs) ∧ ∃ e' a', H' dc = some (.dK (cts e' a')) ∧ a' = a + wd wAny d1.w.tx ∧ a' + e' = a + e + wd wEither d1.w.tx) ?_ fun σ' H' hM => ?_
      · have vA := wdA d1.w
        have vE := wdE d1.w
        have cv := cts_val e a d1.w
        have dn : H dc = none := nd'
        refine Evl.s_when (b := (valV (cts e a) (.inr (S d1.w.tx))).isSome) (et_refl fun H10 e10 Q1 q1 => ?_) (fun hb H10 e10 => ?_) (fun hb H10 e10 => ?_)
        · refine ⟨_, rfl, ?_⟩
          refine ⟨_, _, _, _, rfl, rfl, SqT.of (e10 _ _ hb9), (by first | exact at0 | exact at1 | exact at2 | rfl), ?_⟩
          exact ⟨_, rfl, dc, _, rfl, DGet.k (k := .inr (S d1.w.tx)) (e10 _ _ hd9), _, rfl, q1⟩
        · have hd10 := e10 _ _ hd9
          have hb10 := e10 _ _ hb9
          have put : ∀ {e1 a1 : Nat} (x : Nat), valV (cts e a) (.inr (S d1.w.tx)) = some (.int (x : Nat)) → putK (cts e a) (.inr (S d1.w.tx)) (.int ((x : Nat) + 1)) = cts e1 a1 → a1 = a + wd wAny d1.w.tx → a1 + e1 = a + e + wd wEither d1.w.tx → _ := fun {e1 a1} x hx hp h1 h2 => (⟨_, rfl, _, rfl, _, _, _, _, rfl, rfl, SqT.of hb10, at0, dc, _, rfl, (by have := DGet.k (k := .inr (S d1.w.tx)) hd10; rw [hx] at this; exact this), _, _, rfl, rfl, _, rfl, _, rfl, _, _, _, _, rfl, rfl, SqT.of hb10, at0, dc, _, rfl, DPut.k (k := .inr (S d1.w.tx)) hd10 (by show 2 < sizeLine; decide), rfl, Evl.Ex.mut (Evl.Ex.trans s09 e10) dn, (Same.tups e10).trans (Tups.upd hd10 fun _ z => by cases z), (by rw [upd_ne (Ne.symm hdl)]; exact e10 _ _ hl9), (by rw [upd_ne (fun z => by rw [z, hd9] at h29; cases h29)]; exact e10 _ _ h29), e1, a1, (by rw [upd_same, hp]), h1, h2⟩ : (sDPut (tVar 3) (tOp (rIxT K) (tVar 4) (tC (V.int 0))) (tOp (rI0 fun i j => V.int (i + j)) (tDGet (tVar 3) (tOp (rIxT K) (tVar 4) (tC (V.int 0)))) (tC (V.int 1)))) { nx := fun σ' H' => σ' = [some v, some (.ref l), some (.int ((p : Int) + (n1 : Nat))), some (.ref dc), some (.ref b0), some (.int (deep : Nat)), some (.int (scN d1 sc : Nat)), some (.int (n1 : Nat)), some (.ref l2), o9] ∧ Same H H' ∧ Tups H9 H' ∧ H' l = some (.lst xs0) ∧ H' l2 = some (.lst zs) ∧ ∃ e' a', H' dc = some (.dK (cts e' a')) ∧ a' = a + wd wAny d1.w.tx ∧ a' + e' = a + e + wd wEither d1.w.tx, rt := Q } [some v, some (.ref l), some (.int ((p : Int) + (n1 : Nat))), some (.ref dc), some (.ref b0), some (.int (deep : Nat)), some (.int (scN d1 sc : Nat)), some (.int (n1 : Nat)), some (.ref l2), o9] H10)
          by_cases h1 : d1.w = .either
          · rw [if_pos h1] at cv
            rw [h1] at vA vE
            exact put e cv (by rw [h1, ← eEither]; exact cts_pe e a) (by rw [h1, vA]; rfl) (by rw [h1, vE]; rfl)
          · rw [if_neg h1] at cv
            by_cases h2 : d1.w = .any
            · rw [if_pos h2] at cv
              rw [h2] at vA vE
              exact put a cv (by rw [h2, ← eAny]; exact cts_pa e a) (by rw [h2, vA]; rfl) (by rw [h2, vE]; show a + 1 + e = a + e + 1; omega)
            · rw [if_neg h2] at cv
              rw [cv] at hb
              exact Bool.noConfusion hb
        · have h1 : d1.w ≠ .either := fun h1 => by rw [if_pos h1] at cv; rw [cv] at hb; exact Bool.noConfusion hb
          have h2 : d1.w ≠ .any := fun h2 => by rw [if_neg h1, if_pos h2] at cv; rw [cv] at hb; exact Bool.noConfusion hb
          rw [if_neg h1, if_neg h2] at vE
          rw [if_neg h2] at vA
          exact ⟨rfl, Evl.Ex.trans s09 e10, Same.tups e10, e10 _ _ hl9, e10 _ _ h29, e, a, e10 _ _ hd9, by rw [vA]; rfl, by rw [vE]; rfl⟩
      · obtain ⟨rfl, s10, t10, hl10, h210, e', a', hd10, ha', he'⟩ := hM
        refine Evl.q_when (b := decide (3 < scN d1 sc)) (et_refl fun H11 e11 Q1 q1 => ⟨_, rfl, _, _, rfl, rfl, _, congrArg V.bl (decide_eq_decide.mpr (show (3 : Int) < (scN d1 sc : Nat) ↔ 3 < scN d1 sc by omega)), q1⟩) (fun hb H11 e11 => ?_) (fun hb H11 e11 => ?_)
        · have q11 := q H11 (Evl.Ex.trans s10 e11)
          rw [bad (nWt_sc (of_decide_eq_true hb))] at q11
          exact q11
        have hsc := of_decide_eq_false hb
        have s11 : Same H _ := Evl.Ex.trans s10 e11
        have hl11 := e11 _ _ hl10
        have h211 := e11 _ _ h210
        have hd11 := e11 _ _ hd10
        have tt : Tups H7 H11 := (Same.tups s79).trans (t10.trans (Same.tups e11))
        have tt4 : Tups H4 H11 := tu.trans ((Same.tups s7).trans tt)
        have ht11 := (ht7 (by rw [ho]; exact fun z => by cases z)).up tt
        have zl : zs.length = d1.sub.length := by rw [ht11.length, List.length_map]
        have sl := d1.sub_le
        refine ⟨_, rfl, _, rfl, l2, rfl, ⟨_, Evl.sq_of h211⟩, fun D hD => ?_⟩
        refine lc_data ((inner d1 deep sc).map wtD) (walk_list (K := K) (a := l2)) (fun H' s' => Evl.sq_of (s' _ _ h211)) hD (by omega) (by unfold inner; rw [List.length_map, List.length_map, zl]) (fun i x dd H12 hi hdi s12 Q7 q7 => ?_) (fun H12 acc s12 h12 t12 => ?_)
        · obtain ⟨dx, hdx, htx⟩ := ht11.get hi
          unfold inner at hdi
          rw [List.getElem?_map, List.getElem?_map] at hdi
          rw [List.getElem?_map] at hdx
          cases hsi : d1.sub[i]? with
          | none => rw [hsi] at hdi; cases hdi
          | some t1 =>
            rw [hsi] at hdi hdx
            cases hdi; cases hdx
            refine ⟨rfl, _, rfl, _, rfl, _, _, rfl, rfl, _, rfl, (by show 3 ≤ sizeLine; decide), fun p6 np6 => ?_⟩
            refine q7 _ _ (Same.new np6) ⟨p6, _, rfl, upd_same, _, _, rfl, htx.up (Same.tups (s12.trans (Same.new np6))), _, _, rfl, ?_, _, _, rfl, rfl, rfl⟩
            show V.int ((deep : Int) + 1) = V.int ((deep + 1 : Nat) : Int)
            congr 1
        · refine ⟨l, D, xs0, acc, rfl, rfl, s12 _ _ hl11, h12, ?_, fun p7 np7 => ?_⟩
          · have a1 := t12.length
            have a2 := ht0.length
            have a3 := sz_len L0
            unfold inner at a1
            rw [List.length_map, List.length_map] at a1
            rw [List.length_map] at a2
            rw [List.map_append, List.sum_append] at hm
            exact small _ (by omega)
          · have s712 : Same H12 (upd H12 p7 (.lst (xs0 ++ acc))) := Same.new np7
            have np : H p7 = none := by
              cases hz : H p7 with
              | none => rfl
              | some o => rw [s12 _ _ (s11 _ _ hz)] at np7; cases np7
            have hms : (L0.map fun x => x.1.sz).sum + d1.sz = m := by rw [hm, List.map_append, List.sum_append]; simp
            have hsz := d1.sz_sub
            have hin : ((inner d1 deep sc).map fun x => x.1.sz).sum = (d1.sub.map Deal.sz).sum := by unfold inner; rw [List.map_map]; rfl
            refine ⟨((L0 ++ inner d1 deep sc).map fun x => x.1.sz).sum, ?_, p7, dc, L0 ++ inner d1 deep sc, xs0 ++ acc, p + n1, e', a', _, _, _, _, _, _, rfl, s11.trans (s12.trans s712), np, nd', upd_same, s712 _ _ (s12 _ _ hd11), ?_, ?_, fun x hx => ?_, rfl, ?_⟩
            · rw [List.map_append, List.sum_append]; omega
            · rw [List.map_append]
              exact (ht0.up (tt4.trans (Same.tups (s12.trans s712)))).app (t12.up (Same.tups s712))
            · rw [← hres, resG_step ho hdeep hsc ha' he']
            · rcases List.mem_append.mp hx with hx | hx
              · exact hL x (List.mem_append_left _ hx)
              · unfold inner at hx
                obtain ⟨t1, ht1, rfl⟩ := List.mem_map.mp hx
                have g1 := Deal.sub_hgt t1 ht1
                have hh1 : d1.hgt ≤ n := hh1
                exact ⟨Deal.sub_wf wf1 t1 ht1, by show t1.hgt ≤ n; omega⟩
            · rw [List.map_append, List.sum_append]; omega
  · have hx : xs = [] := by cases xs with | nil => rfl | cons _ _ => exact Bool.noConfusion hb
    subst hx
    have hL0 : L = [] := by cases L with | nil => rfl | cons x L => obtain ⟨_, _, h, _⟩ := ht4; cases h
    subst hL0
    rw [resG_nil] at hres
    have hd5 := e5 _ _ hd4
    have q5 := q H5 (Evl.Ex.trans s4 e5)
    rw [← hres] at q5
    have geE : ∀ {H6 : Hp}, Same H5 H6 → DGet H6 dc (.str "either") (some (.int (e : Nat))) := fun s6 => by
      have := DGet.k (k := .inr "either") (s6 _ _ hd5)
      rw [cts_e] at this
      exact this
    have geA : ∀ {H6 : Hp}, Same H5 H6 → DGet H6 dc (.str "any") (some (.int (a : Nat))) := fun s6 => by
      have := DGet.k (k := .inr "any") (s6 _ _ hd5)
      rw [cts_a] at this
      exact this
    refine Evl.s_ret (v := .bl (decide (p ≤ 40) && (decide (a ≤ 2) && decide (a + e ≤ 4)))) (Evl.ev_andV (a := decide (p ≤ 40)) (ev_refl fun H6 e6 Q1 q1 => ?_) fun _ => Evl.ev_andV (a := decide (a ≤ 2)) (ev_refl fun H6 e6 Q1 q1 => ?_) fun _ => ev_refl fun H6 e6 Q1 q1 => ?_) (fun H6 e6 => ?_)
    · refine ⟨_, rfl, _, _, rfl, rfl, ?_⟩
      rw [show decide (p ≤ 40) = decide ((p : Int) ≤ 40) from decide_eq_decide.mpr (by omega)] at q1
      exact q1
    · refine ⟨_, rfl, dc, _, rfl, geA e6, _, _, rfl, rfl, ?_⟩
      rw [show decide (a ≤ 2) = decide ((a : Int) ≤ 2) from decide_eq_decide.mpr (by omega)] at q1
      exact q1
    · refine ⟨_, rfl, dc, _, rfl, geA e6, _, rfl, dc, _, rfl, geE e6, _, _, rfl, rfl, _, _, rfl, rfl, ?_⟩
      rw [show decide (a + e ≤ 4) = decide ((a : Int) + e ≤ 4) from decide_eq_decide.mpr (by omega)] at q1
      exact q1
    · have q6 := q H6 (Evl.Ex.trans s4 (Evl.Ex.trans e5 e6))
      rw [← hres] at q6
      exact q6
end
end K06
end Sec_L12
section Sec_G1
set_option Elab.async false
set_option linter.all false
set_option maxRecDepth 100000
set_option maxHeartbeats 4000000
namespace K06
open PySem PySem.Spec PyProof.Rows L2
open SX (S)
/-! ### the drawing: cells -/
/-- what stands elsewhere stays -/
def Bt (sp : Addr) (H H' : Hp) : Prop := ∀ a o, a ≠ sp → H a = some o → H' a = some o
theorem Bt.trans {sp : Addr} {H H1 H2 : Hp} (a : Bt sp H H1) (b : Bt sp H1 H2) : Bt sp H H2 := fun c o n h => b c o n (a c o n h)
theorem Same.bt {sp : Addr} {H H' : Hp} (s : Same H H') : Bt sp H H' := fun c o _ h => s c o h
theorem Bt.upd {sp : Addr} {H : Hp} {o : HO} : Bt sp H (upd H sp o) := fun c o n h => by rw [upd_ne n]; exact h
theorem Bt.tups {sp : Addr} {H H' : Hp} {xs : List V} (b : Bt sp H H') (h : H sp = some (.lst xs)) : Tups H H' := fun a ys e => b a _ (fun z => by rw [z, h] at e; cases e) e
def bitsOk (ns : List Int) : Prop := ns.length ≤ 63 ∧ ∀ z ∈ ns, Builtin.Int.intBits z ≤ 1048576
structure Gen (K : PySem.W.Frag) (c sp : Addr) (ns : List Int) (k : Nat) (H : Hp) : Prop where
  ok : bitsOk ns
  ne : c ≠ sp ∨ ∀ H', SqL K H' c (ns.map V.int)
  hc : SqL K H c (ns.map V.int)
  hk : H sp = some (.lst [.int (k : Nat)])
theorem SqL.bt {K : PySem.W.Frag} {sp a : Addr} {H H' : Hp} {xs : List V} (b : Bt sp H H') (n : a ≠ sp ∨ ∀ H', SqL K H' a xs) (h : SqL K H a xs) : SqL K H' a xs := by
  rcases n with n | n
  case inr => exact n H'
  rcases h with (h | ⟨o, h⟩) | h
  · exact .inl (.inl (b a _ n h))
  · exact .inl (.inr ⟨o, b a _ n h⟩)
  · exact .inr h
theorem Gen.next {K : PySem.W.Frag} {c sp : Addr} {ns : List Int} {k k' : Nat} {H H' : Hp} (g : Gen K c sp ns k H) (b : Bt sp H H') (h : H' sp = some (.lst [.int (k' : Nat)])) : Gen K c sp ns k' H' := ⟨g.ok, g.ne, SqL.bt b g.ne g.hc, h⟩
theorem SqL.apart {K : PySem.W.Frag} {p a : Addr} {H : Hp} {xs : List V} (h : SqL K H a xs) (hp : H p = none) : a ≠ p ∨ ∀ H', SqL K H' a xs := by
  rcases h with (h | ⟨o, h⟩) | h
  · exact .inl fun z => by rw [z, hp] at h; cases h
  · exact .inl fun z => by rw [z, hp] at h; cases h
  · exact .inr fun H' => .inr h
theorem natAbs_lt_bits (z : Int) : z.natAbs < 2 ^ Builtin.Int.intBits z := by
  unfold Builtin.Int.intBits
  split
  · rename_i h
    have : z = 0 := by simpa using h
    subst this
    decide
  · exact Nat.lt_log2_self
theorem bits_add {x y : Int} {n : Nat} (hx : x.natAbs < 2 ^ n) (hy : y.natAbs < 2 ^ n) : (x + y).natAbs < 2 ^ (n + 1) := by
  rw [Nat.pow_succ]; omega
theorem cell_mul {b : Nat} {z f : Int} (hz : Builtin.Int.intBits z ≤ b) (hf : f.natAbs < 2 ^ 31) (hb : b + 100 ≤ 134217728) : CMulX z f := by
  refine mulx_ok (a := Builtin.Int.intBits z) (b := 31) (natAbs_lt_bits z) hf ?_
  omega
theorem cell_base {b : Nat} {z y f : Int} (hz : Builtin.Int.intBits z ≤ b) (hf : f.natAbs < 2 ^ 31) (hy : y.natAbs < 2 ^ 70) (hb : b + 100 ≤ 134217728) : CMulX (y + z * f) 48271 := by
  have h1 : z.natAbs < 2 ^ (b + 39) := Nat.lt_of_lt_of_le (natAbs_lt_bits z) (Nat.pow_le_pow_right (by decide) (by omega))
  have h2 : (z * f).natAbs < 2 ^ (b + 39 + 31) := wide_lt h1 hf
  have h3 : y.natAbs < 2 ^ (b + 39 + 31) := Nat.lt_of_lt_of_le hy (Nat.pow_le_pow_right (by decide) (by omega))
  exact mulx_ok (b := 16) (bits_add h3 h2) (by decide) (by omega)
theorem cell_base0 {y : Int} (hy : y.natAbs < 2 ^ 70) : CMulX y 48271 := mulx_ok (b := 16) hy (by decide) (by omega)
theorem cell_y {k : Nat} (hk : k ≤ 1000000000) : (31 * (k : Int) * k + 7919 * k).natAbs < 2 ^ 70 := by
  have h1 : (31 * (k : Int)).natAbs < 2 ^ 35 := wide_lt (a := 5) (b := 30) (by decide) (by omega)
  have h2 : (31 * (k : Int) * k).natAbs < 2 ^ (35 + 30) := wide_lt h1 (by omega)
  have h3 : (7919 * (k : Int)).natAbs < 2 ^ (35 + 30) := Nat.lt_of_lt_of_le (wide_lt (a := 13) (b := 30) (by decide) (by omega)) (by decide)
  exact Nat.lt_of_lt_of_le (bits_add h2 h3) (by decide)
section
variable {P : Program} {w : World} {K : PySem.W.Frag} {mg : Str → Option Value} {base : Heap} {A : Ads}
def sp_cell (K : PySem.W.Frag) : Sp := fun vs H Q _ => ∃ (c sp : Addr) (ns : List Int) (k : Nat), vs = [.ref c, .ref sp] ∧ Gen K c sp ns k H ∧ k < 1000000000 ∧ ∀ (m : Nat) (H' : Hp), m ≤ 306783378 → Bt sp H H' → H' sp = some (.lst [.int (k + 1 : Nat)]) → Q (.int (m : Nat)) H'
theorem ok_law_cell (T : Txt K mg A) : Cl P w K mg base CX0 1 "_law_cell" (sp_cell K) := by
  refine T.f__law_cell.cl sc__law_cell (fun vs H Q E h => ?_) (fun f cdv A' outer s H vs Q E hr h => ?_)
  · obtain ⟨c, sp, ns, k, rfl, _⟩ := h; rfl
  obtain ⟨c, sp, ns, k, rfl, g, hk, q⟩ := h
  refine ⟨_, (pss_cons (ps_asg (pe_op op_add (pe_ix ix_list (pv 1) pe_int (fun _ _ => rfl)) pe_int) (pg_sub (pv 1) pe_int set_list)) (pss_cons (ps_set (i := 2) sc__law_cell.nd rfl (Or.inl rfl) (pe_ix ix_list (pv 1) pe_int (fun _ _ => rfl))) (pss_cons (ps_set (i := 3) sc__law_cell.nd rfl (Or.inl rfl) (pe_op op_add (pe_op op_mulX (pe_op op_mulX pe_int (pv 2)) (pv 2)) (pe_op op_mulX pe_int (pv 2)))) (pss_cons (ps_if (pt_cmpR op_gt (pe_callB call_len_seq (by rfl) T.z_len (by decide +kernel) (pa_cons (pv 0) pa_nil)) pe_int (nomark _)) (pss_one (ps_set (i := 3) sc__law_cell.nd rfl (Or.inl rfl) (pe_op op_add (pv 3) (pe_op op_mulX (pe_ix ix_list (pv 0) (pe_op op_mod (pv 2) (pe_callB call_len_seq (by rfl) T.z_len (by decide +kernel) (pa_cons (pv 0) pa_nil))) (fun _ _ => rfl)) (pe_op op_add pe_int (pe_op op_fdiv (pv 2) (pe_callB call_len_seq (by rfl) T.z_len (by decide +kernel) (pa_cons (pv 0) pa_nil)))))))) pss_nil) (pss_one (ps_ret (pe_op op_fdiv (pe_op op_mod (pe_op op_mulX (pv 3) pe_int) pe_int) pe_int))))))), ?_⟩
  have hk0 := g.hk
  have ek : (V.int ((k : Int) + 1)) = V.int ((k + 1 : Nat) : Int) := by congr 1
  refine Evl.q_setL (j := 0) (v := .int (k + 1 : Nat)) hk0 (ev_refl fun H1 e1 Q1 q1 => ?_) (Evl.ev_var rfl) Evl.ev_c (by show 0 < 1; omega) (fun H1 e1 => ?_)
  · refine ⟨_, rfl, ?_⟩
    refine ⟨_, _, _, _, rfl, rfl, SqL.of (e1 _ _ hk0), rfl, _, _, rfl, rfl, ?_⟩
    rw [← ek] at q1
    exact q1
  have b1 : Bt sp H (upd H1 sp (.lst (List.set [.int (k : Nat)] 0 (.int (k + 1 : Nat))))) := (Same.bt e1).trans Bt.upd
  have h1 : (upd H1 sp (.lst (List.set [.int (k : Nat)] 0 (.int (k + 1 : Nat))))) sp = some (.lst [.int (k + 1 : Nat)]) := upd_same
  generalize upd H1 sp (.lst (List.set [.int (k : Nat)] 0 (.int (k + 1 : Nat)))) = H2 at b1 h1 ⊢
  have g2 := g.next b1 h1
  have kl : k + 1 ≤ 1000000000 := by omega
  generalize k + 1 = kk at g2 h1 kl q ⊢
  refine Evl.q_asg (v := .int (kk : Nat)) (ev_refl fun H3 e3 Q1 q1 => ?_) (fun H3 e3 => ?_)
  · refine ⟨_, rfl, ?_⟩
    exact ⟨_, _, _, _, rfl, rfl, SqL.of (e3 _ _ h1), rfl, q1⟩
  have y70 := cell_y kl
  refine Evl.q_asg (v := .int (31 * (kk : Int) * kk + 7919 * kk)) (ev_refl fun H4 e4 Q1 q1 => ?_) (fun H4 e4 => ?_)
  · refine ⟨_, rfl, _, _, rfl, rfl, mulx_ok (a := 5) (b := 30) (by decide) (by omega) (by decide), _, rfl, _, _, rfl, rfl, mulx_ok (a := 35) (b := 30) (wide_lt (a := 5) (b := 30) (by decide) (by omega)) (by omega) (by decide), _, rfl, _, _, rfl, rfl, mulx_ok (a := 13) (b := 30) (by decide) (by omega) (by decide), _, _, rfl, rfl, q1⟩
  generalize 31 * (kk : Int) * kk + 7919 * kk = y at y70 ⊢
  have gc : ∀ {H5 : Hp}, Same H2 H5 → SqL K H5 c (ns.map V.int) := fun s5 => Evl.ex_l s5 g2.hc
  have hl0 : (ns.map V.int).length = ns.length := List.length_map _
  -- what is returned
  have fin : ∀ {H5 : Hp} {x : Int}, Same H2 H5 → CMulX x 48271 → Q (.int (x * 48271 % 2147483647 / 7)) H5 := fun {H5 x} s5 hx => by
    have p1 := Int.emod_nonneg (x * 48271) (show (2147483647 : Int) ≠ 0 by decide)
    have p2 := Int.emod_lt_of_pos (x * 48271) (show (0 : Int) < 2147483647 by decide)
    have e : x * 48271 % 2147483647 / 7 = ((x * 48271 % 2147483647 / 7).toNat : Int) := by omega
    rw [e]
    exact q _ H5 (by omega) (b1.trans (Same.bt s5)) (s5 _ _ h1)
  obtain ⟨o63, obits⟩ := g2.ok
  by_cases hz : ns.length = 0
  · refine Evl.q_when (b := false) (et_refl fun H5 e5 Q1 q1 => ?_) (fun hb => Bool.noConfusion hb) (fun _ H5 e5 => ?_)
    · refine ⟨_, rfl, _, _, rfl, .inl (gc (Same.trans e3 (Same.trans e4 e5))), _, _, rfl, rfl, false, congrArg V.bl (decide_eq_false (by omega)), q1⟩
    · exact ⟨_, rfl, _, _, rfl, rfl, cell_base0 y70, _, _, rfl, rfl, (by show (0 : Int) < 2147483647; decide), _, _, rfl, rfl, ⟨by decide, by decide⟩, fin (Same.trans e3 (Same.trans e4 e5)) (cell_base0 y70)⟩
  · have jl : kk % ns.length < ns.length := Nat.mod_lt _ (by omega)
    have hat : atI (ns.map V.int) ((kk : Int) % ((ns.map V.int).length : Nat)) = some (.int ns[kk % ns.length]) := by
      rw [hl0, ← Int.natCast_emod]
      refine L2.atI_nat ?_
      rw [List.getElem?_map, List.getElem?_eq_getElem jl]; rfl
    have zb := obits _ (List.getElem_mem jl)
    have fb : (1 + (kk : Int) / ((ns.map V.int).length : Nat)).natAbs < 2 ^ 31 := by
      have := Int.ediv_le_self (b := (((ns.map V.int).length : Nat) : Int)) (show (0 : Int) ≤ kk by omega)
      have := Int.ediv_nonneg (show (0 : Int) ≤ kk by omega) (show (0 : Int) ≤ ((ns.map V.int).length : Nat) by omega)
      omega
    refine Evl.q_when (b := true) (et_refl fun H5 e5 Q1 q1 => ?_) (fun _ H5 e5 => ?_) (fun hb => Bool.noConfusion hb)
    · refine ⟨_, rfl, _, _, rfl, .inl (gc (Same.trans e3 (Same.trans e4 e5))), _, _, rfl, rfl, true, congrArg V.bl (decide_eq_true (by omega)), q1⟩
    · have s5 := Same.trans e3 (Same.trans e4 e5)
      refine ⟨_, rfl, _, rfl, _, rfl, _, rfl, _, _, rfl, .inl (gc s5), _, _, rfl, rfl, (by omega), ?_⟩
      refine ⟨_, _, _, _, rfl, rfl, gc s5, hat, ?_⟩
      refine ⟨_, rfl, _, rfl, _, _, rfl, .inl (gc s5), _, _, rfl, rfl, ⟨(by omega), (by omega)⟩, _, _, rfl, rfl, _, _, rfl, rfl, cell_mul zb fb (by decide), _, _, rfl, rfl, ?_⟩
      have cb := cell_base zb fb y70 (by decide)
      exact ⟨_, rfl, _, _, rfl, rfl, cb, _, _, rfl, rfl, (by show (0 : Int) < 2147483647; decide), _, _, rfl, rfl, ⟨by decide, by decide⟩, fin s5 cb⟩
end
end K06
end Sec_G1
section Sec_G2
set_option Elab.async false
set_option linter.all false
set_option maxRecDepth 100000
set_option maxHeartbeats 4000000
namespace K06
open PySem PySem.Spec PyProof.Rows L2
open SX (S)
/-! ### the drawing: amounts -/
inductive GA where
  | num (n : Int) | leaf (x : Tx) | bin (x : Tx) (a b : GA)
def GA.pd : GA → PyData
  | .num n => .tuple [st tNumber, .int n]
  | .leaf x => .tuple [st x]
  | .bin x a b => .tuple [st x, a.pd, b.pd]
def opsL : List Tx := [Mk.plus.nm, Mk.minus.nm, Mk.times.nm, Word.most.tx, Word.least.tx]
def GA.ok : GA → Prop
  | .num n => 0 ≤ n ∧ n ≤ 1000000000
  | .leaf x => x = Word.price.tx ∨ x = Word.time.tx
  | .bin x a b => x ∈ opsL ∧ a.ok ∧ b.ok
def GA.sz : GA → Nat
  | .num _ => 1
  | .leaf _ => 1
  | .bin _ a b => 1 + a.sz + b.sz
def GA.hgt : GA → Nat
  | .num _ => 0
  | .leaf _ => 0
  | .bin _ a b => 1 + max a.hgt b.hgt
theorem GA.hgt_lt : ∀ a : GA, a.hgt < a.sz
  | .num _ => Nat.zero_lt_one
  | .leaf _ => Nat.zero_lt_one
  | .bin _ a b => by have := a.hgt_lt; have := b.hgt_lt; show 1 + max a.hgt b.hgt < 1 + a.sz + b.sz; omega
/-- the drawn: a going of some cells -/
structure Drawn (K : PySem.W.Frag) (c sp : Addr) (ns : List Int) (k m : Nat) (H H' : Hp) : Prop where
  bt : Bt sp H H'
  up : ∃ k', Gen K c sp ns k' H' ∧ k ≤ k' ∧ k' ≤ k + m
theorem pick {α : Type} {xs : List α} {i : Int} (h0 : 0 ≤ i) (h1 : i < (xs.length : Nat)) : ∃ v, v ∈ xs ∧ atI xs i = some v := by
  have hj : i.toNat < xs.length := by omega
  obtain ⟨j, rfl⟩ := Int.eq_ofNat_of_zero_le h0
  exact ⟨xs[j], List.getElem_mem (by omega), L2.atI_nat (List.getElem?_eq_getElem (by omega))⟩
theorem pickm {α : Type} {xs : List α} (x : Int) (n : Nat) (hl : xs.length = n) (hn : 0 < n) : ∃ v, v ∈ xs ∧ atI xs (x % (n : Nat)) = some v :=
  pick (Int.emod_nonneg _ (by omega)) (by rw [hl]; exact Int.emod_lt_of_pos _ (by omega))
theorem p9 : (10 : Int) ^ (9 : Int).toNat = 1000000000 := by decide +kernel
section
variable {P : Program} {w : World} {K : PySem.W.Frag} {mg : Str → Option Value} {base : Heap} {A : Ads}
/-- an amount of at most n parts -/
def sp_lam (K : PySem.W.Frag) (n : Nat) : Sp := fun vs H Q _ => ∃ (c sp : Addr) (ns : List Int) (k m : Nat), vs = [.ref c, .ref sp, .int (m : Nat)] ∧ 1 ≤ m ∧ m ≤ n ∧ Gen K c sp ns k H ∧ k + m < 1000000000 ∧
  ∀ (H' : Hp) (v : V) (a : GA), Drawn K c sp ns k m H H' → Tp H' a.pd v → a.ok → a.sz ≤ m → Q v H'
theorem lam_step (T : Txt K mg A) {n : Nat} (G__law_cell : Cl P w K mg base CX0 1 "_law_cell" (sp_cell K)) (G__law_amount : Cl P w K mg base CX0 (1 + n) "_law_amount" (sp_lam K n)) : Cl P w K mg base CX0 (1 + n + 1) "_law_amount" (sp_lam K (n + 1)) := by
  refine T.f__law_amount.cl sc__law_amount (fun vs H Q E h => ?_) (fun f cdv A' outer s H vs Q E hr h => ?_)
  · obtain ⟨c, sp, ns, k, m, rfl, _⟩ := h; rfl
  obtain ⟨c, sp, ns, k, m, rfl, m1, mn, g, hk, q⟩ := h
  refine ⟨_, (pss_cons (ps_set (i := 3) sc__law_amount.nd rfl (Or.inl rfl) (pcl G__law_cell hr (by omega) rfl (pa_cons (pv 0) (pa_cons (pv 1) pa_nil)))) (pss_cons (ps_if (PW.pt (pw_or (pt_cmpR op_lt (pv 2) pe_int (nomark _)) (pw_or1 (pt_cmpR op_lt (pe_op op_mod (pv 3) pe_int) pe_int (nomark _))))) (pss_cons (ps_set (i := 4) sc__law_amount.nd rfl (Or.inl rfl) (pe_ix ix_list (pe_lst (pa_cons (pe_op op_mod (pe_op op_fdiv (pv 3) pe_int) pe_int) (pa_cons (pe_op op_mod (pe_op op_fdiv (pv 3) pe_int) pe_int) (pa_cons (pe_op op_mod (pe_op op_mulX (pv 3) pe_int) (pe_op op_add (pe_op op_pow pe_int pe_int) pe_int)) (pa_cons (pe_op op_pow pe_int pe_int) pa_nil))))) (pe_op op_mod (pe_op op_fdiv (pv 3) pe_int) pe_int) (fun _ _ => rfl))) (pss_one (ps_ret (pe_ix ix_list (pe_lst (pa_cons (pe_tup (pa_cons pe_str (pa_cons (pv 4) pa_nil))) (pa_cons (pe_tup (pa_cons pe_str pa_nil)) (pa_cons (pe_tup (pa_cons pe_str pa_nil)) (pa_cons (pe_tup (pa_cons pe_str pa_nil)) (pa_cons (pe_tup (pa_cons pe_str (pa_cons (pv 4) pa_nil))) pa_nil)))))) (pe_op op_mod (pe_op op_fdiv (pv 3) pe_int) pe_int) (fun _ _ => rfl))))) pss_nil) (pss_cons (ps_set (i := 5) sc__law_amount.nd rfl (Or.inl rfl) (pe_ix ix_list (pe_lst (pa_cons pe_str (pa_cons pe_str (pa_cons pe_str (pa_cons pe_str (pa_cons pe_str pa_nil)))))) (pe_op op_mod (pe_op op_fdiv (pv 3) pe_int) pe_int) (fun _ _ => rfl))) (pss_cons (ps_set (i := 6) sc__law_amount.nd rfl (Or.inl rfl) (pe_op op_add pe_int (pe_op op_mod (pe_op op_fdiv (pv 3) pe_int) (pe_op op_sub (pv 2) pe_int)))) (pss_cons (ps_set (i := 7) sc__law_amount.nd rfl (Or.inl rfl) (pcl G__law_amount hr (by omega) rfl (pa_cons (pv 0) (pa_cons (pv 1) (pa_cons (pv 6) pa_nil))))) (pss_one (ps_ret (pe_tup (pa_cons (pv 5) (pa_cons (pv 7) (pa_cons (pcl G__law_amount hr (by omega) rfl (pa_cons (pv 0) (pa_cons (pv 1) (pa_cons (pe_op op_sub (pe_op op_sub (pv 2) pe_int) (pv 6)) pa_nil)))) pa_nil))))))))))), ?_⟩
  refine ⟨_, rfl, _, rfl, c, sp, ns, k, rfl, g, by omega, fun r H1 hr1 b1 h1 => ?_⟩
  have g1 := g.next b1 h1
  dsimp only [gName]
  refine Evl.q_when (b := decide ((m : Int) < 3) || decide ((r : Int) % 5 < 3)) (Evl.et_or (et_refl fun H2 e2 Q1 q1 => ⟨_, rfl, _, _, rfl, rfl, _, rfl, q1⟩) fun _ => (et_refl fun H2 e2 Q1 q1 => ?_)) (fun hb H2 e2 => ?_) (fun hb H2 e2 => ?_)
  · refine ⟨_, rfl, _, _, rfl, rfl, (by show (0 : Int) < _; decide), ?_⟩
    exact ⟨_, _, rfl, rfl, _, rfl, q1⟩
  · obtain ⟨v, hv, hat⟩ := pickm (xs := [V.int ((r : Int) / 5 % 10), V.int ((r : Int) / 5 % 1000), V.int ((r : Int) * 48271 % ((10 : Int) ^ (9 : Int).toNat + 1)), V.int ((10 : Int) ^ (9 : Int).toNat)]) ((r : Int) / 50) 4 rfl (by decide)
    have hx : ∃ x : Int, v = .int x ∧ 0 ≤ x ∧ x ≤ 1000000000 := by
      simp only [List.mem_cons, List.not_mem_nil, or_false, p9] at hv
      rcases hv with rfl | rfl | rfl | rfl
      · exact ⟨_, rfl, by omega, by omega⟩
      · exact ⟨_, rfl, by omega, by omega⟩
      · exact ⟨_, rfl, by omega, by omega⟩
      · exact ⟨_, rfl, by omega, by omega⟩
    obtain ⟨x, rfl, x0, x1⟩ := hx
    refine ⟨_, rfl, _, _, rfl, rfl, ⟨by decide, by decide⟩, _, _, rfl, rfl, (by show (0 : Int) < _; decide), ?_⟩
    refine ⟨_, rfl, _, _, rfl, rfl, ⟨by decide, by decide⟩, _, _, rfl, rfl, (by show (0 : Int) < _; decide), ?_⟩
    refine ⟨_, rfl, _, _, rfl, rfl, mulx_ok (a := 30) (b := 16) (by omega) (by decide) (by decide), ?_⟩
    refine ⟨_, _, rfl, rfl, ⟨by decide, by decide, by decide⟩, _, _, rfl, rfl, _, _, rfl, rfl, (by show (0 : Int) < (10 : Int) ^ (9 : Int).toNat + 1; rw [p9]; decide), ?_⟩
    refine ⟨_, _, rfl, rfl, ⟨by decide, by decide, by decide⟩, (by show 4 ≤ sizeLine; decide), fun p np => ?_⟩
    have s3 : Same H2 (upd H2 p (.lst [V.int ((r : Int) / 5 % 10), V.int ((r : Int) / 5 % 1000), V.int ((r : Int) * 48271 % ((10 : Int) ^ (9 : Int).toNat + 1)), V.int ((10 : Int) ^ (9 : Int).toNat)])) := Same.new np
    have h3 : (upd H2 p (.lst [V.int ((r : Int) / 5 % 10), V.int ((r : Int) / 5 % 1000), V.int ((r : Int) * 48271 % ((10 : Int) ^ (9 : Int).toNat + 1)), V.int ((10 : Int) ^ (9 : Int).toNat)])) p = some (.lst [V.int ((r : Int) / 5 % 10), V.int ((r : Int) / 5 % 1000), V.int ((r : Int) * 48271 % ((10 : Int) ^ (9 : Int).toNat + 1)), V.int ((10 : Int) ^ (9 : Int).toNat)]) := upd_same
    generalize upd H2 p (.lst [V.int ((r : Int) / 5 % 10), V.int ((r : Int) / 5 % 1000), V.int ((r : Int) * 48271 % ((10 : Int) ^ (9 : Int).toNat + 1)), V.int ((10 : Int) ^ (9 : Int).toNat)]) = H3 at s3 h3 ⊢
    refine ⟨_, rfl, _, _, rfl, rfl, ⟨by decide, by decide⟩, _, _, rfl, rfl, (by show (0 : Int) < _; decide), ?_⟩
    refine ⟨_, _, _, _, rfl, rfl, SqL.of h3, hat, ?_⟩
    dsimp only [gName]
    clear hat
    refine ⟨_, rfl, (by show 2 ≤ sizeLine; decide), fun p1 n1 => ?_⟩
    have s4 : Same H3 (upd H3 p1 (.tup [.str "number", .int x])) := Same.new n1
    have h4 : (upd H3 p1 (.tup [.str "number", .int x])) p1 = some (.tup [.str "number", .int x]) := upd_same
    generalize upd H3 p1 (.tup [.str "number", .int x]) = H4 at s4 h4 ⊢
    refine ⟨(by show 1 ≤ sizeLine; decide), fun p2 n2 => ?_⟩
    have s5 : Same H4 (upd H4 p2 (.tup [.str "price"])) := Same.new n2
    have h5 : (upd H4 p2 (.tup [.str "price"])) p2 = some (.tup [.str "price"]) := upd_same
    generalize upd H4 p2 (.tup [.str "price"]) = H5 at s5 h5 ⊢
    refine ⟨(by show 1 ≤ sizeLine; decide), fun p3 n3 => ?_⟩
    have s6 : Same H5 (upd H5 p3 (.tup [.str "price"])) := Same.new n3
    have h6 : (upd H5 p3 (.tup [.str "price"])) p3 = some (.tup [.str "price"]) := upd_same
    generalize upd H5 p3 (.tup [.str "price"]) = H6 at s6 h6 ⊢
    refine ⟨(by show 1 ≤ sizeLine; decide), fun p4 n4 => ?_⟩
    have s7 : Same H6 (upd H6 p4 (.tup [.str "time"])) := Same.new n4
    have h7 : (upd H6 p4 (.tup [.str "time"])) p4 = some (.tup [.str "time"]) := upd_same
    generalize upd H6 p4 (.tup [.str "time"]) = H7 at s7 h7 ⊢
    refine ⟨_, rfl, (by show 2 ≤ sizeLine; decide), fun p5 n5 => ?_⟩
    have s8 : Same H7 (upd H7 p5 (.tup [.str "number", .int x])) := Same.new n5
    have h8 : (upd H7 p5 (.tup [.str "number", .int x])) p5 = some (.tup [.str "number", .int x]) := upd_same
    generalize upd H7 p5 (.tup [.str "number", .int x]) = H8 at s8 h8 ⊢
    refine ⟨(by show 5 ≤ sizeLine; decide), fun p6 n6 => ?_⟩
    have s9 : Same H8 (upd H8 p6 (.lst [.ref p1, .ref p2, .ref p3, .ref p4, .ref p5])) := Same.new n6
    have h9 : (upd H8 p6 (.lst [.ref p1, .ref p2, .ref p3, .ref p4, .ref p5])) p6 = some (.lst [.ref p1, .ref p2, .ref p3, .ref p4, .ref p5]) := upd_same
    generalize upd H8 p6 (.lst [.ref p1, .ref p2, .ref p3, .ref p4, .ref p5]) = H9 at s9 h9 ⊢
    refine ⟨_, rfl, _, _, rfl, rfl, ⟨by decide, by decide⟩, _, _, rfl, rfl, (by show (0 : Int) < _; decide), ?_⟩
    obtain ⟨v, hv, hat⟩ := pickm (xs := [V.ref p1, .ref p2, .ref p3, .ref p4, .ref p5]) ((r : Int) / 200) 5 rfl (by decide)
    refine ⟨_, _, _, _, rfl, rfl, SqL.of h9, hat, ?_⟩
    have s29 : Same H1 H9 := Same.trans e2 (s3.trans (s4.trans (s5.trans (s6.trans (s7.trans (s8.trans s9))))))
    have dr : Drawn K c sp ns k m H H9 := ⟨b1.trans (Same.bt s29), k + 1, g1.next (Same.bt s29) (s29 _ _ h1), by omega, by omega⟩
    have en : ("number" : Str) = S tNumber := by decide +kernel
    have ep : ("price" : Str) = S Word.price.tx := by decide +kernel
    have et : ("time" : Str) = S Word.time.tx := by decide +kernel
    simp only [List.mem_cons, List.not_mem_nil, or_false] at hv
    rcases hv with rfl | rfl | rfl | rfl | rfl
    · exact q H9 _ (.num x) dr ⟨p1, _, rfl, s9 _ _ (s8 _ _ (s7 _ _ (s6 _ _ (s5 _ _ h4)))), _, _, rfl, congrArg V.str en, _, _, rfl, rfl, rfl⟩ ⟨x0, x1⟩ m1
    · exact q H9 _ (.leaf Word.price.tx) dr ⟨p2, _, rfl, s9 _ _ (s8 _ _ (s7 _ _ (s6 _ _ h5))), _, _, rfl, congrArg V.str ep, rfl⟩ (.inl rfl) m1
    · exact q H9 _ (.leaf Word.price.tx) dr ⟨p3, _, rfl, s9 _ _ (s8 _ _ (s7 _ _ h6)), _, _, rfl, congrArg V.str ep, rfl⟩ (.inl rfl) m1
    · exact q H9 _ (.leaf Word.time.tx) dr ⟨p4, _, rfl, s9 _ _ (s8 _ _ h7), _, _, rfl, congrArg V.str et, rfl⟩ (.inr rfl) m1
    · exact q H9 _ (.num x) dr ⟨p5, _, rfl, s9 _ _ h8, _, _, rfl, congrArg V.str en, _, _, rfl, rfl, rfl⟩ ⟨x0, x1⟩ m1
  · rw [Bool.or_eq_false_iff] at hb
    have m3 := of_decide_eq_false hb.1
    obtain ⟨v, hv, hat⟩ := pickm (xs := [V.str "plus", V.str "minus", V.str "times", V.str "most", V.str "least"]) ((r : Int) / 5) 5 rfl (by decide)
    have hx : ∃ x, v = .str (S x) ∧ x ∈ opsL := by
      simp only [List.mem_cons, List.not_mem_nil, or_false] at hv
      rcases hv with rfl | rfl | rfl | rfl | rfl
      · exact ⟨Mk.plus.nm, congrArg V.str (by decide +kernel), by decide⟩
      · exact ⟨Mk.minus.nm, congrArg V.str (by decide +kernel), by decide⟩
      · exact ⟨Mk.times.nm, congrArg V.str (by decide +kernel), by decide⟩
      · exact ⟨Word.most.tx, congrArg V.str (by decide +kernel), by decide⟩
      · exact ⟨Word.least.tx, congrArg V.str (by decide +kernel), by decide⟩
    obtain ⟨x, rfl, hx⟩ := hx
    refine Evl.q_asg (v := .str (S x)) (fun H3 e3 Q1 q1 => ?_) (fun H3 e3 => ?_)
    · refine ⟨(by show 5 ≤ sizeLine; decide), fun p np => ?_⟩
      refine ⟨_, rfl, _, _, rfl, rfl, ⟨by decide, by decide⟩, _, _, rfl, rfl, (by show (0 : Int) < _; decide), ?_⟩
      exact ⟨_, _, _, _, rfl, rfl, SqL.of upd_same, hat, q1 _ (Evl.Ex.new np)⟩
    have fm : ((r : Int) / 25 % ((m : Int) - 2)) = (((r / 25) % (m - 2) : Nat) : Int) := by
      rw [Int.natCast_emod, Int.natCast_ediv, show ((m - 2 : Nat) : Int) = (m : Int) - 2 by omega]; rfl
    have fl : (r / 25) % (m - 2) < m - 2 := Nat.mod_lt _ (by omega)
    generalize hF : 1 + (r / 25) % (m - 2) = F
    refine Evl.q_asg (v := .int (F : Nat)) (ev_refl fun H4 e4 Q1 q1 => ?_) (fun H4 e4 => ?_)
    · refine ⟨_, rfl, _, _, rfl, rfl, ⟨by decide, by decide⟩, ?_⟩
      refine ⟨_, rfl, _, _, rfl, rfl, _, _, rfl, rfl, (by show (0 : Int) < (m : Int) - 2; omega), _, _, rfl, rfl, ?_⟩
      rw [fm]
      rw [show ((F : Nat) : Int) = (1 : Int) + ((r / 25 % (m - 2) : Nat) : Int) by omega] at q1
      exact q1
    have s4 : Same H1 H4 := Same.trans e2 (Same.trans e3 e4)
    have g4 := g1.next (Same.bt s4) (s4 _ _ h1)
    refine ⟨_, rfl, _, rfl, _, rfl, c, sp, ns, k + 1, F, rfl, by omega, by omega, g4, by omega, fun H5 v1 a1 D1 t1 k1 z1 => ?_⟩
    dsimp only [gName]
    obtain ⟨D1b, kk1, g5, kk1a, kk1b⟩ := D1
    have em : (m : Int) - 1 - (F : Nat) = ((m - 1 - F : Nat) : Int) := by omega
    refine ⟨_, rfl, _, rfl, _, rfl, _, rfl, _, rfl, _, _, rfl, rfl, _, rfl, _, _, rfl, rfl, c, sp, ns, kk1, m - 1 - F, congrArg (fun z => [V.ref c, .ref sp, .int z]) em, by omega, by omega, g5, by omega, fun H6 v2 a2 D2 t2 k2 z2 => ?_⟩
    obtain ⟨D2b, kk2, g6, kk2a, kk2b⟩ := D2
    refine ⟨(by show 3 ≤ sizeLine; decide), fun p np => ?_⟩
    have s7 : Same H6 (upd H6 p (.tup [.str (S x), v1, v2])) := Same.new np
    have h7 : (upd H6 p (.tup [.str (S x), v1, v2])) p = some (.tup [.str (S x), v1, v2]) := upd_same
    generalize upd H6 p (.tup [.str (S x), v1, v2]) = H7 at s7 h7 ⊢
    have tu : Tups H5 H7 := (D2b.tups g5.hk).trans (Same.tups s7)
    refine q H7 _ (.bin x a1 a2) ⟨b1.trans ((Same.bt s4).trans (D1b.trans (D2b.trans (Same.bt s7)))), kk2, g6.next (Same.bt s7) (s7 _ _ g6.hk), by omega, by omega⟩ ⟨p, _, rfl, h7, _, _, rfl, rfl, _, _, rfl, t1.up tu, _, _, rfl, t2.up (Same.tups s7), rfl⟩ ⟨hx, k1, k2⟩ ?_
    show 1 + a1.sz + a2.sz ≤ m
    omega
theorem ok_law_amount (T : Txt K mg A) (G1 : Cl P w K mg base CX0 1 "_law_cell" (sp_cell K)) : ∀ n : Nat, Cl P w K mg base CX0 (1 + n) "_law_amount" (sp_lam K n)
  | 0 => T.f__law_amount.none fun vs H Q E ⟨_, _, _, _, _, _, h1, h2, _⟩ => absurd h1 (by omega)
  | n + 1 => lam_step T G1 (ok_law_amount T G1 n)
end
end K06
end Sec_G2
section Sec_G3
set_option Elab.async false
set_option linter.all false
set_option maxRecDepth 100000
set_option maxHeartbeats 4000000
namespace K06
open PySem PySem.Spec PyProof.Rows L2
open SX (S)
/-! ### the drawing: signs, fractions -/
section
variable {P : Program} {w : World} {K : PySem.W.Frag} {mg : Str → Option Value} {base : Heap} {A : Ads}
def sp_lsi (K : PySem.W.Frag) : Sp := fun vs H Q _ => ∃ (c sp : Addr) (ns : List Int) (k : Nat), vs = [.ref c, .ref sp] ∧ Gen K c sp ns k H ∧ k + 7 < 1000000000 ∧
  ∀ (H' : Hp) (v : V) (x : Mk) (a b : GA), Drawn K c sp ns k 7 H H' → Tp H' (.tuple [st x.nm, a.pd, b.pd]) v → x ∈ signs → a.ok → b.ok → a.sz ≤ 3 → b.sz ≤ 3 → Q v H'
theorem ok_law_sign (T : Txt K mg A) (G__law_cell : Cl P w K mg base CX0 1 "_law_cell" (sp_cell K)) (G__law_amount : Cl P w K mg base CX0 11 "_law_amount" (sp_lam K 10)) : Cl P w K mg base CX0 12 "_law_sign" (sp_lsi K) := by
  refine T.f__law_sign.cl sc__law_sign (fun vs H Q E h => ?_) (fun f cdv A' outer s H vs Q E hr h => ?_)
  · obtain ⟨c, sp, ns, k, rfl, _⟩ := h; rfl
  obtain ⟨c, sp, ns, k, rfl, g, hk, q⟩ := h
  refine ⟨_, (pss_cons (ps_set (i := 2) sc__law_sign.nd rfl (Or.inl rfl) (pcl G__law_cell hr (by omega) rfl (pa_cons (pv 0) (pa_cons (pv 1) pa_nil)))) (pss_cons (ps_set (i := 3) sc__law_sign.nd rfl (Or.inl rfl) (pcl G__law_amount hr (by omega) rfl (pa_cons (pv 0) (pa_cons (pv 1) (pa_cons (pe_op op_add pe_int (pe_op op_mod (pe_op op_fdiv (pv 2) pe_int) pe_int)) pa_nil))))) (pss_one (ps_ret (pe_tup (pa_cons (pe_ix ix_list (pe_lst (pa_cons pe_str (pa_cons pe_str pa_nil))) (pe_op op_mod (pv 2) pe_int) (fun _ _ => rfl)) (pa_cons (pv 3) (pa_cons (pcl G__law_amount hr (by omega) rfl (pa_cons (pv 0) (pa_cons (pv 1) (pa_cons (pe_op op_add pe_int (pe_op op_mod (pe_op op_fdiv (pv 2) pe_int) pe_int)) pa_nil)))) pa_nil)))))))), ?_⟩
  refine ⟨_, rfl, _, rfl, c, sp, ns, k, rfl, g, by omega, fun r H1 hr1 b1 h1 => ?_⟩
  have g1 := g.next b1 h1
  dsimp only [gName]
  have f1 : (1 : Int) + (r : Int) / 2 % 3 = ((1 + r / 2 % 3 : Nat) : Int) := by omega
  have f2 : (1 : Int) + (r : Int) / 6 % 3 = ((1 + r / 6 % 3 : Nat) : Int) := by omega
  refine ⟨_, rfl, _, rfl, ?_⟩
  refine ⟨_, rfl, _, _, rfl, rfl, ⟨by decide, by decide⟩, _, _, rfl, rfl, (by show (0 : Int) < _; decide), ?_⟩
  refine ⟨_, _, rfl, rfl, c, sp, ns, k + 1, 1 + r / 2 % 3, congrArg (fun z => [V.ref c, .ref sp, .int z]) f1, by omega, by omega, g1, by omega, fun H2 v1 a1 D1 t1 k1 z1 => ?_⟩
  obtain ⟨D1b, kk1, g2, kk1a, kk1b⟩ := D1
  dsimp only [gName]
  obtain ⟨v, hv, hat⟩ := pickm (xs := [V.str "below", V.str "upto"]) (r : Int) 2 rfl (by decide)
  have hx : ∃ x : Mk, v = .str (S x.nm) ∧ x ∈ signs := by
    simp only [List.mem_cons, List.not_mem_nil, or_false] at hv
    rcases hv with rfl | rfl
    · exact ⟨Mk.below, congrArg V.str (by decide +kernel), by decide⟩
    · exact ⟨Mk.upto, congrArg V.str (by decide +kernel), by decide⟩
  obtain ⟨x, rfl, hx⟩ := hx
  refine ⟨(by show 2 ≤ sizeLine; decide), fun p np => ?_⟩
  have s3 : Same H2 (upd H2 p (.lst [.str "below", .str "upto"])) := Same.new np
  have h3 : (upd H2 p (.lst [.str "below", .str "upto"])) p = some (.lst [.str "below", .str "upto"]) := upd_same
  generalize upd H2 p (.lst [.str "below", .str "upto"]) = H3 at s3 h3 ⊢
  have g3 := g2.next (Same.bt s3) (s3 _ _ g2.hk)
  refine ⟨_, rfl, _, _, rfl, rfl, (by show (0 : Int) < _; decide), ?_⟩
  refine ⟨_, _, _, _, rfl, rfl, SqL.of h3, hat, ?_⟩
  refine ⟨_, rfl, _, rfl, _, rfl, ?_⟩
  refine ⟨_, rfl, _, _, rfl, rfl, ⟨by decide, by decide⟩, _, _, rfl, rfl, (by show (0 : Int) < _; decide), ?_⟩
  refine ⟨_, _, rfl, rfl, c, sp, ns, kk1, 1 + r / 6 % 3, congrArg (fun z => [V.ref c, .ref sp, .int z]) f2, by omega, by omega, g3, by omega, fun H4 v2 a2 D2 t2 k2 z2 => ?_⟩
  obtain ⟨D2b, kk2, g4, kk2a, kk2b⟩ := D2
  refine ⟨(by show 3 ≤ sizeLine; decide), fun p5 n5 => ?_⟩
  have s5 : Same H4 (upd H4 p5 (.tup [.str (S x.nm), v1, v2])) := Same.new n5
  have h5 : (upd H4 p5 (.tup [.str (S x.nm), v1, v2])) p5 = some (.tup [.str (S x.nm), v1, v2]) := upd_same
  generalize upd H4 p5 (.tup [.str (S x.nm), v1, v2]) = H5 at s5 h5 ⊢
  have tu : Tups H2 H5 := (Same.tups s3).trans ((D2b.tups g3.hk).trans (Same.tups s5))
  exact q H5 _ x a1 a2 ⟨b1.trans (D1b.trans ((Same.bt s3).trans (D2b.trans (Same.bt s5)))), kk2, g4.next (Same.bt s5) (s5 _ _ g4.hk), by omega, by omega⟩ ⟨p5, _, rfl, h5, _, _, rfl, rfl, _, _, rfl, t1.up tu, _, _, rfl, t2.up (Same.tups s5), rfl⟩ hx k1 k2 (by omega) (by omega)
/-- fractions -/
def shB (x : Int) : Prop := x.natAbs < 10 ^ 31
def sp_lsh : Sp := fun vs H Q _ => ∃ n : Nat, vs = [.int (n : Nat)] ∧ n ≤ 306783378 ∧ ∀ (H' : Hp) (v : V) (x y : Int), Same H H' → Tp H' (.tuple [.int x, .int y]) v → shB x → shB y → Q v H'
theorem p29 : (10 : Int) ^ (29 : Int).toNat = 100000000000000000000000000000 := by decide +kernel
theorem ok_law_share (T : Txt K mg A) : Cl P w K mg base CX0 1 "_law_share" sp_lsh := by
  refine T.f__law_share.cl sc__law_share (fun vs H Q E h => ?_) (fun f cdv A' outer s H vs Q E hr h => ?_)
  · obtain ⟨n, rfl, _⟩ := h; rfl
  obtain ⟨n, rfl, hn, q⟩ := h
  refine ⟨_, (pss_cons (ps_set (i := 1) sc__law_share.nd rfl (Or.inl rfl) (pe_op op_mulX (pe_ix ix_list (pe_lst (pa_cons (pe_op op_mod (pv 0) pe_int) (pa_cons (pe_op op_mod (pv 0) pe_int) (pa_cons (pe_op op_add (pe_op op_pow pe_int pe_int) (pv 0)) (pa_cons pe_int pa_nil))))) (pe_op op_mod (pe_op op_fdiv (pv 0) pe_int) pe_int) (fun _ _ => rfl)) (pe_op op_sub pe_int (pe_op op_mulX pe_int (pe_op op_mod (pe_op op_fdiv (pv 0) pe_int) pe_int))))) (pss_cons (ps_set (i := 2) sc__law_share.nd rfl (Or.inl rfl) (pe_ix ix_list (pe_lst (pa_cons (pe_op op_add pe_int (pe_op op_mod (pe_op op_fdiv (pv 0) pe_int) pe_int)) (pa_cons pe_int (pa_cons (pe_op op_add (pe_op op_pow pe_int pe_int) (pe_op op_fdiv (pv 0) pe_int)) (pa_cons pe_int pa_nil))))) (pe_op op_mod (pe_op op_fdiv (pv 0) pe_int) pe_int) (fun _ _ => rfl))) (pss_cons (ps_par (i := 3) (j := 4) (by rfl) sc__law_share.nd rfl rfl (by decide) rfl rfl (pa_cons (pe_callB call_abs (by rfl) T.z_abs (by decide +kernel) (pa_cons (pv 1) pa_nil)) (pa_cons (pv 2) pa_nil)) (by rfl)) (pss_cons (ps_while PassesOwn.never (pt_cmpR op_gt (pv 4) pe_int (nomark _)) (pss_one (ps_par (i := 3) (j := 4) (by rfl) sc__law_share.nd rfl rfl (by decide) rfl rfl (pa_cons (pv 4) (pa_cons (pe_op op_mod (pv 3) (pv 4)) pa_nil)) (by rfl)))) (pss_one (ps_ret (pe_tup (pa_cons (pe_op op_fdivW (pv 1) (pv 3)) (pa_cons (pe_op op_fdivW (pv 2) (pv 3)) pa_nil))))))))), ?_⟩
  obtain ⟨v, hv, hat⟩ := pickm (xs := [V.int ((n : Int) % 7), V.int ((n : Int) % 1000), V.int ((10 : Int) ^ (29 : Int).toNat + n), V.int 1]) ((n : Int) / 7) 4 rfl (by decide)
  have hx : ∃ x : Int, v = .int x ∧ 0 ≤ x ∧ x ≤ 200000000000000000000000000000 := by
    simp only [List.mem_cons, List.not_mem_nil, or_false, p29] at hv
    rcases hv with rfl | rfl | rfl | rfl <;> exact ⟨_, rfl, by omega, by omega⟩
  obtain ⟨x, rfl, x0, x1⟩ := hx
  obtain ⟨v, hv2, hat2⟩ := pickm (xs := [V.int (1 + (n : Int) / 3 % 9), V.int 1, V.int ((10 : Int) ^ (29 : Int).toNat + (n : Int) / 5), V.int 2]) ((n : Int) / 56) 4 rfl (by decide)
  have hy : ∃ x : Int, v = .int x ∧ 1 ≤ x ∧ x ≤ 200000000000000000000000000000 := by
    simp only [List.mem_cons, List.not_mem_nil, or_false, p29] at hv2
    rcases hv2 with rfl | rfl | rfl | rfl <;> exact ⟨_, rfl, by omega, by omega⟩
  obtain ⟨y, rfl, y0, y1⟩ := hy
  have xb : x.natAbs < 2 ^ 100 := by omega
  generalize hz : x * (1 - 2 * ((n : Int) / 28 % 2)) = z
  have zb : -200000000000000000000000000000 ≤ z ∧ z ≤ 200000000000000000000000000000 := by
    rcases (show (n : Int) / 28 % 2 = 0 ∨ (n : Int) / 28 % 2 = 1 by omega) with h | h <;> rw [h] at hz <;> omega
  refine Evl.q_asg (v := .int z) (fun H1 e1 Q1 q1 => ?_) (fun H1 e1 => ?_)
  · refine ⟨_, rfl, _, _, rfl, rfl, (by show (0 : Int) < _; decide), ?_⟩
    refine ⟨_, rfl, _, _, rfl, rfl, (by show (0 : Int) < _; decide), ?_⟩
    refine ⟨_, _, rfl, rfl, ⟨by decide, by decide, by decide⟩, _, rfl, _, _, rfl, rfl, (by show 4 ≤ sizeLine; decide), fun p np => ?_⟩
    refine ⟨_, rfl, _, _, rfl, rfl, ⟨by decide, by decide⟩, _, _, rfl, rfl, (by show (0 : Int) < _; decide), ?_⟩
    refine ⟨_, _, _, _, rfl, rfl, SqL.of upd_same, hat, ?_⟩
    refine ⟨_, rfl, _, _, rfl, rfl, ⟨by decide, by decide⟩, _, _, rfl, rfl, (by show (0 : Int) < _; decide), ?_⟩
    refine ⟨_, _, rfl, rfl, mulx_ok (a := 2) (b := 1) (by decide) (by omega) (by decide), _, _, rfl, rfl, _, _, rfl, rfl, mulx_ok (a := 100) (b := 2) xb (by omega) (by decide), ?_⟩
    have q1 := q1 _ (Evl.Ex.new np (o := .lst [V.int ((n : Int) % 7), V.int ((n : Int) % 1000), V.int ((10 : Int) ^ (29 : Int).toNat + n), V.int 1]))
    rw [← hz] at q1
    exact q1
  refine Evl.q_asg (v := .int y) (fun H2 e2 Q1 q1 => ?_) (fun H2 e2 => ?_)
  · refine ⟨_, rfl, _, _, rfl, rfl, ⟨by decide, by decide⟩, _, _, rfl, rfl, (by show (0 : Int) < _; decide), ?_⟩
    refine ⟨_, _, rfl, rfl, _, _, rfl, rfl, ⟨by decide, by decide, by decide⟩, ?_⟩
    refine ⟨_, rfl, _, _, rfl, rfl, ⟨by decide, by decide⟩, ?_⟩
    refine ⟨_, _, rfl, rfl, (by show 4 ≤ sizeLine; decide), fun p np => ?_⟩
    refine ⟨_, rfl, _, _, rfl, rfl, ⟨by decide, by decide⟩, _, _, rfl, rfl, (by show (0 : Int) < _; decide), ?_⟩
    exact ⟨_, _, _, _, rfl, rfl, SqL.of upd_same, hat2, q1 _ (Evl.Ex.new np)⟩
  clear hat hat2 hv hv2
  refine ⟨_, rfl, _, rfl, _, rfl, _, _, rfl, ?_⟩
  dsimp only
  have s2 : Same H H2 := Evl.Ex.trans e1 e2
  refine Evl.q_while (fun m σ H' => ∃ a b : Int, σ = [some (.int (n : Nat)), some (.int z), some (.int y), some (.int a), some (.int b)] ∧ Same H H' ∧ 0 ≤ a ∧ 0 ≤ b ∧ Int.gcd a b = Int.gcd z y ∧ m = b.toNat) _ ⟨_, _, rfl, s2, (by split <;> omega), (by omega), gcd_abs z y, rfl⟩ (fun m σ H' ⟨a, b, hσ, s3, pa, pb, hg, hm⟩ => ?_)
  subst hσ
  refine ⟨decide (0 < b), et_refl fun H4 e4 Q1 q1 => ⟨_, rfl, _, _, rfl, rfl, _, rfl, q1⟩, fun hb H4 e4 => ?_, fun hb H4 e4 => ?_⟩
  · have hb := of_decide_eq_true hb
    refine ⟨fun σ2 H5 => σ2 = [some (.int (n : Nat)), some (.int z), some (.int y), some (.int b), some (.int (a % b))] ∧ Same H H5, fun σ2 H5 ⟨hσ, s5⟩ => ⟨(a % b).toNat, ?_, b, a % b, hσ, s5, pb, Int.emod_nonneg _ (by omega), ?_, rfl⟩, ?_⟩
    · have := Int.emod_lt_of_pos a hb
      have := Int.emod_nonneg a (show b ≠ 0 by omega)
      omega
    · rw [gcd_step pa pb, hg]
    · exact ⟨_, rfl, _, rfl, _, rfl, _, _, rfl, rfl, hb, _, _, rfl, rfl, Evl.Ex.trans s3 e4⟩
  · have hb : b = 0 := by have := of_decide_eq_false hb; omega
    subst hb
    have ga := gcd_zero pa
    rw [hg] at ga
    have g1 : 0 < Int.gcd z y := Int.gcd_pos_of_ne_zero_right _ (by omega)
    have g2 : ((Int.gcd z y : Nat) : Int) ≤ y := Int.le_of_dvd (by omega) (Int.gcd_dvd_right _ _)
    have a1 : 0 < a := by omega
    have cw : ∀ i : Int, CDivW i a := fun i => wide_div (b := 100) a1 (by omega) (by decide) (by decide)
    have bz := Int.natAbs_ediv_le_natAbs z a
    have by' := Int.natAbs_ediv_le_natAbs y a
    refine ⟨_, rfl, _, rfl, _, _, rfl, rfl, cw _, _, rfl, _, rfl, _, _, rfl, rfl, cw _, (by show 2 ≤ sizeLine; decide), fun p np => ?_⟩
    exact q _ _ _ _ (Same.trans s3 (Same.trans e4 (Same.new np))) ⟨p, _, rfl, upd_same, _, _, rfl, rfl, _, _, rfl, rfl, rfl⟩ (by unfold shB; omega) (by unfold shB; omega)
end
end K06
end Sec_G3
section Sec_G4
set_option Elab.async false
set_option linter.all false
set_option maxRecDepth 100000
set_option maxHeartbeats 4000000
namespace K06
open PySem PySem.Spec PyProof.Rows L2
open SX (S)
/-! ### the drawing: how many parts -/
mutual
def thin : PyData → Bool
  | .tuple ds => !ds.isEmpty && (decide (ds.length ≤ 3) && thinL ds)
  | _ => true
def thinL : List PyData → Bool
  | [] => true
  | d :: ds => thin d && thinL ds
end
theorem thinL_mem : ∀ {ds : List PyData} {d : PyData}, thinL ds = true → d ∈ ds → thin d = true
  | e :: ds, d, h, hm => by
    have h : (thin e && thinL ds) = true := h
    rw [Bool.and_eq_true] at h
    rcases List.mem_cons.mp hm with rfl | hm
    · exact h.1
    · exact thinL_mem h.2 hm
theorem GA.thin : ∀ a : GA, K06.thin a.pd = true
  | .num _ => rfl
  | .leaf _ => rfl
  | .bin x a b => by show (true && (true && (true && (K06.thin a.pd && (K06.thin b.pd && true))))) = true; rw [a.thin, b.thin]; rfl
theorem GA.dp : ∀ a : GA, dpt a.pd ≤ a.hgt + 1
  | .num _ => Nat.le_refl _
  | .leaf _ => Nat.le_refl _
  | .bin x a b => by have := a.dp; have := b.dp; show 1 + max 0 (max (dpt a.pd) (max (dpt b.pd) 0)) ≤ 1 + max a.hgt b.hgt + 1; omega
def headStr : PyData → Bool
  | .tuple (e :: _) => dStr e
  | _ => false
section
variable {P : Program} {w : World} {K : PySem.W.Frag} {mg : Str → Option Value} {base : Heap} {A : Ads}
def sp_lpt (n : Nat) : Sp := fun vs H Q _ => ∃ (v : V) (ds : List PyData), vs = [v] ∧ Tp H (.tuple ds) v ∧ thin (.tuple ds) = true ∧ dpt (.tuple ds) ≤ n ∧ ∀ (H' : Hp) (i : Int), Same H H' → Q (.int i) H'
theorem lpt_step (T : Txt K mg A) {n : Nat} (G__law_parts : Cl P w K mg base CX0 (1 + n) "_law_parts" (sp_lpt n)) : Cl P w K mg base CX0 (1 + n + 1) "_law_parts" (sp_lpt (n + 1)) := by
  refine T.f__law_parts.cl sc__law_parts (fun vs H Q E h => ?_) (fun f cdv A' outer s H vs Q E hr h => ?_)
  · obtain ⟨v, ds, rfl, _⟩ := h; rfl
  obtain ⟨v, ds, rfl, hd, ht, hdp, q⟩ := h
  refine ⟨_, (pss_cons (ps_setLc (i := 1) (own := [("_law_part", 2)]) (g := gName 2) (tt := tAnd (tB (tCB (rIsi K) (tCons (tVar 2) (tCons (tC (.ty "tuple")) tNil)))) (tB (tCB (rIsi K) (tCons (tOp (rIxT K) (tVar 2) (tC (.int 0))) (tCons (tC (.ty "str")) tNil))))) rfl sc__law_parts.nd rfl rfl (sw_true rfl rfl rfl (by decide +kernel)) (pi_tup (pe_slice sl_tupA (pv 0) (po_some pe_int) po_none)) (blkOk_by (own := [("_law_part", 2)]) (N := N__law_parts) (sc := defScope s__law_parts) (by decide +kernel)) (fun _ _ _ _ _ => pg_name (i := 2) sc__law_parts.nd rfl (Or.inl rfl)) (fun _ _ _ _ _ => pts_one (PW.pt (pw_and (pt_val (pe_callB call_isi (by rfl) T.z_isinstance (by decide +kernel) (pa_cons (pv 2) (pa_cons (pe_bltn (by rfl) T.z_tuple (by decide +kernel) (v := .ty "tuple") rfl) pa_nil)))) (pw_and1 (pt_val (pe_callB call_isi (by rfl) T.z_isinstance (by decide +kernel) (pa_cons (pe_ix ix_tup (pv 2) pe_int (fun _ _ => rfl)) (pa_cons (pe_bltn (by rfl) T.z_str (by decide +kernel) (v := .ty "str") rfl) pa_nil)))))))) (fun _ _ _ _ _ => (pv 2))) (pss_one (ps_ret (pe_op op_add pe_int (pe_callB (cr_sum rfl) (by rfl) T.z_sum (by decide +kernel) (pa_cons (pe_lc (own := [("_law_part", 2)]) (g := gName 2) rfl sc__law_parts.nd (pi_list (pv 1)) (blkOk_by (own := [("_law_part", 2)]) (N := N__law_parts) (sc := defScope s__law_parts) (by decide +kernel)) (fun _ _ _ _ _ => pg_name (i := 2) sc__law_parts.nd rfl (Or.inl rfl)) (fun _ _ _ _ _ => pts_nil) (fun _ _ _ _ _ => (pcl G__law_parts hr (by omega) rfl (pa_cons (pv 2) pa_nil)))) pa_nil)))))), ?_⟩
  have ht : (!ds.isEmpty && (decide (ds.length ≤ 3) && thinL ds)) = true := ht
  simp only [Bool.and_eq_true, decide_eq_true_eq] at ht
  obtain ⟨h0, h3, hL⟩ := ht
  obtain ⟨a0, us, rfl, ha, hus⟩ := hd
  cases ds with
  | nil => exact Bool.noConfusion h0
  | cons d0 dr =>
  obtain ⟨u0, ur, rfl, hu0, hur⟩ := hus
  have url : ur.length = dr.length := hur.length
  have h3 : dr.length + 1 ≤ 3 := h3
  refine ⟨_, rfl, ?_⟩
  dsimp only [tNoPart]
  refine ⟨_, rfl, ?_⟩
  refine sl1 ha fun p np => ?_
  have s1 : Same H (upd H p (.tup ur)) := Same.new np
  have h1 : (upd H p (.tup ur)) p = some (.tup ur) := upd_same
  generalize upd H p (.tup ur) = H1 at s1 h1 ⊢
  refine ⟨p, rfl, ⟨_, SqT.of h1⟩, fun D hD => ?_⟩
  refine lc_tup (xs := ur) (fun i H2 => Same H1 H2 ∧ ∃ acc, H2 D = some (.lst acc) ∧ acc.length ≤ i ∧ ∀ x ∈ acc, ∃ es, PyData.tuple es ∈ dr ∧ Tp H1 (.tuple es) x) ⟨Same.new hD, [], upd_same, Nat.le_refl _, fun x hx => by cases hx⟩ (fun i H2 _ p => Evl.ex_t p.1 (SqT.of h1)) (fun i x H2 hi p => ?_) (fun H2 p => ?_)
  · obtain ⟨s2, acc, hacc, hal, hm⟩ := p
    obtain ⟨d, hdi, hx⟩ := (hur.up (Same.tups s1)).get hi
    have dm : d ∈ dr := List.mem_of_getElem? hdi
    have hi3 : i < ur.length := (List.getElem?_eq_some_iff.mp hi).1
    have tS : thin d = true := thinL_mem hL (List.mem_cons_of_mem _ dm)
    refine ⟨rfl, ?_⟩
    have tupE : ∀ es, d = .tuple es → ∃ e0 er a1 y0 ys, es = e0 :: er ∧ x = .ref a1 ∧ H2 a1 = some (.tup (y0 :: ys)) ∧ Tp H2 e0 y0 := fun es he => by
      subst he
      have tS : (!es.isEmpty && (decide (es.length ≤ 3) && thinL es)) = true := tS
      obtain ⟨a1, zs, rfl, ha1, hzs⟩ := hx.up (Same.tups s2)
      cases es with
      | nil => simp at tS
      | cons e0 er => obtain ⟨y0, ys, rfl, hy0, hys⟩ := hzs; exact ⟨e0, er, a1, y0, ys, rfl, rfl, ha1, hy0⟩
    have hx2 := hx.up (Same.tups s2)
    refine (Evl.et_and (a := dTup d) (b := headStr d) (et_refl fun H3 e3 Q1 q1 => ?_) (fun hb => et_refl fun H3 e3 Q1 q1 => ?_)) H2 (Evl.Ex.refl H2) _ fun H3 e3 => ?_
    · refine ⟨_, rfl, ?_⟩
      have t1 := hx2.up (Same.tups e3)
      refine ⟨_, _, _, _, _, rfl, .ty _, Tp.ty (K := K) (t1), kit_ty (kit_tuple _), ?_⟩
      exact ⟨_, rfl, q1⟩
    · obtain ⟨es, he⟩ : ∃ es, d = .tuple es := by cases d <;> first | exact ⟨_, rfl⟩ | exact Bool.noConfusion hb
      obtain ⟨e0, er, a1, y0, ys, rfl, rfl, ha1, hy0⟩ := tupE es he
      subst he
      refine ⟨_, rfl, ?_⟩
      refine ⟨_, _, _, _, rfl, rfl, SqT.of (e3 _ _ ha1), (by first | exact at0 | exact at1 | exact at2 | rfl), ?_⟩
      have t1 := hy0.up (Same.tups e3)
      refine ⟨_, _, _, _, _, rfl, .ty _, Tp.ty (K := K) (t1), kit_ty (kit_str _), ?_⟩
      exact ⟨_, rfl, q1⟩
    · have s3 : Same H1 H3 := s2.trans e3
      have hacc3 := e3 _ _ hacc
      cases hb : (dTup d && headStr d) with
      | true =>
        rw [Bool.and_eq_true] at hb
        obtain ⟨es, he⟩ : ∃ es, d = .tuple es := by cases d <;> first | exact ⟨_, rfl⟩ | exact Bool.noConfusion hb.1
        subst he
        refine iteT ⟨_, rfl, acc, hacc3, small _ (by omega), Evl.Ex.mut s3 hD, _, upd_same, (by rw [List.length_append]; show acc.length + 1 ≤ i + 1; omega), fun z hz => ?_⟩
        rcases List.mem_append.mp hz with hz | hz
        · exact hm z hz
        · rw [List.mem_singleton.mp hz]; exact ⟨es, dm, hx⟩
      | false => exact iteF ⟨s3, acc, hacc3, by omega, hm⟩
  · obtain ⟨s2, acc, hacc, hal, hm⟩ := p
    dsimp only [gName]
    refine ⟨_, rfl, D, rfl, ⟨_, Evl.sq_of hacc⟩, fun D2 hD2 => ?_⟩
    refine lc_list (xs := acc) (fun i H3 => Same H2 H3 ∧ ∃ ns : List Int, H3 D2 = some (.lst (ns.map V.int)) ∧ ns.length = i) ⟨Same.new hD2, [], upd_same, rfl⟩ (fun i H3 _ p => Evl.sq_of (p.1 _ _ hacc)) (fun i x H3 hi p => ?_) (fun H3 p => ?_)
    · obtain ⟨s3, ns, hns, hnl⟩ := p
      have hi3 : i < acc.length := (List.getElem?_eq_some_iff.mp hi).1
      obtain ⟨es, hes, hx⟩ := hm x (List.mem_of_getElem? hi)
      have hde : dpt (.tuple es) ≤ n := by
        have h1 := dptL_mem hes
        have h2 : 1 + max (dpt d0) (dptL dr) ≤ n + 1 := hdp
        omega
      refine ⟨rfl, _, rfl, x, es, rfl, hx.up (Same.tups (s2.trans s3)), thinL_mem hL (List.mem_cons_of_mem _ hes), hde, fun H4 j s4 => ?_⟩
      refine ⟨_, s4 _ _ hns, small _ (by rw [List.length_map]; omega), Evl.Ex.mut (Evl.Ex.trans s3 s4) hD2, ns ++ [j], ?_, ?_⟩
      · rw [upd_same, List.map_append]; rfl
      · rw [List.length_append, hnl]; rfl
    · obtain ⟨s3, ns, hns, hnl⟩ := p
      exact ⟨D2, ns, rfl, SqL.of hns, _, _, rfl, rfl, q _ _ (s1.trans (s2.trans s3))⟩
theorem ok_law_parts (T : Txt K mg A) : ∀ n : Nat, Cl P w K mg base CX0 (1 + n) "_law_parts" (sp_lpt n)
  | 0 => T.f__law_parts.none fun vs H Q E ⟨_, _, _, _, _, h, _⟩ => absurd h (Nat.not_succ_le_zero _ ∘ (Nat.le_trans (Nat.le_add_right 1 _)))
  | n + 1 => lpt_step T (ok_law_parts T n)
end
end K06
end Sec_G4
section Sec_G5
set_option Elab.async false
set_option linter.all false
set_option maxRecDepth 100000
set_option maxHeartbeats 4000000
namespace K06
open PySem PySem.Spec PyProof.Rows L2
open SX (S)
/-! ### the drawing: deals -/
inductive GD where
  | nul | coin (a : GA) | one (x : Word) (d : GD) | two (x : Word) (d e : GD) | fig (n : Nat) (d : GD) | sgn (x : Word) (k : Mk) (a b : GA) (d : GD) | amt (a : GA) (d : GD) | shr (n m : Int) (d : GD)
def GD.pd : GD → PyData
  | .nul => .tuple [st Word.none.tx]
  | .coin a => .tuple [st Word.coin.tx, a.pd]
  | .one x d => .tuple [st x.tx, d.pd]
  | .two x d e => .tuple [st x.tx, d.pd, e.pd]
  | .fig n d => .tuple [st Word.later.tx, .int (n : Nat), d.pd]
  | .sgn x k a b d => .tuple [st x.tx, .tuple [st k.nm, a.pd, b.pd], d.pd]
  | .amt a d => .tuple [st Word.scale.tx, a.pd, d.pd]
  | .shr n m d => .tuple [st Word.by.tx, .tuple [.int n, .int m], d.pd]
def GD.ok : GD → Prop
  | .nul => True
  | .coin a => a.ok
  | .one x d => x ∈ forms ∧ d.ok
  | .two x d e => x ∈ forms ∧ d.ok ∧ e.ok
  | .fig n d => n ≤ 9 ∧ d.ok
  | .sgn x k a b d => x ∈ forms ∧ k ∈ signs ∧ a.ok ∧ b.ok ∧ d.ok
  | .amt a d => a.ok ∧ d.ok
  | .shr n m d => shB n ∧ shB m ∧ d.ok
def GD.sz : GD → Nat
  | .nul => 1
  | .coin a => 1 + a.sz
  | .one x d => 1 + d.sz
  | .two x d e => 1 + d.sz + e.sz
  | .fig n d => 2 + d.sz
  | .sgn x k a b d => 2 + a.sz + b.sz + d.sz
  | .amt a d => 1 + a.sz + d.sz
  | .shr n m d => 3 + d.sz
def GD.hgt : GD → Nat
  | .nul => 0
  | .coin a => 1 + a.hgt
  | .one x d => 1 + d.hgt
  | .two x d e => 1 + max d.hgt e.hgt
  | .fig n d => 1 + d.hgt
  | .sgn x k a b d => 1 + max (max a.hgt b.hgt) d.hgt
  | .amt a d => 1 + max a.hgt d.hgt
  | .shr n m d => 1 + d.hgt
def bnd : Nat → Nat
  | 0 => 0
  | n + 1 => 12 + 2 * bnd n
theorem bnd_mono {m n : Nat} (h : m ≤ n) : bnd m ≤ bnd n := by
  induction h with
  | refl => exact Nat.le_refl _
  | step _ ih => show bnd m ≤ 12 + 2 * bnd _; omega
theorem bnd12 : bnd 12 = 49140 := rfl
def Bt2 (sp lf : Addr) (H H' : Hp) : Prop := ∀ a o, a ≠ sp → a ≠ lf → H a = some o → H' a = some o
/-- from H to H': cells, and what is left -/
structure Dr (K : PySem.W.Frag) (c sp lf : Addr) (ns : List Int) (k m : Nat) (H H' : Hp) : Prop where
  bt : Bt2 sp lf H H'
  tu : Tups H H'
  up : ∃ k', Gen K c sp ns k' H' ∧ k ≤ k' ∧ k' ≤ k + m
  lv : ∃ x y z : Int, H' lf = some (.lst [.int x, .int y, .int z])
section
variable {K : PySem.W.Frag} {c sp lf : Addr} {ns : List Int} {k m : Nat} {H H1 H2 : Hp}
theorem Dr.same (d : Dr K c sp lf ns k m H H1) (s : Same H1 H2) : Dr K c sp lf ns k m H H2 := by
  obtain ⟨b, t, ⟨k', g, h1, h2⟩, x, y, z, hl⟩ := d
  exact ⟨fun a o n1 n2 h => s _ _ (b a o n1 n2 h), t.trans (Same.tups s), ⟨k', g.next (Same.bt s) (s _ _ g.hk), h1, h2⟩, x, y, z, s _ _ hl⟩
theorem Dr.set (d : Dr K c sp lf ns k m H H1) (n1 : lf ≠ sp) (n2 : c ≠ lf ∨ ∀ H', SqL K H' c (ns.map V.int)) (x y z : Int) : Dr K c sp lf ns k m H (upd H1 lf (.lst [.int x, .int y, .int z])) := by
  obtain ⟨b, t, ⟨k', g, h1, h2⟩, x', y', z', hl⟩ := d
  refine ⟨fun a o m1 m2 h => by rw [upd_ne m2]; exact b a o m1 m2 h, t.trans (Tups.upd hl fun _ z => by cases z), ⟨k', ⟨g.ok, g.ne, SqL.bt Bt.upd n2 g.hc, by rw [upd_ne n1.symm]; exact g.hk⟩, h1, h2⟩, x, y, z, upd_same⟩
theorem Dr.draw {k1 m2 : Nat} (d : Dr K c sp lf ns k m H H1) (n1 : lf ≠ sp) (hk1 : k ≤ k1) (hk2 : k1 ≤ k + m) (g1 : Gen K c sp ns k1 H1) (D : Drawn K c sp ns k1 m2 H1 H2) : Dr K c sp lf ns k (m + m2) H H2 := by
  obtain ⟨b, t, _, x, y, z, hl⟩ := d
  obtain ⟨b2, k2, g2, h1, h2⟩ := D
  exact ⟨fun a o m1 m2 h => b2 _ _ m1 (b a o m1 m2 h), t.trans (b2.tups g1.hk), ⟨k2, g2, by omega, by omega⟩, x, y, z, b2 _ _ n1 hl⟩
theorem Dr.trans {k1 m2 : Nat} (d : Dr K c sp lf ns k m H H1) (hk1 : k ≤ k1) (hk2 : k1 ≤ k + m) (D : Dr K c sp lf ns k1 m2 H1 H2) : Dr K c sp lf ns k (m + m2) H H2 := by
  obtain ⟨b, t, _, _⟩ := d
  obtain ⟨b2, t2, ⟨k2, g2, h1, h2⟩, x, y, z, hl⟩ := D
  exact ⟨fun a o m1 m2 h => b2 _ _ m1 m2 (b a o m1 m2 h), t.trans t2, ⟨k2, g2, by omega, by omega⟩, x, y, z, hl⟩
theorem Dr.up' {m2 : Nat} (d : Dr K c sp lf ns k m H H1) (h : m ≤ m2) : Dr K c sp lf ns k m2 H H1 := by
  obtain ⟨b, t, ⟨k', g, h1, h2⟩, l⟩ := d
  exact ⟨b, t, ⟨k', g, h1, by omega⟩, l⟩
end
section
variable {P : Program} {w : World} {K : PySem.W.Frag} {mg : Str → Option Value} {base : Heap} {A : Ads}
def sp_ldl (K : PySem.W.Frag) (n : Nat) : Sp := fun vs H Q _ => ∃ (c sp lf : Addr) (ns : List Int) (k m : Nat) (x y z sc : Int), vs = [.ref c, .ref sp, .ref lf, .int (m : Nat), .int sc] ∧ 1 ≤ m ∧ m ≤ n ∧ Gen K c sp ns k H ∧ lf ≠ sp ∧ (c ≠ lf ∨ ∀ H', SqL K H' c (ns.map V.int)) ∧ H lf = some (.lst [.int x, .int y, .int z]) ∧ k + bnd m < 1000000000 ∧
  ∀ (H' : Hp) (v : V) (d : GD), Dr K c sp lf ns k (bnd m) H H' → Tp H' d.pd v → d.ok → d.sz ≤ bnd m → d.hgt ≤ m + 10 → Q v H'
theorem ldl_step (T : Txt K mg A) {n : Nat} (G__law_cell : Cl P w K mg base CX0 1 "_law_cell" (sp_cell K)) (G__law_amount : Cl P w K mg base CX0 11 "_law_amount" (sp_lam K 10)) (G__law_parts : Cl P w K mg base CX0 11 "_law_parts" (sp_lpt 10))
    (G__law_sign : Cl P w K mg base CX0 12 "_law_sign" (sp_lsi K)) (G__law_share : Cl P w K mg base CX0 1 "_law_share" sp_lsh) (G__law_deal : Cl P w K mg base CX0 (12 + n) "_law_deal" (sp_ldl K n)) : Cl P w K mg base CX0 (12 + n + 1) "_law_deal" (sp_ldl K (n + 1)) := by
  refine T.f__law_deal.cl sc__law_deal (fun vs H Q E h => ?_) (fun f cdv A' outer s H vs Q E hr h => ?_)
  · obtain ⟨c, sp, lf, ns, k, m, x, y, z, sc, rfl, _⟩ := h; rfl
  obtain ⟨c, sp, lf, ns, k, m, x, y, z, sc, rfl, m1, mn, g, nlp, nlc, hlf, hk, q⟩ := h
  refine ⟨_, (pss_cons (ps_set (i := 5) sc__law_deal.nd rfl (Or.inl rfl) (pcl G__law_cell hr (by omega) rfl (pa_cons (pv 0) (pa_cons (pv 1) pa_nil)))) (pss_cons (ps_set (i := 6) sc__law_deal.nd rfl (Or.inl rfl) (pe_op op_mod (pv 5) pe_int)) (pss_cons (ps_set (i := 7) sc__law_deal.nd rfl (Or.inl rfl) (pe_op op_fdiv (pv 5) pe_int)) (pss_cons (ps_asg (pe_op op_sub (pe_ix ix_list (pv 2) pe_int (fun _ _ => rfl)) pe_int) (pg_sub (pv 2) pe_int set_list)) (pss_cons (ps_if (PW.pt (pw_or (pt_cmpR op_lt (pv 3) pe_int (nomark _)) (pw_or (pt_cmpR op_lt (pe_ix ix_list (pv 2) pe_int (fun _ _ => rfl)) pe_int (nomark _)) (pw_or1 (pt_cmpR op_lt (pv 6) pe_int (nomark _)))))) (pss_cons (ps_set (i := 8) sc__law_deal.nd rfl (Or.inl rfl) (pcl G__law_amount hr (by omega) rfl (pa_cons (pv 0) (pa_cons (pv 1) (pa_cons (pe_callB (call_min2 rfl) (by rfl) T.z_min (by decide +kernel) (pa_cons (pe_callB (call_max2 rfl) (by rfl) T.z_max (by decide +kernel) (pa_cons (pe_op op_sub (pe_ix ix_list (pv 2) pe_int (fun _ _ => rfl)) pe_int) (pa_cons pe_int pa_nil))) (pa_cons (pe_op op_add pe_int (pe_op op_mod (pe_op op_fdiv (pv 7) pe_int) pe_int)) pa_nil))) pa_nil))))) (pss_cons (ps_asg (pe_op op_sub (pe_ix ix_list (pv 2) pe_int (fun _ _ => rfl)) (pcl G__law_parts hr (by omega) rfl (pa_cons (pv 8) pa_nil))) (pg_sub (pv 2) pe_int set_list)) (pss_one (ps_ret (pe_ifExp (PW.pt (pw_and (pt_cmpR op_ge (pe_ix ix_list (pv 2) pe_int (fun _ _ => rfl)) pe_int (nomark _)) (pw_and1 (pt_cmpR op_gt (pe_op op_mod (pv 7) pe_int) pe_int (nomark _))))) (pe_tup (pa_cons pe_str (pa_cons (pv 8) pa_nil))) (pe_tup (pa_cons pe_str pa_nil))))))) pss_nil) (pss_cons (ps_if (PW.pt (pw_or (pt_cmpR op_eq (pv 6) pe_int (nomark _)) (pw_or1 (pt_cmpR op_eq (pv 6) pe_int (nomark _))))) (pss_cons (ps_set (i := 9) sc__law_deal.nd rfl (Or.inl rfl) (pcl G__law_deal hr (by omega) rfl (pa_cons (pv 0) (pa_cons (pv 1) (pa_cons (pv 2) (pa_cons (pe_op op_sub (pv 3) pe_int) (pa_cons (pv 4) pa_nil))))))) (pss_one (ps_ret (pe_tup (pa_cons pe_str (pa_cons (pv 9) (pa_cons (pcl G__law_deal hr (by omega) rfl (pa_cons (pv 0) (pa_cons (pv 1) (pa_cons (pv 2) (pa_cons (pe_op op_sub (pv 3) pe_int) (pa_cons (pv 4) pa_nil)))))) pa_nil))))))) pss_nil) (pss_cons (ps_if (PW.pt (pw_and (pt_cmpR op_lt (pv 6) pe_int (nomark _)) (pw_and1 (pt_cmpR op_gt (pe_ix ix_list (pv 2) pe_int (fun _ _ => rfl)) pe_int (nomark _))))) (pss_cons (ps_asg (pe_op op_sub (pe_ix ix_list (pv 2) pe_int (fun _ _ => rfl)) pe_int) (pg_sub (pv 2) pe_int set_list)) (pss_cons (ps_if (PW.pt (pw_or (pt_cmpR op_eq (pv 6) pe_int (nomark _)) (pw_or1 (pt_cmpR op_eq (pe_ix ix_list (pv 2) pe_int (fun _ _ => rfl)) pe_int (nomark _))))) (pss_cons (ps_set (i := 9) sc__law_deal.nd rfl (Or.inl rfl) (pcl G__law_deal hr (by omega) rfl (pa_cons (pv 0) (pa_cons (pv 1) (pa_cons (pv 2) (pa_cons (pe_op op_sub (pv 3) pe_int) (pa_cons (pv 4) pa_nil))))))) (pss_one (ps_ret (pe_tup (pa_cons pe_str (pa_cons (pv 9) (pa_cons (pcl G__law_deal hr (by omega) rfl (pa_cons (pv 0) (pa_cons (pv 1) (pa_cons (pv 2) (pa_cons (pe_op op_sub (pv 3) pe_int) (pa_cons (pv 4) pa_nil)))))) pa_nil))))))) pss_nil) (pss_cons (ps_asg (pe_op op_sub (pe_ix ix_list (pv 2) pe_int (fun _ _ => rfl)) pe_int) (pg_sub (pv 2) pe_int set_list)) (pss_one (ps_ret (pe_tup (pa_cons pe_str (pa_cons (pcl G__law_deal hr (by omega) rfl (pa_cons (pv 0) (pa_cons (pv 1) (pa_cons (pv 2) (pa_cons (pe_op op_sub (pv 3) pe_int) (pa_cons (pv 4) pa_nil)))))) pa_nil)))))))) pss_nil) (pss_cons (ps_if (pt_cmpR op_lt (pv 6) pe_int (nomark _)) (pss_cons (ps_set (i := 10) sc__law_deal.nd rfl (Or.inl rfl) (pe_op op_mod (pv 7) (pe_ix ix_list (pe_lst (pa_cons pe_int (pa_cons pe_int pa_nil))) (pe_op op_fdiv (pe_op op_mod (pe_op op_fdiv (pv 7) pe_int) pe_int) pe_int) (fun _ _ => rfl)))) (pss_one (ps_ret (pe_tup (pa_cons pe_str (pa_cons (pv 10) (pa_cons (pcl G__law_deal hr (by omega) rfl (pa_cons (pv 0) (pa_cons (pv 1) (pa_cons (pv 2) (pa_cons (pe_op op_sub (pv 3) pe_int) (pa_cons (pv 4) pa_nil)))))) pa_nil))))))) pss_nil) (pss_cons (ps_if (PW.pt (pw_and (pt_cmpR op_lt (pv 6) pe_int (nomark _)) (pw_and1 (pt_cmpR op_gt (pe_ix ix_list (pv 2) pe_int (fun _ _ => rfl)) pe_int (nomark _))))) (pss_cons (ps_set (i := 11) sc__law_deal.nd rfl (Or.inl rfl) (pcl G__law_sign hr (by omega) rfl (pa_cons (pv 0) (pa_cons (pv 1) pa_nil)))) (pss_cons (ps_asg (pe_op op_sub (pe_ix ix_list (pv 2) pe_int (fun _ _ => rfl)) (pcl G__law_parts hr (by omega) rfl (pa_cons (pv 11) pa_nil))) (pg_sub (pv 2) pe_int set_list)) (pss_cons (ps_set (i := 12) sc__law_deal.nd rfl (Or.inl rfl) (pe_ix ix_list (pe_lst (pa_cons pe_str (pa_cons pe_str pa_nil))) (pe_op op_mod (pv 6) pe_int) (fun _ _ => rfl))) (pss_one (ps_ret (pe_tup (pa_cons (pv 12) (pa_cons (pv 11) (pa_cons (pcl G__law_deal hr (by omega) rfl (pa_cons (pv 0) (pa_cons (pv 1) (pa_cons (pv 2) (pa_cons (pe_op op_sub (pv 3) pe_int) (pa_cons (pv 4) pa_nil)))))) pa_nil))))))))) pss_nil) (pss_cons (ps_if (PW.pt (pw_and (pt_cmpR op_lt (pv 6) pe_int (nomark _)) (pw_and (pt_cmpR op_gt (pv 4) pe_int (nomark _)) (pw_and1 (pt_cmpR op_gt (pe_ix ix_list (pv 2) pe_int (fun _ _ => rfl)) pe_int (nomark _)))))) (pss_cons (ps_if (pt_cmpR op_eq (pe_op op_mod (pv 7) pe_int) pe_int (nomark _)) (pss_cons (ps_set (i := 13) sc__law_deal.nd rfl (Or.inl rfl) (pcl G__law_share hr (by omega) rfl (pa_cons (pe_op op_fdiv (pv 7) pe_int) pa_nil))) (pss_one (ps_ret (pe_tup (pa_cons pe_str (pa_cons (pv 13) (pa_cons (pcl G__law_deal hr (by omega) rfl (pa_cons (pv 0) (pa_cons (pv 1) (pa_cons (pv 2) (pa_cons (pe_op op_sub (pv 3) pe_int) (pa_cons (pe_op op_sub (pv 4) pe_int) pa_nil)))))) pa_nil))))))) pss_nil) (pss_cons (ps_set (i := 8) sc__law_deal.nd rfl (Or.inl rfl) (pcl G__law_amount hr (by omega) rfl (pa_cons (pv 0) (pa_cons (pv 1) (pa_cons (pe_op op_add pe_int (pe_op op_mod (pe_op op_fdiv (pv 7) pe_int) pe_int)) pa_nil))))) (pss_cons (ps_asg (pe_op op_sub (pe_ix ix_list (pv 2) pe_int (fun _ _ => rfl)) (pcl G__law_parts hr (by omega) rfl (pa_cons (pv 8) pa_nil))) (pg_sub (pv 2) pe_int set_list)) (pss_one (ps_ret (pe_tup (pa_cons pe_str (pa_cons (pv 8) (pa_cons (pcl G__law_deal hr (by omega) rfl (pa_cons (pv 0) (pa_cons (pv 1) (pa_cons (pv 2) (pa_cons (pe_op op_sub (pv 3) pe_int) (pa_cons (pe_op op_sub (pv 4) pe_int) pa_nil)))))) pa_nil))))))))) pss_nil) (pss_one (ps_ret (pe_tup (pa_cons pe_str (pa_cons (pcl G__law_deal hr (by omega) rfl (pa_cons (pv 0) (pa_cons (pv 1) (pa_cons (pv 2) (pa_cons (pe_op op_sub (pv 3) pe_int) (pa_cons (pv 4) pa_nil)))))) pa_nil))))))))))))))), ?_⟩
  obtain ⟨m', rfl⟩ : ∃ m', m = m' + 1 := ⟨m - 1, by omega⟩
  have hk : k + (12 + 2 * bnd m') < 1000000000 := hk
  have q : ∀ (H' : Hp) (v : V) (d : GD), Dr K c sp lf ns k (12 + 2 * bnd m') H H' → Tp H' d.pd v → d.ok → d.sz ≤ 12 + 2 * bnd m' → d.hgt ≤ m' + 11 → Q v H' := fun H' v d h1 h2 h3 h4 h5 => q H' v d h1 h2 h3 h4 (by omega)
  refine ⟨_, rfl, _, rfl, c, sp, ns, k, rfl, g, by omega, fun r H1 hr1 b1 h1 => ?_⟩
  have g1 := g.next b1 h1
  have d1 : Dr K c sp lf ns k 1 H H1 := ⟨fun a o n1 n2 h => b1 _ _ n1 h, b1.tups g.hk, ⟨k + 1, g1, by omega, by omega⟩, x, y, z, b1 _ _ nlp hlf⟩
  have hl1 := b1 _ _ nlp hlf
  dsimp only [gName]
  refine Evl.q_asg (v := .int ((r % 16 : Nat) : Int)) (ev_refl fun H2 e2 Q1 q1 => ?_) (fun H2 e2 => ?_)
  · refine ⟨_, rfl, _, _, rfl, rfl, (by show (0 : Int) < _; decide), ?_⟩
    rw [Int.natCast_emod] at q1
    exact q1
  refine Evl.q_asg (v := .int ((r / 16 : Nat) : Int)) (ev_refl fun H3 e3 Q1 q1 => ?_) (fun H3 e3 => ?_)
  · refine ⟨_, rfl, _, _, rfl, rfl, ⟨by decide, by decide⟩, ?_⟩
    rw [Int.natCast_ediv] at q1
    exact q1
  have kdl : r % 16 < 16 := Nat.mod_lt _ (by decide)
  have mol : r / 16 ≤ 306783378 := Nat.le_trans (Nat.div_le_self _ _) hr1
  generalize r % 16 = kd at kdl ⊢
  generalize r / 16 = mo at mol ⊢
  have hl3 := (Same.trans e2 e3) _ _ hl1
  refine Evl.q_setL (j := 0) (v := .int (x - 1)) hl3 (ev_refl fun H4 e4 Q1 q1 => ?_) (Evl.ev_var rfl) Evl.ev_c (by show 0 < 3; omega) (fun H4 e4 => ?_)
  · exact ⟨_, rfl, _, _, _, _, rfl, rfl, SqL.of (e4 _ _ hl3), rfl, _, _, rfl, rfl, q1⟩
  have d4 : Dr K c sp lf ns k 1 H (upd H4 lf (.lst [.int (x - 1), .int y, .int z])) := (d1.same (Same.trans e2 (Same.trans e3 e4))).set nlp nlc _ _ _
  have hl4 : (upd H4 lf (.lst [.int (x - 1), .int y, .int z])) lf = some (.lst [.int (x - 1), .int y, .int z]) := upd_same
  refine cast (congrArg _ (show upd H4 lf (.lst [.int (x - 1), .int y, .int z]) = upd H4 lf (.lst (List.set [.int x, .int y, .int z] 0 (.int (x - 1)))) from rfl)) ?_
  generalize upd H4 lf (.lst [.int (x - 1), .int y, .int z]) = H5 at d4 hl4 ⊢
  generalize x - 1 = x1 at hl4 ⊢
  clear hl3 hl1 d1 h1 b1 g1 e2 e3 e4
  have sub1 : ((m' + 1 : Nat) : Int) - 1 = (m' : Nat) := by omega
  have again : ∀ {H6 : Hp} {m6 : Nat} {sc6 : Int} {Q6 : VK}, Dr K c sp lf ns k m6 H H6 → m6 + bnd m' ≤ 12 + 2 * bnd m' → 1 ≤ m' → (∀ (H7 : Hp) (v : V) (d : GD), Dr K c sp lf ns k (m6 + bnd m') H H7 → Tups H6 H7 → Tp H7 d.pd v → d.ok → d.sz ≤ bnd m' → d.hgt ≤ m' + 10 → Q6 v H7) → sp_ldl K n [.ref c, .ref sp, .ref lf, .int (((m' + 1 : Nat) : Int) - 1), .int sc6] H6 Q6 E0 := fun {H6 m6 sc6 Q6} d6 hm hm1 q6 => by
    obtain ⟨k6, g6, k6a, k6b⟩ := d6.up
    obtain ⟨x6, y6, z6, hl6⟩ := d6.lv
    exact ⟨c, sp, lf, ns, k6, m', x6, y6, z6, sc6, by rw [sub1], hm1, by omega, g6, nlp, nlc, hl6, by omega, fun H7 v d D7 t7 o7 s7 h7 => q6 H7 v d (d6.trans k6a k6b D7) D7.tu t7 o7 s7 h7⟩
  have fin : ∀ {H7 : Hp} {us : List V} {m7 : Nat} (dd : GD) (ds : List PyData), Dr K c sp lf ns k m7 H H7 → m7 ≤ 12 + 2 * bnd m' → dd.pd = .tuple ds → TpL H7 ds us → dd.ok → dd.sz ≤ 12 + 2 * bnd m' → dd.hgt ≤ m' + 11 → ∀ p, H7 p = none → Q (.ref p) (upd H7 p (.tup us)) := fun {H7 us m7} dd ds d7 hm hd ht ho hs hh p np => by
    have s8 : Same H7 (upd H7 p (.tup us)) := Same.new np
    refine q _ _ dd ((d7.same s8).up' hm) ?_ ho hs hh
    rw [hd]
    exact ⟨p, us, rfl, upd_same, ht.up (Same.tups s8)⟩
  refine Evl.q_when (b := decide (((m' + 1 : Nat) : Int) < 2) || (decide (x1 < 8) || decide (((kd : Nat) : Int) < 4))) (Evl.et_or (et_refl fun H6 e6 Q1 q1 => ⟨_, rfl, _, _, rfl, rfl, _, rfl, q1⟩) fun _ => Evl.et_or (et_refl fun H6 e6 Q1 q1 => ⟨_, rfl, _, _, _, _, rfl, rfl, SqL.of (e6 _ _ hl4), rfl, _, _, rfl, rfl, _, rfl, q1⟩) fun _ => (et_refl fun H6 e6 Q1 q1 => ⟨_, rfl, _, _, rfl, rfl, _, rfl, q1⟩)) (fun hb H6 e6 => ?_) (fun hb H6 e6 => ?_)
  · have hl6 := e6 _ _ hl4
    have d6 := d4.same e6
    obtain ⟨k6, g6, k6a, k6b⟩ := d6.up
    refine ⟨_, rfl, _, rfl, _, rfl, _, _, _, _, rfl, rfl, SqL.of hl6, rfl, _, _, rfl, rfl, _, _, rfl, ?_⟩
    refine ⟨_, rfl, _, _, rfl, rfl, ⟨by decide, by decide⟩, _, _, rfl, rfl, (by show (0 : Int) < _; decide), ?_⟩
    refine ⟨_, _, rfl, rfl, _, _, rfl, ?_⟩
    have hw : ∃ am : Nat, (if (1 : Int) + ((mo : Nat) : Int) / 7 % 10 < (if (1 : Int) > x1 - 1 then 1 else x1 - 1) then (1 : Int) + ((mo : Nat) : Int) / 7 % 10 else (if (1 : Int) > x1 - 1 then 1 else x1 - 1)) = (am : Nat) ∧ 1 ≤ am ∧ am ≤ 10 := by
      refine ⟨(if (1 : Int) + ((mo : Nat) : Int) / 7 % 10 < (if (1 : Int) > x1 - 1 then 1 else x1 - 1) then (1 : Int) + ((mo : Nat) : Int) / 7 % 10 else (if (1 : Int) > x1 - 1 then 1 else x1 - 1)).toNat, ?_, ?_, ?_⟩ <;> (repeat' split) <;> omega
    obtain ⟨am, ea, am1, am10⟩ := hw
    refine ⟨c, sp, ns, k6, am, congrArg (fun z => [V.ref c, .ref sp, .int z]) ea, am1, am10, g6, by omega, fun H7 v1 a1 D7 t7 o7 z7 => ?_⟩
    have d7 := (d6.draw nlp k6a k6b g6 D7).up' (show 1 + am ≤ 11 by omega)
    obtain ⟨x7, y7, z7', hl7⟩ := d7.lv
    have ah := a1.hgt_lt
    have adp := a1.dp
    dsimp only [gName]
    obtain ⟨ds1, hds1⟩ : ∃ ds, a1.pd = .tuple ds := by cases a1 <;> exact ⟨_, rfl⟩
    have t7' := t7
    rw [hds1] at t7'
    have th := a1.thin
    rw [hds1] at th adp
    refine ⟨_, rfl, _, _, _, _, rfl, rfl, SqL.of hl7, rfl, _, rfl, v1, ds1, rfl, t7', th, by omega, fun H8 i s8 => ⟨_, _, rfl, rfl, _, rfl, lf, _, 0, 0, rfl, rfl, s8 _ _ hl7, rfl, ?_⟩⟩
    have d8 := (d7.same s8).set nlp nlc (x7 - i) y7 z7'
    have tu8 : Tups H7 (upd H8 lf (.lst [.int (x7 - i), .int y7, .int z7'])) := (Same.tups s8).trans (Tups.upd (s8 _ _ hl7) fun _ z => by cases z)
    have hl8 : (upd H8 lf (.lst [.int (x7 - i), .int y7, .int z7'])) lf = some (.lst [.int (x7 - i), .int y7, .int z7']) := upd_same
    dsimp only [List.set]
    generalize upd H8 lf (.lst [.int (x7 - i), .int y7, .int z7']) = H9 at d8 hl8 tu8 ⊢
    refine (Evl.et_and (a := decide (0 ≤ x7 - i)) (b := decide (0 < ((mo : Nat) : Int) % 9)) (et_refl fun H10 e10 Q1 q1 => ⟨_, rfl, _, _, _, _, rfl, rfl, SqL.of (e10 _ _ hl8), rfl, _, _, rfl, rfl, _, rfl, q1⟩) (fun _ => et_refl fun H10 e10 Q1 q1 => ⟨_, rfl, _, _, rfl, rfl, (by show (0 : Int) < _; decide), _, _, rfl, rfl, _, rfl, q1⟩)) H9 (Evl.Ex.refl H9) _ fun H10 e10 => ?_
    refine iteB (fun _ => ?_) (fun _ => ?_)
    · refine ⟨_, rfl, (by show 2 ≤ sizeLine; decide), fun p np => ?_⟩
      exact fin (.coin a1) [st Word.coin.tx, a1.pd] (d8.same e10) (by omega) rfl ⟨_, _, rfl, congrArg V.str (by decide +kernel), _, _, rfl, t7.up (tu8.trans (Same.tups e10)), rfl⟩ o7 (by show 1 + a1.sz ≤ _; omega) (by show 1 + a1.hgt ≤ _; omega) p np
    · refine ⟨(by show 1 ≤ sizeLine; decide), fun p np => ?_⟩
      exact fin .nul [st Word.none.tx] (d8.same e10) (by omega) rfl ⟨_, _, rfl, congrArg V.str (by decide +kernel), rfl⟩ trivial (by show 1 ≤ _; omega) (by show 0 ≤ _; omega) p np
  have hl6 := e6 _ _ hl4
  have d6 := d4.same e6
  simp only [Bool.or_eq_false_iff, decide_eq_false_iff_not] at hb
  have m1' : 1 ≤ m' := by have := hb.1; omega
  clear hb
  -- one deal within, and what stands around it
  have two : ∀ {H7 : Hp} {σ : L2.St} {x : Str} (w0 : Word) {D0 : L2.Ends}, w0 ∈ forms → D0.rt = Q → x = S w0.tx → Same H6 H7 ∨ Dr K c sp lf ns k 1 H H7 → σ[0]? = some (some (.ref c)) → σ[1]? = some (some (.ref sp)) → σ[2]? = some (some (.ref lf)) → σ[3]? = some (some (.int ((m' + 1 : Nat) : Int))) → σ[4]? = some (some (.int sc)) → σ.length = 14 →
      (tSeq (tAsg (tCl (sp_ldl K n) (tCons (tVar 0) (tCons (tVar 1) (tCons (tVar 2) (tCons (tOp (rI0 fun i j => V.int (i - j)) (tVar 3) (tC (V.int 1))) (tCons (tVar 4) tNil)))))) (gName 9))
        (tRet (tTup (tCons (tC (V.str x)) (tCons (tVar 9) (tCons (tCl (sp_ldl K n) (tCons (tVar 0) (tCons (tVar 1) (tCons (tVar 2) (tCons (tOp (rI0 fun i j => V.int (i - j)) (tVar 3) (tC (V.int 1))) (tCons (tVar 4) tNil)))))) tNil)))))) D0 σ H7 := fun {H7 σ x} w0 {D0} hw eD hx hd h0 h1 h2 h3 h4 hlen => by
    have d7 : Dr K c sp lf ns k 1 H H7 := hd.elim (fun s => d6.same s) id
    refine ⟨_, h0, _, h1, _, h2, _, h3, _, _, rfl, rfl, _, h4, again d7 (by omega) m1' fun H8 v1 g1 d8 _ t8 o8 z8 g8 => ?_⟩
    have st : ∀ {i : Nat} {u : V}, i ≠ 9 → σ[i]? = some (some u) → (σ.set 9 (some v1))[i]? = some (some u) := fun {i u} hi hs => by rw [List.getElem?_set_ne (fun z => hi z.symm)]; exact hs
    refine ⟨_, by show (σ.set 9 (some v1))[9]? = _; rw [List.getElem?_set_self (by omega)], _, st (by decide) h0, _, st (by decide) h1, _, st (by decide) h2, _, st (by decide) h3, _, _, rfl, rfl, _, st (by decide) h4, again d8 (by omega) m1' fun H9 v2 g2 d9 tu9 t9 o9 z9 g9 => ?_⟩
    refine ⟨(by show 3 ≤ sizeLine; decide), fun p np => ?_⟩
    rw [eD, hx]
    exact fin (.two w0 g1 g2) [K06.st w0.tx, g1.pd, g2.pd] d9 (by omega) rfl ⟨_, _, rfl, rfl, _, _, rfl, t8.up tu9, _, _, rfl, t9, rfl⟩ ⟨hw, o8, o9⟩ (by show 1 + g1.sz + g2.sz ≤ _; omega) (by show 1 + max g1.hgt g2.hgt ≤ _; omega) p np
  have eqn : ∀ {σ : L2.St} {H8 : Hp} {j : Int}, σ[6]? = some (some (.int (kd : Nat))) → Evl.EvT (tTest (tOp rEq (tVar 6) (tC (.int j)))) σ H8 (decide (V.int (kd : Nat) = .int j)) := fun hs => et_refl fun H9 _ Q1 q1 => ⟨_, hs, rfl, _, rfl, q1⟩
  refine Evl.q_when (Evl.et_or (eqn rfl) fun _ => eqn rfl) (fun _ H7 e7 => ?_) (fun _ H7 e7 => ?_)
  · exact two .both (by decide) rfl (by decide +kernel) (.inl e7) rfl rfl rfl rfl rfl rfl
  have hl7 := e7 _ _ hl6
  have d7 := d6.same e7
  clear hl6 hl4 d4
  have one : ∀ {H8 : Hp} {σ : L2.St} {x : Str} {m8 : Nat} (w0 : Word) {D0 : L2.Ends}, w0 ∈ forms → D0.rt = Q → x = S w0.tx → Dr K c sp lf ns k m8 H H8 → m8 ≤ 12 → σ[0]? = some (some (.ref c)) → σ[1]? = some (some (.ref sp)) → σ[2]? = some (some (.ref lf)) → σ[3]? = some (some (.int ((m' + 1 : Nat) : Int))) → σ[4]? = some (some (.int sc)) →
      (tRet (tTup (tCons (tC (V.str x)) (tCons (tCl (sp_ldl K n) (tCons (tVar 0) (tCons (tVar 1) (tCons (tVar 2) (tCons (tOp (rI0 fun i j => V.int (i - j)) (tVar 3) (tC (V.int 1))) (tCons (tVar 4) tNil)))))) tNil)))) D0 σ H8 := fun {H8 σ x m8} w0 {D0} hw eD hx d8 hm8 h0 h1 h2 h3 h4 => by
    refine ⟨_, h0, _, h1, _, h2, _, h3, _, _, rfl, rfl, _, h4, again d8 (by omega) m1' fun H9 v1 g1 d9 _ t9 o9 z9 g9 => ⟨(by show 2 ≤ sizeLine; decide), fun p np => ?_⟩⟩
    rw [eD, hx]
    exact fin (.one w0 g1) [K06.st w0.tx, g1.pd] d9 (by omega) rfl ⟨_, _, rfl, rfl, _, _, rfl, t9, rfl⟩ ⟨hw, o9⟩ (by show 1 + g1.sz ≤ _; omega) (by show 1 + g1.hgt ≤ _; omega) p np
  have ltn : ∀ {σ : L2.St} {H8 : Hp} {j : Int}, σ[6]? = some (some (.int (kd : Nat))) → Evl.EvT (tTest (tOp (rI0 fun i j => V.bl (decide (i < j))) (tVar 6) (tC (.int j)))) σ H8 (decide ((kd : Int) < j)) := fun hs => et_refl fun H9 _ Q1 q1 => ⟨_, hs, _, _, rfl, rfl, _, rfl, q1⟩
  refine Evl.q_when (Evl.et_and (b := decide (0 < y)) (ltn rfl) fun _ => et_refl fun H8 e8 Q1 q1 => ⟨_, rfl, _, _, _, _, rfl, rfl, SqL.of (e8 _ _ hl7), rfl, _, _, rfl, rfl, _, rfl, q1⟩) (fun _ H8 e8 => ?_) (fun _ H8 e8 => ?_)
  · have hl8 := e8 _ _ hl7
    refine Evl.q_setL (j := 1) (v := .int (y - 1)) hl8 (ev_refl fun H9 e9 Q1 q1 => ?_) (Evl.ev_var rfl) Evl.ev_c (by show 1 < 3; omega) (fun H9 e9 => ?_)
    · exact ⟨_, rfl, _, _, _, _, rfl, rfl, SqL.of (e9 _ _ hl8), rfl, _, _, rfl, rfl, q1⟩
    have d10 := ((d7.same e8).same e9).set nlp nlc x1 (y - 1) z
    have hl10 : (upd H9 lf (.lst [.int x1, .int (y - 1), .int z])) lf = some (.lst [.int x1, .int (y - 1), .int z]) := upd_same
    refine cast (congrArg _ (show upd H9 lf (.lst [.int x1, .int (y - 1), .int z]) = upd H9 lf (.lst (List.set [.int x1, .int y, .int z] 1 (.int (y - 1)))) from rfl)) ?_
    generalize upd H9 lf (.lst [.int x1, .int (y - 1), .int z]) = H10 at d10 hl10 ⊢
    refine Evl.q_when (Evl.et_or (b := decide (V.int z = .int 0)) (eqn rfl) fun _ => et_refl fun H11 e11 Q1 q1 => ⟨_, rfl, _, _, _, _, rfl, rfl, SqL.of (e11 _ _ hl10), rfl, rfl, _, rfl, q1⟩) (fun _ H11 e11 => ?_) (fun _ H11 e11 => ?_)
    · exact two .either (by decide) rfl (by decide +kernel) (.inr (d10.same e11)) rfl rfl rfl rfl rfl rfl
    have hl11 := e11 _ _ hl10
    refine Evl.q_setL (j := 2) (v := .int (z - 1)) hl11 (ev_refl fun H12 e12 Q1 q1 => ?_) (Evl.ev_var rfl) Evl.ev_c (by show 2 < 3; omega) (fun H12 e12 => ?_)
    · exact ⟨_, rfl, _, _, _, _, rfl, rfl, SqL.of (e12 _ _ hl11), rfl, _, _, rfl, rfl, q1⟩
    exact one .any (by decide) rfl (by decide +kernel) (((d10.same e11).same e12).set nlp nlc x1 (y - 1) (z - 1)) (by omega) rfl rfl rfl rfl rfl
  have hl8 := e8 _ _ hl7
  have d8 := d7.same e8
  refine Evl.q_when (ltn rfl) (fun _ H9 e9 => ?_) (fun _ H9 e9 => ?_)
  · obtain ⟨v, hv, hat⟩ := pick (xs := [V.int 3, V.int 10]) (i := ((mo : Nat) : Int) / 3 % 4 / 3) (by omega) (by show _ < ((2 : Nat) : Int); omega)
    have hx : ∃ u : Nat, v = .int (u : Nat) ∧ 0 < u ∧ u ≤ 10 := by
      simp only [List.mem_cons, List.not_mem_nil, or_false] at hv
      rcases hv with rfl | rfl
      · exact ⟨3, rfl, by decide, by decide⟩
      · exact ⟨10, rfl, by decide, by decide⟩
    obtain ⟨u, rfl, u0, u10⟩ := hx
    have wl : mo % u < u := Nat.mod_lt _ u0
    refine Evl.q_asg (v := .int ((mo % u : Nat) : Int)) (fun H10 e10 Q1 q1 => ?_) (fun H10 e10 => ?_)
    · refine ⟨_, rfl, (by show 2 ≤ sizeLine; decide), fun p np => ?_⟩
      refine ⟨_, rfl, _, _, rfl, rfl, ⟨by decide, by decide⟩, _, _, rfl, rfl, (by show (0 : Int) < _; decide), ?_⟩
      refine ⟨_, _, rfl, rfl, ⟨by decide, by decide⟩, _, _, _, _, rfl, rfl, SqL.of upd_same, hat, _, _, rfl, rfl, (by show (0 : Int) < (u : Nat); omega), ?_⟩
      have q1 := q1 _ (Evl.Ex.new np (o := .lst [.int 3, .int 10]))
      rw [Int.natCast_emod] at q1
      exact q1
    refine ⟨_, rfl, _, rfl, _, rfl, _, rfl, _, rfl, _, _, rfl, rfl, _, rfl, again ((d8.same e9).same e10) (by omega) m1' fun H11 v1 g1 d11 _ t11 o11 z11 g11 => ⟨(by show 3 ≤ sizeLine; decide), fun p np => ?_⟩⟩
    exact fin (.fig (mo % u) g1) [st Word.later.tx, .int ((mo % u : Nat) : Int), g1.pd] d11 (by omega) rfl ⟨_, _, rfl, congrArg V.str (by decide +kernel), _, _, rfl, rfl, _, _, rfl, t11, rfl⟩ ⟨by omega, o11⟩ (by show 2 + g1.sz ≤ _; omega) (by show 1 + g1.hgt ≤ _; omega) p np
  have hl9 := e9 _ _ hl8
  have d9 := d8.same e9
  clear d6 d7 d8 hl7 hl8 two
  have gt14 : ∀ {σ : L2.St} {H10 : Hp}, Same H9 H10 → σ[2]? = some (some (.ref lf)) → Evl.EvT (tTest (tOp (rI0 fun i j => V.bl (decide (j < i))) (tOp (rIxL K) (tVar 2) (tC (.int 0))) (tC (.int 14)))) σ H10 (decide (14 < x1)) := fun s hs => et_refl fun H11 e11 Q1 q1 => ⟨_, hs, _, _, _, _, rfl, rfl, SqL.of ((s.trans e11) _ _ hl9), rfl, _, _, rfl, rfl, _, rfl, q1⟩
  refine Evl.q_when (Evl.et_and (b := decide (14 < x1)) (ltn rfl) fun _ => gt14 (Same.refl _) rfl) (fun _ H10 e10 => ?_) (fun _ H10 e10 => ?_)
  · have d10 := d9.same e10
    obtain ⟨k10, g10, k10a, k10b⟩ := d10.up
    refine ⟨_, rfl, _, rfl, c, sp, ns, k10, rfl, g10, by omega, fun H11 v1 kk a1 b1 D11 t11 hkk oa ob za zb => ?_⟩
    have d11 := d10.draw nlp k10a k10b g10 D11
    obtain ⟨x11, y11, z11, hl11⟩ := d11.lv
    have pa := a1.dp
    have pb := b1.dp
    have ha := a1.hgt_lt
    have hb := b1.hgt_lt
    have th : thin (.tuple [K06.st kk.nm, a1.pd, b1.pd]) = true := by show (true && (true && (true && (K06.thin a1.pd && (K06.thin b1.pd && true))))) = true; rw [a1.thin, b1.thin]; rfl
    have dp : dpt (.tuple [K06.st kk.nm, a1.pd, b1.pd]) ≤ 10 := by show 1 + max 0 (max (dpt a1.pd) (max (dpt b1.pd) 0)) ≤ 10; omega
    dsimp only [gName]
    refine ⟨_, rfl, _, _, _, _, rfl, rfl, SqL.of hl11, rfl, _, rfl, v1, _, rfl, t11, th, dp, fun H12 i s12 => ⟨_, _, rfl, rfl, _, rfl, lf, _, 0, 0, rfl, rfl, s12 _ _ hl11, rfl, ?_⟩⟩
    have d13 := (d11.same s12).set nlp nlc (x11 - i) y11 z11
    have tu13 : Tups H11 (upd H12 lf (.lst [.int (x11 - i), .int y11, .int z11])) := (Same.tups s12).trans (Tups.upd (s12 _ _ hl11) fun _ z => by cases z)
    dsimp only [List.set]
    generalize upd H12 lf (.lst [.int (x11 - i), .int y11, .int z11]) = H13 at d13 tu13 ⊢
    obtain ⟨v, hv, hat⟩ := pickm (xs := [V.str "once", V.str "until"]) ((kd : Nat) : Int) 2 rfl (by decide)
    have hx : ∃ w0 : Word, v = .str (S w0.tx) ∧ w0 ∈ forms := by
      simp only [List.mem_cons, List.not_mem_nil, or_false] at hv
      rcases hv with rfl | rfl
      · exact ⟨.once, congrArg V.str (by decide +kernel), by decide⟩
      · exact ⟨.until, congrArg V.str (by decide +kernel), by decide⟩
    obtain ⟨w0, rfl, hw0⟩ := hx
    refine Evl.q_asg (v := .str (S w0.tx)) (fun H14 e14 Q1 q1 => ?_) (fun H14 e14 => ?_)
    · refine ⟨(by show 2 ≤ sizeLine; decide), fun p np => ?_⟩
      refine ⟨_, rfl, _, _, rfl, rfl, (by show (0 : Int) < _; decide), ?_⟩
      exact ⟨_, _, _, _, rfl, rfl, SqL.of upd_same, hat, q1 _ (Evl.Ex.new np)⟩
    refine ⟨_, rfl, _, rfl, _, rfl, _, rfl, _, rfl, _, rfl, _, _, rfl, rfl, _, rfl, again (d13.same e14) (by omega) m1' fun H15 v2 g1 d15 tu15 t15 o15 z15 g15 => ⟨(by show 3 ≤ sizeLine; decide), fun p np => ?_⟩⟩
    exact fin (.sgn w0 kk a1 b1 g1) [st w0.tx, .tuple [K06.st kk.nm, a1.pd, b1.pd], g1.pd] d15 (by omega) rfl ⟨_, _, rfl, rfl, _, _, rfl, t11.up (tu13.trans ((Same.tups e14).trans tu15)), _, _, rfl, t15, rfl⟩ ⟨hw0, hkk, oa, ob, o15⟩ (by show 2 + a1.sz + b1.sz + g1.sz ≤ _; omega) (by show 1 + max (max a1.hgt b1.hgt) g1.hgt ≤ _; omega) p np
  refine Evl.q_when (Evl.et_and (b := decide (0 < sc) && decide (14 < x1)) (ltn rfl) fun _ => Evl.et_and (et_refl fun H11 e11 Q1 q1 => ⟨_, rfl, _, _, rfl, rfl, _, rfl, q1⟩) fun _ => gt14 e10 rfl) (fun _ H11 e11 => ?_) (fun _ H11 e11 => ?_)
  · have d11 := d9.same (Same.trans e10 e11)
    refine Evl.q_when (b := decide (V.int ((mo : Nat) % 2) = V.int 1)) (et_refl fun H12 e12 Q1 q1 => ?_) (fun _ H12 e12 => ?_) (fun _ H12 e12 => ?_)
    · refine ⟨_, rfl, _, _, rfl, rfl, (by show (0 : Int) < _; decide), ?_⟩
      exact ⟨rfl, _, rfl, q1⟩
    · refine ⟨_, rfl, _, _, rfl, rfl, ⟨by decide, by decide⟩, ?_⟩
      refine ⟨mo / 2, congrArg (fun z => [V.int z]) (by rw [Int.natCast_ediv]; rfl), by omega, fun H13 v1 x y s13 t13 bx bz => ?_⟩
      dsimp only [gName]
      refine ⟨_, rfl, _, rfl, _, rfl, _, rfl, _, rfl, _, _, rfl, rfl, _, rfl, _, _, rfl, rfl, again ((d11.same e12).same s13) (by omega) m1' fun H14 v2 g1 d14 tu14 t14 o14 z14 g14 => ⟨(by show 3 ≤ sizeLine; decide), fun p np => ?_⟩⟩
      exact fin (.shr x y g1) [st Word.by.tx, .tuple [.int x, .int y], g1.pd] d14 (by omega) rfl ⟨_, _, rfl, congrArg V.str (by decide +kernel), _, _, rfl, t13.up tu14, _, _, rfl, t14, rfl⟩ ⟨bx, bz, o14⟩ (by show 3 + g1.sz ≤ _; omega) (by show 1 + g1.hgt ≤ _; omega) p np
    · have d12 := d11.same e12
      obtain ⟨k12, g12, k12a, k12b⟩ := d12.up
      have ea : (1 : Int) + ((mo : Nat) : Int) / 2 % 4 = ((1 + mo / 2 % 4 : Nat) : Int) := by omega
      refine ⟨_, rfl, _, rfl, ?_⟩
      refine ⟨_, rfl, _, _, rfl, rfl, ⟨by decide, by decide⟩, _, _, rfl, rfl, (by show (0 : Int) < _; decide), ?_⟩
      refine ⟨_, _, rfl, rfl, c, sp, ns, k12, 1 + mo / 2 % 4, congrArg (fun z => [V.ref c, .ref sp, .int z]) ea, by omega, by omega, g12, by omega, fun H13 v1 a1 D13 t13 o13 z13 => ?_⟩
      have d13 := (d12.draw nlp k12a k12b g12 D13).up' (show 1 + (1 + mo / 2 % 4) ≤ 5 by omega)
      obtain ⟨x13, y13, z13', hl13⟩ := d13.lv
      have ah := a1.hgt_lt
      have adp := a1.dp
      dsimp only [gName]
      obtain ⟨ds1, hds1⟩ : ∃ ds, a1.pd = .tuple ds := by cases a1 <;> exact ⟨_, rfl⟩
      have t13' := t13
      rw [hds1] at t13'
      have th := a1.thin
      rw [hds1] at th adp
      refine ⟨_, rfl, _, _, _, _, rfl, rfl, SqL.of hl13, rfl, _, rfl, v1, ds1, rfl, t13', th, by omega, fun H14 i s14 => ⟨_, _, rfl, rfl, _, rfl, lf, _, 0, 0, rfl, rfl, s14 _ _ hl13, rfl, ?_⟩⟩
      have d15 := (d13.same s14).set nlp nlc (x13 - i) y13 z13'
      have tu15 : Tups H13 (upd H14 lf (.lst [.int (x13 - i), .int y13, .int z13'])) := (Same.tups s14).trans (Tups.upd (s14 _ _ hl13) fun _ z => by cases z)
      dsimp only [List.set]
      generalize upd H14 lf (.lst [.int (x13 - i), .int y13, .int z13']) = H15 at d15 tu15 ⊢
      refine ⟨_, rfl, _, rfl, _, rfl, _, rfl, _, rfl, _, _, rfl, rfl, _, rfl, _, _, rfl, rfl, again d15 (by omega) m1' fun H16 v2 g1 d16 tu16 t16 o16 z16 g16 => ⟨(by show 3 ≤ sizeLine; decide), fun p np => ?_⟩⟩
      exact fin (.amt a1 g1) [st Word.scale.tx, a1.pd, g1.pd] d16 (by omega) rfl ⟨_, _, rfl, congrArg V.str (by decide +kernel), _, _, rfl, t13.up (tu15.trans tu16), _, _, rfl, t16, rfl⟩ ⟨o13, o16⟩ (by show 1 + a1.sz + g1.sz ≤ _; omega) (by show 1 + max a1.hgt g1.hgt ≤ _; omega) p np
  · exact one .give (by decide) rfl (by decide +kernel) (d9.same (Same.trans e10 e11)) (by omega) rfl rfl rfl rfl rfl
theorem ok_law_deal (T : Txt K mg A) (G1 : Cl P w K mg base CX0 1 "_law_cell" (sp_cell K)) (G2 : Cl P w K mg base CX0 11 "_law_amount" (sp_lam K 10)) (G3 : Cl P w K mg base CX0 11 "_law_parts" (sp_lpt 10)) (G4 : Cl P w K mg base CX0 12 "_law_sign" (sp_lsi K)) (G5 : Cl P w K mg base CX0 1 "_law_share" sp_lsh) : ∀ n : Nat, Cl P w K mg base CX0 (12 + n) "_law_deal" (sp_ldl K n)
  | 0 => T.f__law_deal.none fun vs H Q E ⟨_, _, _, _, _, _, _, _, _, _, _, h1, h2, _⟩ => absurd h1 (by omega)
  | n + 1 => ldl_step T G1 G2 G3 G4 G5 (ok_law_deal T G1 G2 G3 G4 G5 n)
end
end K06
end Sec_G5
section Sec_G6
set_option Elab.async false
set_option linter.all false
set_option maxRecDepth 100000
set_option maxHeartbeats 4000000
namespace K06
open PySem PySem.Spec PyProof.Rows L2
open SX (S)
/-! ### the drawing: texts of amounts -/
theorem call_str_any {X : Cx} : CallR X (.type "str") (fun xs H Q => (∃ i, xs = [.int i] ∧ i.natAbs.log2 < 1920 ∧ Q (.str (toString i)) H) ∨ ∃ a, xs = [.str a] ∧ Q (.str a) H) := fun pins s σ H xs us Q I r h => h.elim (call_str_int pins s σ H xs us Q I r) (SkE.call_str_str pins s σ H xs us Q I r)
theorem str_int {i : Int} (h : i.natAbs < 10 ^ 35) : ∃ t : Tx, (Str.ofString (toString i)) = S t ∧ Flat t ∧ t.length ≤ 36 := by
  refine ⟨(Str.ofString (toString i)).cps.toList, (SX.S_tl _).symm, fun c hc => ?_, ?_⟩
  · unfold brk
    rw [if_neg, if_neg]
    · intro z; subst z; exact int_text_free 41 (.inl (by decide)) i hc
    · intro z; subst z; exact int_text_free 40 (.inl (by decide)) i hc
  · have nn : ∀ n : Nat, n < 10 ^ 35 → (Str.ofString (toString ((n : Nat) : Int))).cps.toList.length ≤ 35 := fun n hn => by
      rw [show (Str.ofString (toString ((n : Nat) : Int))).cps.toList = TL.numL n from TL.tl_num n]
      exact TL.numL_len (by decide) hn
    by_cases h0 : i < 0
    · have e := PyProof.Rows.len_text_negI h0
      have e2 : (0 - i) = ((i.natAbs : Nat) : Int) := by omega
      rw [e2] at e
      have := nn i.natAbs h
      have l1 : (Str.ofString (toString ((i.natAbs : Nat) : Int))).length = (Str.ofString (toString ((i.natAbs : Nat) : Int))).cps.toList.length := by simp [Str.length]
      have l2 : (Str.ofString (toString i)).length = (Str.ofString (toString i)).cps.toList.length := by simp [Str.length]
      omega
    · have e2 : i = ((i.natAbs : Nat) : Int) := by omega
      rw [e2]
      exact Nat.le_trans (nn _ h) (by decide)
theorem log_small {i : Int} (h : i.natAbs < 10 ^ 35) : i.natAbs.log2 < 1920 := by
  have h2 : i.natAbs < 2 ^ 1920 := Nat.lt_of_lt_of_le h (by decide +kernel)
  exact PySem.Flt.log2_lt_of (by decide) h2
@[irreducible] def rAS : R2 := fun x y H Q => ∃ i j, x = .str i ∧ y = .str j ∧ i.length + j.length ≤ sizeLine ∧ Q (.str (i ++ j)) H
theorem op_addS {X : Cx} : OpR X (binaryOp .Add) rAS := by unfold rAS; exact op_add_str
theorem addS {x y : Str} {a b : Tx} {H : Hp} {Q : VK} (hx : x = S a) (hy : y = S b) (h : a.length + b.length ≤ 16000000) (q : Q (.str (S (a ++ b))) H) : rAS (.str x) (.str y) H Q := by
  subst hx hy
  unfold rAS
  refine ⟨_, _, rfl, rfl, ?_, ?_⟩
  · rw [SX.S_len, SX.S_len]; exact Nat.le_trans h (by decide)
  · rw [SX.S_cat]; exact q
def gmk : List (Key × V) := [(.inr "plus", .str " + "), (.inr "minus", .str " - "), (.inr "times", .str " * ")]
theorem mkv {x : Tx} (h : x ∈ opsL) : (valV gmk (.inr (S x)) = none) ∨ ∃ k : Mk, valV gmk (.inr (S x)) = some (.str (S k.tx)) := by
  have e1 : ("plus" : Str) = S Mk.plus.nm := by decide +kernel
  have e2 : ("minus" : Str) = S Mk.minus.nm := by decide +kernel
  have e3 : ("times" : Str) = S Mk.times.nm := by decide +kernel
  have ne : ∀ {a b : Tx}, a ≠ b → ¬ ((.inr (S a) : Key) = .inr (S b)) := fun n z => n (S_inj (by injection z))
  simp only [opsL, List.mem_cons, List.not_mem_nil, or_false] at h
  unfold gmk
  rw [e1, e2, e3]
  rcases h with rfl | rfl | rfl | rfl | rfl
  · exact .inr ⟨.plus, by rw [valV_pos rfl]; exact congrArg (fun z => some (V.str z)) (by decide +kernel)⟩
  · exact .inr ⟨.minus, by rw [valV_neg (ne (by decide)), valV_pos rfl]; exact congrArg (fun z => some (V.str z)) (by decide +kernel)⟩
  · exact .inr ⟨.times, by rw [valV_neg (ne (by decide)), valV_neg (ne (by decide)), valV_pos rfl]; exact congrArg (fun z => some (V.str z)) (by decide +kernel)⟩
  · exact .inl (by rw [valV_neg (ne (by decide)), valV_neg (ne (by decide)), valV_neg (ne (by decide))]; rfl)
  · exact .inl (by rw [valV_neg (ne (by decide)), valV_neg (ne (by decide)), valV_neg (ne (by decide))]; rfl)
theorem ops_flat {x : Tx} (h : x ∈ opsL) : Flat x ∧ x.length ≤ 5 := by
  simp only [opsL, List.mem_cons, List.not_mem_nil, or_false] at h
  rcases h with rfl | rfl | rfl | rfl | rfl <;> exact ⟨by unfold Flat; decide, by decide⟩
theorem Mk.len (k : Mk) : k.tx.length ≤ 4 := by cases k <;> decide
section
variable {P : Program} {w : World} {K : PySem.W.Frag} {mg : Str → Option Value} {base : Heap} {A : Ads}
def sp_lat (n : Nat) : Sp := fun vs H Q _ => ∃ (v : V) (a : GA), vs = [v] ∧ Tp H a.pd v ∧ a.ok ∧ a.hgt < n ∧ a.sz ≤ 100000 ∧ ∀ (H' : Hp) (t : Tx), Same H H' → t.length ≤ 40 * a.sz → Bal (a.hgt : Nat) t → Q (.str (S t)) H'
theorem lat_step (T : Txt K mg A) {n : Nat} (G__law_amount_text : Cl P w K mg base CX0 (1 + n) "_law_amount_text" (sp_lat n)) : Cl P w K mg base CX0 (1 + n + 1) "_law_amount_text" (sp_lat (n + 1)) := by
  refine T.f__law_amount_text.cl sc__law_amount_text (fun vs H Q E h => ?_) (fun f cdv A' outer s H vs Q E hr h => ?_)
  · obtain ⟨v, a, rfl, _⟩ := h; rfl
  obtain ⟨v, a, rfl, hd, ok, hh, hz, q⟩ := h
  refine ⟨_, (pss_cons (ps_set (i := 1) sc__law_amount_text.nd rfl (Or.inl rfl) (pe_ix ix_tup (pv 0) pe_int (fun _ _ => rfl))) (pss_cons (ps_if (pt_cmpR op_in_seq (pv 1) (pe_tup (pa_cons pe_str (pa_cons pe_str (pa_cons pe_str pa_nil)))) (by rfl)) (pss_one (ps_ret (pe_callTy call_str_any (by rfl) T.z_str (by decide +kernel) (pa_cons (pe_ix ix_tup (pv 0) (pe_un un_neg pe_int) (fun _ _ => rfl)) pa_nil)))) pss_nil) (pss_cons (ps_par (i := 2) (j := 3) (by rfl) sc__law_amount_text.nd rfl rfl (by decide) rfl rfl (pa_cons (pcl G__law_amount_text hr (by omega) rfl (pa_cons (pe_ix ix_tup (pv 0) pe_int (fun _ _ => rfl)) pa_nil)) (pa_cons (pcl G__law_amount_text hr (by omega) rfl (pa_cons (pe_ix ix_tup (pv 0) pe_int (fun _ _ => rfl)) pa_nil)) pa_nil)) (by rfl)) (pss_cons (ps_set (i := 4) sc__law_amount_text.nd rfl (Or.inl rfl) (pe_disp (pps_cons pe_str pe_str (pps_cons pe_str pe_str (pps_cons pe_str pe_str pps_nil))) (by rfl) (by rfl) (fun z => by cases z) (by decide))) (pss_cons (ps_if (pt_cmp (pc_din (room1 hr) (pv 1) (pv 4)) (by rfl)) (pss_one (ps_ret (pe_op op_addS (pe_op op_addS (pe_op op_addS (pe_op op_addS pe_str (pv 2)) (pe_dget (room1 hr) (pv 4) (pv 1) (fun _ _ => rfl))) (pv 3)) pe_str))) pss_nil) (pss_one (ps_ret (pe_op op_addS (pe_op op_addS (pe_op op_addS (pe_op op_addS (pe_op op_addS (pv 1) pe_str) (pv 2)) pe_str) (pv 3)) pe_str)))))))), ?_⟩
  have plain3 : ∀ {x : Tx} {b : Bool}, decide (x ∈ [tNumber, Word.price.tx, Word.time.tx]) = b → inV (.str (S x)) [.str "number", .str "price", .str "time"] = b := fun {x b} hb => by
    have e1 : ("number" : Str) = S tNumber := by decide +kernel
    have e2 : ("price" : Str) = S Word.price.tx := by decide +kernel
    have e3 : ("time" : Str) = S Word.time.tx := by decide +kernel
    rw [e1, e2, e3]
    show inV (.str (S x)) (([tNumber, Word.price.tx, Word.time.tx].map S).map V.str) = b
    rw [inV_str, ← hb]
    refine decide_eq_decide.mpr ⟨fun h => ?_, fun h => List.mem_map.mpr ⟨x, h, rfl⟩⟩
    obtain ⟨y, hy, e⟩ := List.mem_map.mp h
    rw [← S_inj e]; exact hy
  cases a with
  | num i =>
    obtain ⟨a0, us, rfl, ha, y, ys, rfl, hy, y1, ys1, rfl, hy1, hn⟩ := hd
    cases hy; cases hy1; cases hn
    refine ⟨_, rfl, ?_⟩
    refine ⟨_, _, _, _, rfl, rfl, SqT.of (ha), (by first | exact at0 | exact at1 | exact at2 | rfl), ?_⟩
    dsimp only [gName]
    refine Evl.q_when (b := true) (fun H1 e1 Q1 q1 => ⟨_, rfl, (by show 3 ≤ sizeLine; decide), fun p np => ⟨p, _, rfl, .inr (SqT.of upd_same), rfl, rfl, true, congrArg V.bl (by rw [if_neg Bool.false_ne_true]; exact plain3 (x := tNumber) rfl), q1 _ (Evl.Ex.new np)⟩⟩) (fun _ H1 e1 => ?_) (fun hb => Bool.noConfusion hb)
    obtain ⟨t, et, ft, lt⟩ := str_int (i := i) (by have := ok.1; have := ok.2; omega)
    refine ⟨_, rfl, _, rfl, _, _, _, _, rfl, rfl, SqT.of (e1 _ _ ha), rfl, .inl ⟨_, rfl, log_small (by have := ok.1; have := ok.2; omega), ?_⟩⟩
    have q := q H1 t e1 (by show _ ≤ 40 * 1; omega) (ft.bal (by show (0 : Int) ≤ ((0 : Nat) : Int); omega))
    rw [← et] at q
    exact q
  | leaf x =>
    obtain ⟨a0, us, rfl, ha, y, ys, rfl, hy, hn⟩ := hd
    cases hy; cases hn
    refine ⟨_, rfl, ?_⟩
    refine ⟨_, _, _, _, rfl, rfl, SqT.of (ha), (by first | exact at0 | exact at1 | exact at2 | rfl), ?_⟩
    dsimp only [gName]
    have hx : decide (x ∈ [tNumber, Word.price.tx, Word.time.tx]) = true := by rcases ok with rfl | rfl <;> decide
    have fx : Flat x ∧ x.length ≤ 5 := by rcases ok with rfl | rfl <;> exact ⟨word_flat _, by decide⟩
    refine Evl.q_when (b := true) (fun H1 e1 Q1 q1 => ⟨_, rfl, (by show 3 ≤ sizeLine; decide), fun p np => ⟨p, _, rfl, .inr (SqT.of upd_same), rfl, rfl, true, congrArg V.bl (by rw [if_neg Bool.false_ne_true]; exact plain3 hx), q1 _ (Evl.Ex.new np)⟩⟩) (fun _ H1 e1 => ?_) (fun hb => Bool.noConfusion hb)
    refine ⟨_, rfl, _, rfl, _, _, _, _, rfl, rfl, SqT.of (e1 _ _ ha), rfl, .inr ⟨_, rfl, ?_⟩⟩
    exact q H1 x e1 (by show _ ≤ 40 * 1; omega) (fx.1.bal (by show (0 : Int) ≤ ((0 : Nat) : Int); omega))
  | bin x a b =>
    obtain ⟨a0, us, rfl, ha, y, ys, rfl, hy, y1, ys1, rfl, hy1, y2, ys2, rfl, hy2, hn⟩ := hd
    cases hy; cases hn
    obtain ⟨hx, oka, okb⟩ := ok
    have hz : 1 + a.sz + b.sz ≤ 100000 := hz
    have hh : 1 + max a.hgt b.hgt < n + 1 := hh
    obtain ⟨fx, xl⟩ := ops_flat hx
    refine ⟨_, rfl, ?_⟩
    refine ⟨_, _, _, _, rfl, rfl, SqT.of (ha), (by first | exact at0 | exact at1 | exact at2 | rfl), ?_⟩
    dsimp only [gName]
    have hx3 : decide (x ∈ [tNumber, Word.price.tx, Word.time.tx]) = false := by
      have hx := hx
      simp only [opsL, List.mem_cons, List.not_mem_nil, or_false] at hx
      rcases hx with rfl | rfl | rfl | rfl | rfl <;> decide
    refine Evl.q_when (b := false) (fun H1 e1 Q1 q1 => ⟨_, rfl, (by show 3 ≤ sizeLine; decide), fun p np => ⟨p, _, rfl, .inr (SqT.of upd_same), rfl, rfl, false, congrArg V.bl (by rw [if_neg Bool.false_ne_true]; exact plain3 hx3), q1 _ (Evl.Ex.new np)⟩⟩) (fun hb => Bool.noConfusion hb) (fun _ H1 e1 => ?_)
    refine ⟨_, rfl, ?_⟩
    refine ⟨_, _, _, _, rfl, rfl, SqT.of (e1 _ _ ha), (by first | exact at0 | exact at1 | exact at2 | rfl), ?_⟩
    refine ⟨y1, a, rfl, hy1.up (Same.tups e1), oka, by omega, by omega, fun H2 t1 s2 l1 b1 => ?_⟩
    refine ⟨_, rfl, ?_⟩
    refine ⟨_, _, _, _, rfl, rfl, SqT.of (s2 _ _ (e1 _ _ ha)), (by first | exact at0 | exact at1 | exact at2 | rfl), ?_⟩
    refine ⟨y2, b, rfl, hy2.up (Same.tups (Same.trans e1 s2)), okb, by omega, by omega, fun H3 t2 s3 l2 b2 => ?_⟩
    have s03 : Same H H3 := Same.trans e1 (s2.trans s3)
    refine ⟨_, _, rfl, ?_⟩
    dsimp only
    refine fun dc nd => ?_
    refine ⟨upd_same, gmk, rfl, by decide, ?_⟩
    have s4 : Same H3 (upd (upd H3 dc (.dK [])) dc (.dK (mergeK [] gmk))) := Evl.Ex.mut (Evl.Ex.new nd) nd
    have h4 : (upd (upd H3 dc (.dK [])) dc (.dK (mergeK [] gmk))) dc = some (.dK gmk) := upd_same
    generalize upd (upd H3 dc (.dK [])) dc (.dK (mergeK [] gmk)) = H4 at s4 h4 ⊢
    have s04 := s03.trans s4
    dsimp only [gName]
    have o1 : ("(" : Str) = S [40] := by decide +kernel
    have o2 : (")" : Str) = S [41] := by decide +kernel
    have o3 : (", " : Str) = S [44, 32] := by decide +kernel
    refine Evl.q_when (b := (valV gmk (.inr (S x))).isSome) (et_refl fun H5 e5 Q1 q1 => ⟨_, rfl, _, rfl, dc, _, rfl, DGet.k (k := .inr (S x)) (e5 _ _ h4), _, rfl, q1⟩) (fun hb H5 e5 => ?_) (fun hb H5 e5 => ?_)
    · rcases mkv hx with h | ⟨k, hk⟩
      · rw [h] at hb; exact Bool.noConfusion hb
      · have kl := Mk.len k
        have dg := DGet.k (k := .inr (S x)) (e5 _ _ h4)
        rw [hk] at dg
        refine ⟨_, rfl, ?_⟩
        refine addS (a := [40]) (b := t1) o1 rfl (by show 1 + t1.length ≤ _; omega) ?_
        refine ⟨_, rfl, _, rfl, dc, _, rfl, dg, ?_⟩
        refine addS (a := [40] ++ t1) (b := k.tx) rfl rfl (by simp; omega) ?_
        refine ⟨_, rfl, ?_⟩
        refine addS (a := [40] ++ t1 ++ k.tx) (b := t2) rfl rfl (by simp; omega) ?_
        refine addS (a := [40] ++ t1 ++ k.tx ++ t2) (b := [41]) rfl o2 (by simp; omega) ?_
        refine q H5 _ (s04.trans e5) (by show _ ≤ 40 * (1 + a.sz + b.sz); simp; omega) ?_
        have e : [40] ++ t1 ++ k.tx ++ t2 ++ [41] = 40 :: ((t1 ++ k.tx ++ t2) ++ [41]) := by simp
        rw [e]
        have bb : Bal ((max a.hgt b.hgt : Nat) : Int) (t1 ++ k.tx ++ t2) := ((b1.up (by omega)).app ((mk_flat k).bal (by omega))).app (b2.up (by omega))
        exact bb.br.up (by show _ ≤ ((1 + max a.hgt b.hgt : Nat) : Int); omega)
    · refine ⟨_, rfl, ?_⟩
      refine addS (a := x) (b := [40]) rfl o1 (by show x.length + 1 ≤ _; omega) ?_
      refine ⟨_, rfl, ?_⟩
      refine addS (a := x ++ [40]) (b := t1) rfl rfl (by simp; omega) ?_
      refine addS (a := x ++ [40] ++ t1) (b := [44, 32]) rfl o3 (by simp; omega) ?_
      refine ⟨_, rfl, ?_⟩
      refine addS (a := x ++ [40] ++ t1 ++ [44, 32]) (b := t2) rfl rfl (by simp; omega) ?_
      refine addS (a := x ++ [40] ++ t1 ++ [44, 32] ++ t2) (b := [41]) rfl o2 (by simp; omega) ?_
      refine q H5 _ (s04.trans e5) (by show _ ≤ 40 * (1 + a.sz + b.sz); simp; omega) ?_
      have e : x ++ [40] ++ t1 ++ [44, 32] ++ t2 ++ [41] = x ++ (40 :: ((t1 ++ [44, 32] ++ t2) ++ [41])) := by simp
      rw [e]
      have bb : Bal ((max a.hgt b.hgt : Nat) : Int) (t1 ++ [44, 32] ++ t2) := ((b1.up (by omega)).app (Flat.bal comma_flat (by omega))).app (b2.up (by omega))
      exact (fx.bal (by omega)).app (bb.br.up (by show _ ≤ ((1 + max a.hgt b.hgt : Nat) : Int); omega))
theorem ok_law_amount_text (T : Txt K mg A) : ∀ n : Nat, Cl P w K mg base CX0 (1 + n) "_law_amount_text" (sp_lat n)
  | 0 => T.f__law_amount_text.none fun vs H Q E ⟨_, _, _, _, _, h, _⟩ => absurd h (Nat.not_lt_zero _)
  | n + 1 => lat_step T (ok_law_amount_text T n)
end
end K06
end Sec_G6
section Sec_G7
set_option Elab.async false
set_option linter.all false
set_option maxRecDepth 100000
set_option maxHeartbeats 4000000
namespace K06
open PySem PySem.Spec PyProof.Rows L2
open SX (S)
/-! ### the drawing: texts of deals -/
inductive GP where
  | int (n : Nat) | shr (n m : Int) | sgn (k : Mk) (a b : GA) | amt (a : GA) | deal (d : GD)
def GP.pd : GP → PyData
  | .int n => .int (n : Nat)
  | .shr n m => .tuple [.int n, .int m]
  | .sgn k a b => .tuple [st k.nm, a.pd, b.pd]
  | .amt a => a.pd
  | .deal d => d.pd
def GP.sz : GP → Nat
  | .int _ => 1
  | .shr _ _ => 2
  | .sgn _ a b => 1 + a.sz + b.sz
  | .amt a => a.sz
  | .deal d => d.sz
def GP.hgt : GP → Nat
  | .int _ => 0
  | .shr _ _ => 0
  | .sgn _ a b => max a.hgt b.hgt
  | .amt a => a.hgt
  | .deal d => d.hgt
def GP.ok : GP → Prop
  | .int n => n ≤ 9
  | .shr n m => shB n ∧ shB m
  | .sgn k a b => k ∈ signs ∧ a.ok ∧ b.ok
  | .amt a => a.ok
  | .deal d => d.ok
def GD.wd : GD → Word
  | .nul => .none | .coin _ => .coin | .one x _ => x | .two x _ _ => x | .fig _ _ => .later | .sgn x _ _ _ _ => x | .amt _ _ => .scale | .shr _ _ _ => .by
def GD.parts : GD → List GP
  | .nul => []
  | .coin a => [.amt a]
  | .one _ d => [.deal d]
  | .two _ d e => [.deal d, .deal e]
  | .fig n d => [.int n, .deal d]
  | .sgn _ k a b d => [.sgn k a b, .deal d]
  | .amt a d => [.amt a, .deal d]
  | .shr n m d => [.shr n m, .deal d]
theorem GD.pd_eq (d : GD) : d.pd = .tuple (st d.wd.tx :: d.parts.map GP.pd) := by cases d <;> rfl
theorem GD.sz_eq (d : GD) : d.sz = 1 + (d.parts.map GP.sz).sum := by cases d <;> simp [GD.sz, GD.parts, GP.sz] <;> omega
theorem GD.ok_parts {d : GD} (h : d.ok) : ∀ g ∈ d.parts, g.ok := by
  have one : ∀ {a g : GP}, a.ok → g ∈ [a] → g.ok := fun ha hg => by rw [List.mem_singleton.mp hg]; exact ha
  have two : ∀ {a b g : GP}, a.ok → b.ok → g ∈ [a, b] → g.ok := fun ha hb hg => by
    rcases List.mem_cons.mp hg with rfl | hg
    · exact ha
    · exact one hb hg
  cases d with
  | nul => intro g hg; cases hg
  | coin a => exact fun g hg => one (a := .amt a) h hg
  | one x d => exact fun g hg => one (a := .deal d) h.2 hg
  | two x d e => exact fun g hg => two (a := .deal d) (b := .deal e) h.2.1 h.2.2 hg
  | fig n d => exact fun g hg => two (a := .int n) (b := .deal d) h.1 h.2 hg
  | sgn x k a b d => exact fun g hg => two (a := .sgn k a b) (b := .deal d) ⟨h.2.1, h.2.2.1, h.2.2.2.1⟩ h.2.2.2.2 hg
  | amt a d => exact fun g hg => two (a := .amt a) (b := .deal d) h.1 h.2 hg
  | shr n m d => exact fun g hg => two (a := .shr n m) (b := .deal d) ⟨h.1, h.2.1⟩ h.2.2 hg
theorem GD.wd_ok {d : GD} (h : d.ok) : d.wd ∈ forms := by
  cases d with
  | one x d => exact h.1
  | two x d e => exact h.1
  | sgn x k a b d => exact h.1
  | nul => show Word.none ∈ forms; decide
  | coin a => show Word.coin ∈ forms; decide
  | fig n d => show Word.later ∈ forms; decide
  | amt a d => show Word.scale ∈ forms; decide
  | shr n m d => show Word.by ∈ forms; decide
theorem inS {x : Tx} {ws : List Str} {xs : List Tx} (h : ws = xs.map S) : inV (.str (S x)) (ws.map V.str) = decide (x ∈ xs) := by
  rw [inV_str, h]
  refine decide_eq_decide.mpr ⟨fun h => ?_, fun h => List.mem_map.mpr ⟨x, h, rfl⟩⟩
  obtain ⟨y, hy, e⟩ := List.mem_map.mp h
  rw [← S_inj e]; exact hy
def sgW : List Tx := [Mk.below.nm, Mk.upto.nm]
def amW : List Tx := [tNumber, Word.price.tx, Word.time.tx, Mk.plus.nm, Mk.minus.nm, Mk.times.nm, Word.most.tx, Word.least.tx]
theorem sgW_eq : (["below", "upto"] : List Str) = sgW.map S := by decide +kernel
theorem amW_eq : (["number", "price", "time", "plus", "minus", "times", "most", "least"] : List Str) = amW.map S := by decide +kernel
theorem form_no {x : Word} (h : x ∈ forms) : decide (x.tx ∈ sgW) = false ∧ decide (x.tx ∈ amW) = false := by
  have : ∀ x ∈ forms, decide (x.tx ∈ sgW) = false ∧ decide (x.tx ∈ amW) = false := by decide
  exact this x h
theorem GA.wx {a : GA} (h : a.ok) : ∃ x rest, a.pd = .tuple (st x :: rest) ∧ decide (x ∈ sgW) = false ∧ decide (x ∈ amW) = true := by
  cases a with
  | num n => exact ⟨tNumber, _, rfl, by decide, by decide⟩
  | leaf x => rcases h with rfl | rfl <;> exact ⟨_, _, rfl, by decide, by decide⟩
  | bin x a b =>
    have hx := h.1
    refine ⟨x, _, rfl, ?_⟩
    simp only [opsL, List.mem_cons, List.not_mem_nil, or_false] at hx
    rcases hx with rfl | rfl | rfl | rfl | rfl <;> exact ⟨by decide, by decide⟩
theorem GD.hgt_parts {d : GD} : ∀ g ∈ d.parts, g.hgt < d.hgt := by
  have one : ∀ {a g : GP} {n : Nat}, a.hgt < n → g ∈ [a] → g.hgt < n := fun ha hg => by rw [List.mem_singleton.mp hg]; exact ha
  have two : ∀ {a b g : GP} {n : Nat}, a.hgt < n → b.hgt < n → g ∈ [a, b] → g.hgt < n := fun ha hb hg => by
    rcases List.mem_cons.mp hg with rfl | hg
    · exact ha
    · exact one hb hg
  cases d with
  | nul => intro g hg; cases hg
  | coin a => exact fun g hg => one (by simp only [GP.hgt, GD.hgt]; omega) hg
  | one x d => exact fun g hg => one (by simp only [GP.hgt, GD.hgt]; omega) hg
  | two x d e => exact fun g hg => two (by simp only [GP.hgt, GD.hgt]; omega) (by simp only [GP.hgt, GD.hgt]; omega) hg
  | fig n d => exact fun g hg => two (by simp only [GP.hgt, GD.hgt]; omega) (by simp only [GP.hgt, GD.hgt]; omega) hg
  | sgn x k a b d => exact fun g hg => two (a := .sgn k a b) (by simp only [GP.hgt, GD.hgt]; omega) (by simp only [GP.hgt, GD.hgt]; omega) hg
  | amt a d => exact fun g hg => two (by simp only [GP.hgt, GD.hgt]; omega) (by simp only [GP.hgt, GD.hgt]; omega) hg
  | shr n m d => exact fun g hg => two (a := .shr n m) (by simp only [GP.hgt, GD.hgt]; omega) (by simp only [GP.hgt, GD.hgt]; omega) hg
theorem GD.parts_len (d : GD) : d.parts.length ≤ 2 := by cases d <;> simp [GD.parts]
theorem GP.okz : ∀ g : GP, 1 ≤ g.sz
  | .int _ => Nat.le_refl 1
  | .shr _ _ => by show 1 ≤ 2; omega
  | .sgn _ _ _ => by show 1 ≤ 1 + _ + _; omega
  | .amt a => by have := a.hgt_lt; show 1 ≤ a.sz; omega
  | .deal d => by show 1 ≤ d.sz; rw [d.sz_eq]; omega
theorem sum_take {g : GP} {i : Nat} {ps : List GP} (h : ps[i]? = some g) : ((ps.take (i + 1)).map GP.sz).sum = ((ps.take i).map GP.sz).sum + g.sz := by
  obtain ⟨hi, e⟩ := List.getElem?_eq_some_iff.mp h
  rw [List.take_succ_eq_append_getElem hi, List.map_append, List.sum_append, e]
  simp
theorem sum_mem {g : GP} {ps : List GP} (h : g ∈ ps) : g.sz ≤ (ps.map GP.sz).sum := by
  induction ps with
  | nil => cases h
  | cons p ps ih =>
    rw [List.map_cons, List.sum_cons]
    rcases List.mem_cons.mp h with rfl | h
    · omega
    · have := ih h; omega
def lens (acc : List Tx) : Nat := (acc.map (·.length)).sum
theorem joinT {h : Int} (h0 : 0 ≤ h) : ∀ acc : List Tx, (∀ t ∈ acc, Bal h t) → ∃ t, Txt.join ", " (acc.map S) = S t ∧ Bal h t ∧ t.length ≤ lens acc + 2 * acc.length
  | [], _ => ⟨[], rfl, Flat.bal (fun c hc => by cases hc) h0, by simp⟩
  | [x], hb => ⟨x, rfl, hb x List.mem_cons_self, by simp [lens]⟩
  | x :: y :: r, hb => by
    obtain ⟨t, e, b, l⟩ := joinT h0 (y :: r) fun t ht => hb t (List.mem_cons_of_mem _ ht)
    refine ⟨x ++ [44, 32] ++ t, ?_, ((hb x List.mem_cons_self).app (Flat.bal comma_flat h0)).app b, ?_⟩
    · rw [TL.join_eq] at e ⊢
      show S x ++ (", " : Str) ++ Str.join ", " ((y :: r).map S) = _
      rw [e, show (", " : Str) = S [44, 32] by decide +kernel, SX.S_cat, SX.S_cat]
    · unfold lens at l ⊢
      simp only [List.map_cons, List.sum_cons, List.length_cons, List.length_append, List.length_nil] at l ⊢
      omega
section
variable {P : Program} {w : World} {K : PySem.W.Frag} {mg : Str → Option Value} {base : Heap} {A : Ads}
def sp_ldt (n : Nat) : Sp := fun vs H Q _ => ∃ (v : V) (d : GD), vs = [v] ∧ Tp H d.pd v ∧ d.ok ∧ d.hgt < n ∧ d.sz ≤ 100000 ∧ ∀ (H' : Hp) (t : Tx), Same H H' → t.length ≤ 40 * d.sz → Bal (d.hgt : Nat) t → Q (.str (S t)) H'
theorem ldt_step (T : Txt K mg A) {n : Nat} (G__law_amount_text : Cl P w K mg base CX0 (1 + n) "_law_amount_text" (sp_lat n)) (G__law_deal_text : Cl P w K mg base CX0 (1 + n) "_law_deal_text" (sp_ldt n)) : Cl P w K mg base CX0 (1 + n + 1) "_law_deal_text" (sp_ldt (n + 1)) := by
  refine T.f__law_deal_text.cl sc__law_deal_text (fun vs H Q E h => ?_) (fun f cdv A' outer s H vs Q E hr h => ?_)
  · obtain ⟨v, d, rfl, _⟩ := h; rfl
  obtain ⟨v, d, rfl, hd, ok, hh, hz, q⟩ := h
  refine ⟨_, (pss_cons (ps_if (pt_cmpR op_eq (pe_callB call_len_seq (by rfl) T.z_len (by decide +kernel) (pa_cons (pv 0) pa_nil)) pe_int (nomark _)) (pss_one (ps_ret (pe_ix ix_tup (pv 0) pe_int (fun _ _ => rfl)))) pss_nil) (pss_cons (ps_set (i := 1) sc__law_deal_text.nd rfl (Or.inl rfl) (pe_lst pa_nil)) (pss_cons (ps_for PassesOwn.never rfl (pi_tup (pe_slice sl_tupA (pv 0) (po_some pe_int) po_none)) (pg_name (i := 2) sc__law_deal_text.nd rfl (Or.inl rfl)) (pss_one (ps_if (pt_not (pt_val (pe_callB call_isi (by rfl) T.z_isinstance (by decide +kernel) (pa_cons (pv 2) (pa_cons (pe_bltn (by rfl) T.z_tuple (by decide +kernel) (v := .ty "tuple") rfl) pa_nil))))) (pss_one (ps_expr (pe_bm PySem.F.plainAttrs_list PySem.F.slot_list_append PySem.F.type_list_append mt_append (pv 1) (pa_cons (pe_callTy call_str_any (by rfl) T.z_str (by decide +kernel) (pa_cons (pv 2) pa_nil)) pa_nil)))) (pss_one (ps_if (pt_not (pt_val (pe_callB call_isi (by rfl) T.z_isinstance (by decide +kernel) (pa_cons (pe_ix ix_tup (pv 2) pe_int (fun _ _ => rfl)) (pa_cons (pe_bltn (by rfl) T.z_str (by decide +kernel) (v := .ty "str") rfl) pa_nil))))) (pss_one (ps_expr (pe_bm PySem.F.plainAttrs_list PySem.F.slot_list_append PySem.F.type_list_append mt_append (pv 1) (pa_cons (pe_op op_addS (pe_callTy call_str_any (by rfl) T.z_str (by decide +kernel) (pa_cons (pe_ix ix_tup (pv 2) pe_int (fun _ _ => rfl)) pa_nil)) (pe_ifExp (pt_cmpR op_eq (pe_ix ix_tup (pv 2) pe_int (fun _ _ => rfl)) pe_int (nomark _)) pe_str (pe_op op_addS pe_str (pe_callTy call_str_any (by rfl) T.z_str (by decide +kernel) (pa_cons (pe_ix ix_tup (pv 2) pe_int (fun _ _ => rfl)) pa_nil))))) pa_nil)))) (pss_one (ps_if (pt_cmpR op_in_seq (pe_ix ix_tup (pv 2) pe_int (fun _ _ => rfl)) (pe_tup (pa_cons pe_str (pa_cons pe_str pa_nil))) (by rfl)) (pss_cons (ps_set (i := 3) sc__law_deal_text.nd rfl (Or.inl rfl) (pe_ifExp (pt_cmpR op_eq (pe_ix ix_tup (pv 2) pe_int (fun _ _ => rfl)) pe_str (nomark _)) pe_str pe_str)) (pss_one (ps_expr (pe_bm PySem.F.plainAttrs_list PySem.F.slot_list_append PySem.F.type_list_append mt_append (pv 1) (pa_cons (pe_op op_addS (pe_op op_addS (pcl G__law_amount_text hr (by omega) rfl (pa_cons (pe_ix ix_tup (pv 2) pe_int (fun _ _ => rfl)) pa_nil)) (pv 3)) (pcl G__law_amount_text hr (by omega) rfl (pa_cons (pe_ix ix_tup (pv 2) pe_int (fun _ _ => rfl)) pa_nil))) pa_nil))))) (pss_one (ps_if (pt_cmpR op_in_seq (pe_ix ix_tup (pv 2) pe_int (fun _ _ => rfl)) (pe_tup (pa_cons pe_str (pa_cons pe_str (pa_cons pe_str (pa_cons pe_str (pa_cons pe_str (pa_cons pe_str (pa_cons pe_str (pa_cons pe_str pa_nil))))))))) (by rfl)) (pss_one (ps_expr (pe_bm PySem.F.plainAttrs_list PySem.F.slot_list_append PySem.F.type_list_append mt_append (pv 1) (pa_cons (pcl G__law_amount_text hr (by omega) rfl (pa_cons (pv 2) pa_nil)) pa_nil)))) (pss_one (ps_expr (pe_bm PySem.F.plainAttrs_list PySem.F.slot_list_append PySem.F.type_list_append mt_append (pv 1) (pa_cons (pcl G__law_deal_text hr (by omega) rfl (pa_cons (pv 2) pa_nil)) pa_nil))))))))))))) (pss_one (ps_ret (pe_op op_addS (pe_op op_addS (pe_op op_addS (pe_ix ix_tup (pv 0) pe_int (fun _ _ => rfl)) pe_str) (pe_join pe_str (pv 1))) pe_str)))))), ?_⟩
  rw [d.pd_eq] at hd
  obtain ⟨a0, us, rfl, ha, y, ys, rfl, hy, hys⟩ := hd
  cases hy
  have yl : ys.length = d.parts.length := by rw [hys.length, List.length_map]
  have pl := d.parts_len
  refine Evl.q_when (b := decide (d.parts = [])) (et_refl fun H1 e1 Q1 q1 => ?_) (fun hb H1 e1 => ?_) (fun hb H1 e1 => ?_)
  · refine ⟨_, rfl, ?_⟩
    refine ⟨_, _, rfl, .inr (SqT.of (e1 _ _ ha)), rfl, _, congrArg V.bl (decide_eq_decide.mpr ⟨fun h => ?_, fun h => ?_⟩), q1⟩
    · have h : ((ys.length + 1 : Nat) : Int) = 1 := by injection h
      exact List.length_eq_zero_iff.mp (by omega)
    · rw [h] at yl
      rw [show ys = [] from List.length_eq_zero_iff.mp yl]; rfl
  · have hb := of_decide_eq_true hb
    refine ⟨_, rfl, ?_⟩
    refine ⟨_, _, _, _, rfl, rfl, SqT.of (e1 _ _ ha), (by first | exact at0 | exact at1 | exact at2 | rfl), ?_⟩
    have hs := d.sz_eq
    refine q H1 d.wd.tx e1 ?_ ((word_flat _).bal (by omega))
    have : d.wd.tx.length ≤ 6 := by cases d.wd <;> decide
    omega
  have hb := of_decide_eq_false hb
  refine ⟨(by show 0 ≤ sizeLine; decide), fun l nl => ?_⟩
  have s2 : Same H1 (upd H1 l (.lst [])) := Same.new nl
  have h2 : (upd H1 l (.lst [])) l = some (.lst []) := upd_same
  generalize upd H1 l (.lst []) = H2 at s2 h2 ⊢
  have s02 : Same H H2 := Same.trans e1 s2
  have nlH : H l = none := by
    cases hz : H l with
    | none => rfl
    | some o => rw [e1 _ _ hz] at nl; cases nl
  dsimp only [gName]
  refine q_forNT (xs := ys) (eu_sl1 (Evl.ev_var rfl) (s02 _ _ ha)) (fun p i σ' H' => H' p = some (.tup ys) ∧ Same H H' ∧ ∃ (o2 o3 : Option V) (acc : List Tx), σ' = [some (.ref a0), some (.ref l), o2, o3] ∧ H' l = some (.lst (sts acc)) ∧ acc.length = i ∧ (∀ t ∈ acc, Bal ((d.hgt : Nat) - 1 : Int) t) ∧ lens acc ≤ 40 * ((d.parts.take i).map GP.sz).sum)
    (fun p H3 np e h => ⟨h, s02.trans e, _, _, [], rfl, e _ _ h2, rfl, (fun t h => by cases h), Nat.zero_le _⟩) (fun p i σ' H' _ h => SqT.of h.1) (fun p i v σ' H' hi hh2 => ?_) (fun p σ' H' hp => ?_)
  · obtain ⟨hp, s3, o2, o3, acc, rfl, hl, al, hbal, hlen⟩ := hh2
    obtain ⟨pd0, hpd, htp⟩ := hys.get hi
    rw [List.getElem?_map] at hpd
    cases hgi : d.parts[i]? with
    | none => rw [hgi] at hpd; cases hpd
    | some g =>
    rw [hgi] at hpd
    cases hpd
    have gm : g ∈ d.parts := List.mem_of_getElem? hgi
    have gok := GD.ok_parts ok g gm
    have gh := GD.hgt_parts g gm
    have gz := sum_mem gm
    have dz := d.sz_eq
    have ht := htp.up (Same.tups s3)
    have stk := sum_take hgi
    have il : i < d.parts.length := (List.getElem?_eq_some_iff.mp hgi).1
    have ap : ∀ {H4 : Hp} {σ2 : L2.St} (t : Tx) (o3' : Option V), Same H' H4 → σ2 = [some (.ref a0), some (.ref l), some v, o3'] → t.length ≤ 40 * g.sz → Bal (g.hgt : Nat) t → rAppend (.ref l) [.str (S t)] H4 fun _ H' => H' p = some (.tup ys) ∧ Same H H' ∧ ∃ (o2 o3 : Option V) (acc : List Tx), σ2 = [some (.ref a0), some (.ref l), o2, o3] ∧ H' l = some (.lst (sts acc)) ∧ acc.length = i + 1 ∧ (∀ t ∈ acc, Bal ((d.hgt : Nat) - 1 : Int) t) ∧ lens acc ≤ 40 * ((d.parts.take (i + 1)).map GP.sz).sum := fun {H4 σ2} t o3' s4 hσ tl tb => by
      refine ⟨l, sts acc, _, rfl, rfl, s4 _ _ hl, small _ (by unfold sts; rw [List.length_map]; omega), ?_, Evl.Ex.mut (Evl.Ex.trans s3 s4) nlH, some v, o3', acc ++ [t], hσ, ?_, ?_, fun t' ht' => ?_, ?_⟩
      · rw [upd_ne (fun z => by rw [z, hl] at hp; cases hp)]; exact s4 _ _ hp
      · rw [upd_same]; unfold sts; rw [List.map_append]; rfl
      · rw [List.length_append, al]; rfl
      · rcases List.mem_append.mp ht' with h | h
        · exact hbal t' h
        · rw [List.mem_singleton.mp h]; exact tb.up (by omega)
      · rw [stk]
        unfold lens at hlen ⊢
        rw [List.map_append, List.sum_append]
        show _ + (t.length + 0) ≤ _
        omega
    dsimp only [gName, List.set]
    have isT : ∀ {σ : L2.St} {H4 : Hp} {ds : List PyData}, g.pd = .tuple ds → Same H' H4 → σ[2]? = some (some v) → Evl.EvT (tNot (tB (tCB (rIsi K) (tCons (tVar 2) (tCons (tC (.ty "tuple")) tNil))))) σ H4 false := fun {σ H4 ds} hg s4 hs => Evl.et_is (Evl.et_not (a := true) (et_refl fun H5 e5 Q1 q1 => by
      have t1 := ht.up (Same.tups (s4.trans e5))
      rw [hg] at t1
      exact ⟨_, hs, _, _, _, _, _, rfl, .ty _, Tp.ty (K := K) t1, kit_ty (kit_tuple _), _, rfl, q1⟩)) rfl
    have isS : ∀ {σ : L2.St} {H4 : Hp} {e0 : PyData} {er : List PyData}, g.pd = .tuple (e0 :: er) → Same H' H4 → σ[2]? = some (some v) → Evl.EvT (tNot (tB (tCB (rIsi K) (tCons (tOp (rIxT K) (tVar 2) (tC (.int 0))) (tCons (tC (.ty "str")) tNil))))) σ H4 (!dStr e0) := fun {σ H4 e0 er} hg s4 hs => Evl.et_not (a := dStr e0) (et_refl fun H5 e5 Q1 q1 => by
      have t1 := ht.up (Same.tups (s4.trans e5))
      rw [hg] at t1
      obtain ⟨a1, zs, rfl, ha1, z0, zr, rfl, hz0, _⟩ := t1
      exact ⟨_, hs, _, _, _, _, rfl, rfl, SqT.of ha1, at0, _, _, _, _, _, rfl, .ty _, Tp.ty (K := K) hz0, kit_ty (kit_str _), _, rfl, q1⟩)
    have isW : ∀ {σ : L2.St} {H4 : Hp} {x : Tx} {er : List PyData} {te : TA} {ws : List Str} {xs : List Tx}, g.pd = .tuple (K06.st x :: er) → Same H' H4 → σ[2]? = some (some v) → ws = xs.map S → (∀ H5, Same H4 H5 → ∀ Q1 : List V → Hp → Prop, Q1 (ws.map V.str) H5 → te σ H5 Q1) → ws.length ≤ 10 → Evl.EvT (tTest (tOp (rIn K false) (tOp (rIxT K) (tVar 2) (tC (.int 0))) (tTup te))) σ H4 (decide (x ∈ xs)) := fun {σ H4 x er te ws xs} hg s4 hs hws hte hwl H5 e5 Q1 q1 => by
      have t1 := ht.up (Same.tups (s4.trans e5))
      rw [hg] at t1
      obtain ⟨a1, zs, rfl, ha1, z0, zr, rfl, hz0, _⟩ := t1
      cases hz0
      refine ⟨_, hs, _, _, _, _, rfl, rfl, SqT.of ha1, at0, hte H5 e5 _ ⟨small _ (by rw [List.length_map]; omega), fun p np => ?_⟩⟩
      refine ⟨p, ws.map V.str, rfl, .inr (SqT.of upd_same), rfl, all_flat _, _, rfl, ?_⟩
      rw [if_neg Bool.false_ne_true]
      have e := inS (x := x) hws
      rw [show inV (V.str ⟨x.toArray⟩) (ws.map V.str) = decide (x ∈ xs) from e]
      exact q1 _ (Evl.Ex.new np)
    cases g with
    | int n =>
      refine Evl.s_if (b := true) (Evl.et_is (Evl.et_not (a := false) (et_refl fun H4 e4 Q1 q1 => ?_)) rfl) (fun _ H4 e4 => ?_) (fun hb => Bool.noConfusion hb)
      · have t1 := ht.up (Same.tups e4)
        refine ⟨_, rfl, ?_⟩
        refine ⟨_, _, _, _, _, rfl, .ty _, Tp.ty (K := K) (t1), kit_ty (kit_tuple _), ?_⟩
        exact ⟨_, rfl, q1⟩
      · have hv : v = .int (n : Nat) := ht
        subst hv
        have gok : n ≤ 9 := gok
        obtain ⟨t, et, ft, lt⟩ := str_int (i := (n : Nat)) (by omega)
        have h := ap (σ2 := [some (.ref a0), some (.ref l), some (.int (n : Nat)), o3]) t o3 e4 rfl (by show _ ≤ 40 * 1; omega) (ft.bal (by omega))
        rw [← et] at h
        exact ⟨_, rfl, .inl ⟨rfl, _, Evl.sq_of (e4 _ _ hl)⟩, _, rfl, .inl ⟨_, rfl, log_small (by omega), h⟩⟩
    | shr x y =>
      refine Evl.s_if (isT rfl (Same.refl _) rfl) (fun hb => Bool.noConfusion hb) (fun _ H4 e4 => ?_)
      refine Evl.s_if (isS rfl e4 rfl) (fun _ H5 e5 => ?_) (fun hb => Bool.noConfusion hb)
      obtain ⟨bx, bz⟩ := gok
      unfold shB at bx bz
      have ht5 := ht.up (Same.tups (Same.trans e4 e5))
      obtain ⟨a1, zs, rfl, ha1, z0, zr, rfl, hz0, z1, zr1, rfl, hz1, hn⟩ := ht5
      cases hz0; cases hz1; cases hn
      obtain ⟨t1, et1, ft1, lt1⟩ := str_int (i := x) (by omega)
      obtain ⟨t2, et2, ft2, lt2⟩ := str_int (i := y) (by omega)
      have e45 := Same.trans e4 e5
      refine ⟨_, rfl, .inl ⟨rfl, _, Evl.sq_of (e45 _ _ hl)⟩, _, rfl, _, _, _, _, rfl, rfl, SqT.of ha1, at0, .inl ⟨_, rfl, log_small (by omega), ?_⟩⟩
      refine ⟨_, rfl, _, _, _, _, rfl, rfl, SqT.of ha1, at1, rfl, _, rfl, iteB (fun _ => ?_) (fun _ => ?_)⟩
      · refine addS (a := t1) (b := []) et1 lit_nil (by show t1.length + 0 ≤ _; omega) ?_
        exact ap (t1 ++ []) o3 e45 rfl (by show _ ≤ 40 * 2; simp; omega) ((ft1.bal (by omega)).app (Flat.bal (fun c hc => by cases hc) (by omega)))
      · refine ⟨_, rfl, _, _, _, _, rfl, rfl, SqT.of ha1, at1, .inl ⟨_, rfl, log_small (by omega), ?_⟩⟩
        refine addS (a := [47]) (b := t2) (by decide +kernel) et2 (by show 1 + t2.length ≤ _; omega) ?_
        refine addS (a := t1) (b := [47] ++ t2) et1 rfl (by simp; omega) ?_
        exact ap (t1 ++ ([47] ++ t2)) o3 e45 rfl (by show _ ≤ 40 * 2; simp; omega) ((ft1.bal (by omega)).app ((Flat.bal (by unfold Flat; decide) (by omega)).app (ft2.bal (by omega))))
    | sgn k a b =>
      obtain ⟨hk, oka, okb⟩ := gok
      have gz : 1 + a.sz + b.sz ≤ _ := gz
      have gh : max a.hgt b.hgt < d.hgt := gh
      have kl := Mk.len k
      refine Evl.s_if (isT rfl (Same.refl _) rfl) (fun hb => Bool.noConfusion hb) (fun _ H4 e4 => ?_)
      refine Evl.s_if (isS rfl e4 rfl) (fun hb => Bool.noConfusion hb) (fun _ H5 e5 => ?_)
      have e45 := Same.trans e4 e5
      refine Evl.s_if (b := true) (Evl.et_is (isW (ws := ["below", "upto"]) (xs := sgW) rfl e45 rfl sgW_eq (fun H6 _ Q1 q1 => q1) (by decide)) (by simp only [signs, List.mem_cons, List.not_mem_nil, or_false] at hk; rcases hk with rfl | rfl <;> decide)) (fun _ H6 e6 => ?_) (fun hb => Bool.noConfusion hb)
      have e46 := Same.trans e45 e6
      have ht6 := ht.up (Same.tups e46)
      obtain ⟨a1, zs, rfl, ha1, z0, zr, rfl, hz0, z1, zr1, rfl, hz1, z2, zr2, rfl, hz2, hn⟩ := ht6
      cases hz0; cases hn
      refine Evl.q_asg (v := .str (S k.tx)) (ev_refl fun H7 e7 Q1 q1 => ?_) (fun H7 e7 => ?_)
      · refine ⟨_, rfl, _, _, _, _, rfl, rfl, SqT.of (e7 _ _ ha1), at0, rfl, _, rfl, ?_⟩
        simp only [signs, List.mem_cons, List.not_mem_nil, or_false] at hk
        have eu : ("upto" : Str) = S Mk.upto.nm := by decide +kernel
        rcases hk with rfl | rfl
        · refine tF ?_ ?_
          · rw [eu]; exact decide_eq_false (fun z => absurd (S_inj (a := Mk.below.nm) (b := Mk.upto.nm) (by injection z)) (by decide))
          · show Q1 (.str " < ") H7
            rw [show (" < " : Str) = S Mk.below.tx by decide +kernel]; exact q1
        · refine tT ?_ ?_
          · rw [eu]; exact decide_eq_true rfl
          · show Q1 (.str " <= ") H7
            rw [show (" <= " : Str) = S Mk.upto.tx by decide +kernel]; exact q1
      have e47 := Same.trans e46 e7
      refine ⟨_, rfl, .inl ⟨rfl, _, Evl.sq_of (e47 _ _ hl)⟩, _, rfl, _, _, _, _, rfl, rfl, SqT.of (e7 _ _ ha1), at1, z1, a, rfl, hz1.up (Same.tups e7), oka, by omega, by omega, fun H8 t1 s8 l1 b1 => ?_⟩
      refine ⟨_, rfl, ?_⟩
      refine addS (a := t1) (b := k.tx) rfl rfl (by omega) ?_
      have e78 := Same.trans e7 s8
      refine ⟨_, rfl, _, _, _, _, rfl, rfl, SqT.of (e78 _ _ ha1), at2, z2, b, rfl, hz2.up (Same.tups e78), okb, by omega, by omega, fun H9 t2 s9 l2 b2 => ?_⟩
      refine addS (a := t1 ++ k.tx) (b := t2) rfl rfl (by simp; omega) ?_
      exact ap (t1 ++ k.tx ++ t2) (some (.str (S k.tx))) (Same.trans e47 (s8.trans s9)) rfl (by show _ ≤ 40 * (1 + a.sz + b.sz); simp; omega) (((b1.up (by show _ ≤ ((max a.hgt b.hgt : Nat) : Int); omega)).app ((mk_flat k).bal (by omega))).app (b2.up (by show _ ≤ ((max a.hgt b.hgt : Nat) : Int); omega)))
    | amt a =>
      have gz : a.sz ≤ _ := gz
      have gh : a.hgt < d.hgt := gh
      obtain ⟨x, er, hx, hs, ha8⟩ := GA.wx gok
      refine Evl.s_if (isT hx (Same.refl _) rfl) (fun hb => Bool.noConfusion hb) (fun _ H4 e4 => ?_)
      refine Evl.s_if (isS hx e4 rfl) (fun hb => Bool.noConfusion hb) (fun _ H5 e5 => ?_)
      have e45 := Same.trans e4 e5
      refine Evl.s_if (b := false) (Evl.et_is (isW (ws := ["below", "upto"]) (xs := sgW) hx e45 rfl sgW_eq (fun H6 _ Q1 q1 => q1) (by decide)) hs) (fun hb => Bool.noConfusion hb) (fun _ H6 e6 => ?_)
      have e46 := Same.trans e45 e6
      refine Evl.s_if (b := true) (Evl.et_is (isW (ws := ["number", "price", "time", "plus", "minus", "times", "most", "least"]) (xs := amW) hx e46 rfl amW_eq (fun H6 _ Q1 q1 => q1) (by decide)) ha8) (fun _ H7 e7 => ?_) (fun hb => Bool.noConfusion hb)
      have e47 := Same.trans e46 e7
      refine ⟨_, rfl, .inl ⟨rfl, _, Evl.sq_of (e47 _ _ hl)⟩, _, rfl, v, a, rfl, ht.up (Same.tups e47), gok, by omega, by omega, fun H8 t1 s8 l1 b1 => ?_⟩
      exact ap t1 o3 (Same.trans e47 s8) rfl l1 b1
    | deal d1 =>
      have gz : d1.sz ≤ _ := gz
      have gh : d1.hgt < d.hgt := gh
      obtain ⟨hs, ha8⟩ := form_no (GD.wd_ok gok)
      have hx : (GP.deal d1).pd = _ := d1.pd_eq
      refine Evl.s_if (isT hx (Same.refl _) rfl) (fun hb => Bool.noConfusion hb) (fun _ H4 e4 => ?_)
      refine Evl.s_if (isS hx e4 rfl) (fun hb => Bool.noConfusion hb) (fun _ H5 e5 => ?_)
      have e45 := Same.trans e4 e5
      refine Evl.s_if (b := false) (Evl.et_is (isW (ws := ["below", "upto"]) (xs := sgW) hx e45 rfl sgW_eq (fun H6 _ Q1 q1 => q1) (by decide)) hs) (fun hb => Bool.noConfusion hb) (fun _ H6 e6 => ?_)
      have e46 := Same.trans e45 e6
      refine Evl.s_if (b := false) (Evl.et_is (isW (ws := ["number", "price", "time", "plus", "minus", "times", "most", "least"]) (xs := amW) hx e46 rfl amW_eq (fun H6 _ Q1 q1 => q1) (by decide)) ha8) (fun hb => Bool.noConfusion hb) (fun _ H7 e7 => ?_)
      have e47 := Same.trans e46 e7
      refine ⟨_, rfl, .inl ⟨rfl, _, Evl.sq_of (e47 _ _ hl)⟩, _, rfl, v, d1, rfl, ht.up (Same.tups e47), gok, by omega, by omega, fun H8 t1 s8 l1 b1 => ?_⟩
      exact ap t1 o3 (Same.trans e47 s8) rfl l1 b1
  · obtain ⟨hp, s3, o2, o3, acc, rfl, hl, al, hbal, hlen⟩ := hp
    obtain ⟨g0, hg0⟩ : ∃ g0, g0 ∈ d.parts := by
      cases hp0 : d.parts with
      | nil => exact absurd hp0 hb
      | cons g r => exact ⟨g, List.mem_cons_self⟩
    have h1 := GD.hgt_parts g0 hg0
    obtain ⟨t, et, bt, lt⟩ := joinT (h := (d.hgt : Nat) - 1) (by omega) acc hbal
    have dz := d.sz_eq
    rw [yl, List.take_length] at hlen
    have al2 : acc.length ≤ 2 := by omega
    have wl : d.wd.tx.length ≤ 6 := by cases d.wd <;> decide
    have szl : ((acc.map S).map (·.length)).sum = lens acc := by unfold lens; rw [List.map_map]; refine congrArg List.sum (List.map_congr_left fun x _ => SX.S_len x)
    refine ⟨_, rfl, ?_⟩
    refine ⟨_, _, _, _, rfl, rfl, SqT.of (s3 _ _ ha), (by first | exact at0 | exact at1 | exact at2 | rfl), ?_⟩
    refine addS (a := d.wd.tx) (b := [40]) rfl (by decide +kernel) (by show _ + 1 ≤ _; omega) ?_
    refine ⟨⟨_, rfl⟩, _, rfl, _, l, acc.map S, rfl, rfl, .inl (SqL.of ?_), ?_, ?_⟩
    · rw [hl]; unfold sts; rw [List.map_map]; rfl
    · rw [szl, List.length_map, show ((", " : Str).length) = 2 by decide +kernel]; omega
    · rw [et]
      refine addS (a := d.wd.tx ++ [40]) (b := t) rfl rfl (by simp; omega) ?_
      refine addS (a := d.wd.tx ++ [40] ++ t) (b := [41]) rfl (by decide +kernel) (by simp; omega) ?_
      refine q _ _ s3 (by simp; omega) ?_
      have e : d.wd.tx ++ [40] ++ t ++ [41] = d.wd.tx ++ (40 :: (t ++ [41])) := by simp
      rw [e]
      exact ((word_flat _).bal (by omega)).app (bt.br.up (by omega))
theorem ok_law_deal_text (T : Txt K mg A) : ∀ n : Nat, Cl P w K mg base CX0 (1 + n) "_law_deal_text" (sp_ldt n)
  | 0 => T.f__law_deal_text.none fun vs H Q E ⟨_, _, _, _, _, h, _⟩ => absurd h (Nat.not_lt_zero _)
  | n + 1 => ldt_step T (ok_law_amount_text T n) (ok_law_deal_text T n)
end
end K06
end Sec_G7
section Sec_X7
set_option Elab.async false
set_option linter.all false
set_option maxRecDepth 100000
set_option maxHeartbeats 4000000
namespace K06
open PySem PySem.Spec PyProof.Rows L2
open SX (S)
/-! ### a text times an int -/
def rep (k : Nat) (a : Tx) : Tx := (List.replicate k a).flatten
theorem rep_len (k : Nat) (a : Tx) : (rep k a).length = k * a.length := by
  unfold rep
  rw [List.length_flatten, List.map_replicate, List.sum_replicate_nat]
theorem fold_rep (a : Tx) : ∀ (k : Nat) (acc : Array Nat), (List.replicate k a.toArray).foldl (· ++ ·) acc = acc ++ (rep k a).toArray
  | 0, acc => by show acc = acc ++ #[]; simp
  | k + 1, acc => by
    show (List.replicate k a.toArray).foldl (· ++ ·) (acc ++ a.toArray) = _
    rw [fold_rep a k]
    show acc ++ a.toArray ++ (rep k a).toArray = acc ++ (a ++ rep k a).toArray
    simp
def rRepS : R2 := fun x y H Q => ∃ (s : Str) (a : Tx) (k : Nat), x = .str s ∧ s = S a ∧ y = .int (k : Nat) ∧ k ≤ 3000 ∧ a.length ≤ 1000 ∧ Q (.str (S (rep k a))) H
theorem op_repS {X : Cx} : OpR X (binaryOp .Mult) rRepS := by
  intro pins s σ H x y v u Q I rx ry h
  obtain ⟨_, a, k, rfl, rfl, rfl, hk, ha, q⟩ := h
  obtain ⟨t, rfl⟩ := rx
  obtain ⟨t', rfl⟩ := ry
  have hl : (S a).length = a.length := SX.S_len a
  have hb : ∀ n : Nat, 1 ≤ n → n ≤ 3000 → ¬ (((S a).length : Int) > (2 ^ 63 - 1) / (n : Nat)) := fun n h1 h2 h => by
    have := Int.le_ediv_of_mul_le (a := 1000) (b := (2 ^ 63 - 1 : Int)) (c := (n : Nat)) (by omega) (by omega)
    rw [hl] at h
    omega
  have hm : (S a).length * k ≤ 3000000 := by
    rw [hl]
    exact Nat.mul_le_mul ha hk
  refine PySem.P.mul_str (by
    rw [decide_eq_false (by omega), decide_eq_false (by omega)]; rfl) (fun h1 _ => hb k (by omega) hk) (fun h1 _ => ?_) ?_
  · show decide ((S a).length * k > sizeLine) = false
    exact decide_eq_false (Nat.not_lt.mpr (Nat.le_trans hm (by decide)))
  · by_cases h0 : (k : Int) < 1
    · rw [if_pos h0]
      have : k = 0 := by omega
      subst this
      exact ⟨by decide, .str _, H, I.tok _, ⟨_, rfl⟩, q⟩
    · rw [if_neg h0]
      by_cases h1 : ((k : Int) == 1 || (S a).length == 0) = true
      · rw [if_pos h1]
        have e : rep k a = a := by
          rw [Bool.or_eq_true] at h1
          rcases h1 with h1 | h1
          · have : k = 1 := by have := of_decide_eq_true h1; omega
            subst this
            show a ++ [] = a
            simp
          · rw [hl] at h1
            have : a = [] := List.length_eq_zero_iff.mp (by simpa using h1)
            subst this
            unfold rep
            simp
        rw [e] at q
        exact ⟨.str _, H, I, ⟨_, rfl⟩, q⟩
      · rw [if_neg h1]
        have e : (⟨(List.replicate (k : Int).toNat (S a).cps).foldl (· ++ ·) #[]⟩ : Str) = S (rep k a) := by
          show (⟨(List.replicate k a.toArray).foldl (· ++ ·) #[]⟩ : Str) = ⟨(rep k a).toArray⟩
          rw [fold_rep]
          simp
        rw [e]
        refine ⟨?_, .str _, H, I.tok _, ⟨_, rfl⟩, q⟩
        rw [SX.S_len, rep_len]
        rw [hl] at hm
        exact Nat.le_trans (show k * a.length ≤ 3000000 by rw [Nat.mul_comm]; exact hm) (by decide)
end K06
end Sec_X7
section Sec_G8
set_option Elab.async false
set_option linter.all false
set_option maxRecDepth 100000
set_option maxHeartbeats 4000000
namespace K06
open PySem PySem.Spec PyProof.Rows L2
open SX (S)
/-! ### the drawing: deep texts -/
def Wr (w : Tx) : Prop := ∃ p q, w = p ++ 40 :: q ∧ Flat p ∧ Flat q ∧ w.length ≤ 20
theorem Wr.bal {w t : Tx} {h : Int} (x : Wr w) (b : Bal h t) : Bal (h + 1) (w ++ t ++ [41]) := by
  obtain ⟨p, q, rfl, fp, fq, _⟩ := x
  have e : p ++ 40 :: q ++ t ++ [41] = p ++ (40 :: ((q ++ t) ++ [41])) := by simp
  rw [e]
  have := b.nn
  exact (fp.bal (by omega)).app (((fq.bal (by omega)).app b).br)
theorem wr_of {w : Tx} (p q : Tx) (e : w = p ++ 40 :: q) (fp : Flat p) (fq : Flat q) (hl : w.length ≤ 20) : Wr w := ⟨p, q, e, fp, fq, hl⟩
def wrL : List Tx := [[103,105,118,101,40], [97,110,121,40], [108,97,116,101,114,40,51,44,32], [111,110,99,101,40,49,32,60,32,112,114,105,99,101,44,32], [98,121,40,45,49,47,50,44,32], [115,99,97,108,101,40,50,44,32], [98,111,116,104,40,110,111,110,101,44,32]]
theorem wrL_eq : (["give(", "any(", "later(3, ", "once(1 < price, ", "by(-1/2, ", "scale(2, ", "both(none, "] : List Str) = wrL.map S := by decide +kernel
theorem wrL_ok : ∀ w ∈ wrL, Wr w := by
  intro w h
  simp only [wrL, List.mem_cons, List.not_mem_nil, or_false] at h
  rcases h with rfl | rfl | rfl | rfl | rfl | rfl | rfl
  · exact wr_of [103,105,118,101] [] rfl (by unfold Flat; decide) (by unfold Flat; decide) (by decide)
  · exact wr_of [97,110,121] [] rfl (by unfold Flat; decide) (by unfold Flat; decide) (by decide)
  · exact wr_of [108,97,116,101,114] [51,44,32] rfl (by unfold Flat; decide) (by unfold Flat; decide) (by decide)
  · exact wr_of [111,110,99,101] [49,32,60,32,112,114,105,99,101,44,32] rfl (by unfold Flat; decide) (by unfold Flat; decide) (by decide)
  · exact wr_of [98,121] [45,49,47,50,44,32] rfl (by unfold Flat; decide) (by unfold Flat; decide) (by decide)
  · exact wr_of [115,99,97,108,101] [50,44,32] rfl (by unfold Flat; decide) (by unfold Flat; decide) (by decide)
  · exact wr_of [98,111,116,104] [110,111,110,101,44,32] rfl (by unfold Flat; decide) (by unfold Flat; decide) (by decide)
def deL : List Tx := [[110,111,110,101], [99,111,105,110,40,112,114,105,99,101,41], [99,111,105,110,40,40,49,32,43,32,116,105,109,101,41,41], [110,111,110,101]]
theorem deL_eq : (["none", "coin(price)", "coin((1 + time))", "none"] : List Str) = deL.map S := by decide +kernel
theorem deL_ok : ∀ w ∈ deL, Bal 2 w ∧ w.length ≤ 20 := by
  intro w h
  simp only [deL, List.mem_cons, List.not_mem_nil, or_false] at h
  rcases h with rfl | rfl | rfl | rfl <;> exact ⟨⟨by decide, by decide⟩, by decide⟩
theorem pickS {ws : List Str} {xs : List Tx} (h : ws = xs.map S) (x : Int) (n : Nat) (hl : xs.length = n) (hn : 0 < n) : ∃ t, t ∈ xs ∧ atI (ws.map V.str) (x % (n : Nat)) = some (.str (S t)) := by
  obtain ⟨v, hv, hat⟩ := pickm (xs := ws.map V.str) x n (by rw [h, List.length_map, List.length_map, hl]) hn
  rw [h] at hv
  obtain ⟨s, hs, rfl⟩ := List.mem_map.mp hv
  obtain ⟨t, ht, rfl⟩ := List.mem_map.mp hs
  exact ⟨t, ht, hat⟩
section
variable {P : Program} {w : World} {K : PySem.W.Frag} {mg : Str → Option Value} {base : Heap} {A : Ads}
def sp_lde (K : PySem.W.Frag) : Sp := fun vs H Q _ => ∃ (c sp : Addr) (ns : List Int) (k : Nat), vs = [.ref c, .ref sp] ∧ Gen K c sp ns k H ∧ k + 1 < 1000000000 ∧
  ∀ (H' : Hp) (t : Tx), Drawn K c sp ns k 1 H H' → t.length ≤ 2000 → Bal 141 t → Q (.str (S t)) H'
theorem ok_law_deep (T : Txt K mg A) (G__law_cell : Cl P w K mg base CX0 1 "_law_cell" (sp_cell K)) : Cl P w K mg base CX0 2 "_law_deep" (sp_lde K) := by
  refine T.f__law_deep.cl sc__law_deep (fun vs H Q E h => ?_) (fun f cdv A' outer s H vs Q E hr h => ?_)
  · obtain ⟨c, sp, ns, k, rfl, _⟩ := h; rfl
  obtain ⟨c, sp, ns, k, rfl, g, hk, q⟩ := h
  refine ⟨_, (pss_cons (ps_set (i := 2) sc__law_deep.nd rfl (Or.inl rfl) (pcl G__law_cell hr (by omega) rfl (pa_cons (pv 0) (pa_cons (pv 1) pa_nil)))) (pss_cons (ps_set (i := 3) sc__law_deep.nd rfl (Or.inl rfl) (pe_ix ix_list (pe_lst (pa_cons pe_str (pa_cons pe_str (pa_cons pe_str (pa_cons pe_str pa_nil))))) (pe_op op_mod (pv 2) pe_int) (fun _ _ => rfl))) (pss_cons (ps_for PassesOwn.never rfl (pi_range1 (by rfl) T.z_range (pa_cons (pe_op op_mod (pe_op op_fdiv (pv 2) pe_int) (pe_ix ix_list (pe_lst (pa_cons pe_int (pa_cons pe_int pa_nil))) (pe_op op_mod (pe_op op_fdiv (pv 2) pe_int) pe_int) (fun _ _ => rfl))) pa_nil)) (pg_name (i := 4) sc__law_deep.nd rfl (Or.inl rfl)) (pss_cons (ps_set (i := 5) sc__law_deep.nd rfl (Or.inl rfl) (pe_lst (pa_cons pe_str (pa_cons pe_str (pa_cons pe_str (pa_cons pe_str (pa_cons pe_str (pa_cons pe_str (pa_cons pe_str pa_nil))))))))) (pss_cons (ps_set (i := 5) sc__law_deep.nd rfl (Or.inl rfl) (pe_ix ix_list (pv 5) (pe_op op_mod (pe_op op_add (pv 2) (pe_op op_mulX (pv 4) (pe_op op_fdiv (pv 2) pe_int))) pe_int) (fun _ _ => rfl))) (pss_one (ps_if (pt_cmpR op_lt (pe_callB call_len_str (by rfl) T.z_len (by decide +kernel) (pa_cons (pv 3) pa_nil)) pe_int (nomark _)) (pss_one (ps_set (i := 3) sc__law_deep.nd rfl (Or.inl rfl) (pe_op op_addS (pe_op op_addS (pv 5) (pv 3)) pe_str))) pss_nil))))) (pss_one (ps_ret (pv 3)))))), ?_⟩
  refine ⟨_, rfl, _, rfl, c, sp, ns, k, rfl, g, by omega, fun r H1 hr1 b1 h1 => ?_⟩
  have g1 := g.next b1 h1
  dsimp only [gName]
  obtain ⟨t0, ht0, hat⟩ := pickS deL_eq (r : Int) 4 rfl (by decide)
  obtain ⟨bal0, len0⟩ := deL_ok t0 ht0
  refine Evl.q_asg (v := .str (S t0)) (fun H2 e2 Q1 q1 => ?_) (fun H2 e2 => ?_)
  · refine ⟨(by show 4 ≤ sizeLine; decide), fun p np => ?_⟩
    refine ⟨_, rfl, _, _, rfl, rfl, (by show (0 : Int) < _; decide), ?_⟩
    exact ⟨_, _, _, _, rfl, rfl, SqL.of upd_same, hat, q1 _ (Evl.Ex.new np)⟩
  obtain ⟨v, hv, hat2⟩ := pickm (xs := [V.int 14, V.int 140]) ((r : Int) / 60) 2 rfl (by decide)
  have hx : ∃ u : Nat, v = .int (u : Nat) ∧ 0 < u ∧ u ≤ 140 := by
    simp only [List.mem_cons, List.not_mem_nil, or_false] at hv
    rcases hv with rfl | rfl
    · exact ⟨14, rfl, by decide, by decide⟩
    · exact ⟨140, rfl, by decide, by decide⟩
  obtain ⟨u, rfl, u0, u140⟩ := hx
  have m1 := Int.emod_nonneg ((r : Int) / 4) (show ((u : Nat) : Int) ≠ 0 by omega)
  have m2 := Int.emod_lt_of_pos ((r : Int) / 4) (show (0 : Int) < (u : Nat) by omega)
  refine Evl.q_forR1 (n := (r : Int) / 4 % (u : Nat)) (fun H3 e3 Q1 q1 => ?_) ⟨m1, by omega⟩ (fun i σ' H' => ∃ (o4 o5 : Option V) (t : Tx), σ' = [some (.ref c), some (.ref sp), some (.int (r : Nat)), some (.str (S t)), o4, o5] ∧ Same H1 H' ∧ Bal (2 + (i : Nat)) t ∧ t.length ≤ 2000) (fun H3 e3 => ⟨_, _, t0, rfl, Same.trans e2 e3, bal0.up (by omega), by omega⟩) (fun i σ' H' hi hP => ?_) (fun σ' H' hP => ?_)
  · refine ⟨_, rfl, _, _, rfl, rfl, ⟨by decide, by decide⟩, ?_⟩
    refine ⟨(by show 2 ≤ sizeLine; decide), fun p np => ?_⟩
    refine ⟨_, rfl, _, _, rfl, rfl, ⟨by decide, by decide⟩, _, _, rfl, rfl, (by show (0 : Int) < _; decide), ?_⟩
    refine ⟨_, _, _, _, rfl, rfl, SqL.of upd_same, hat2, _, _, rfl, rfl, (by show (0 : Int) < (u : Nat); omega), ?_⟩
    exact q1 _ (Evl.Ex.new np)
  · obtain ⟨o4, o5, t, rfl, s3, bt, tl⟩ := hP
    dsimp only [List.set]
    have il : i ≤ 140 := by omega
    obtain ⟨w0, hw0, hat3⟩ := pickS wrL_eq ((r : Int) + (i : Int) * ((r : Int) / 120)) 7 rfl (by decide)
    have wr := wrL_ok w0 hw0
    refine ⟨(by show 7 ≤ sizeLine; decide), fun p np => ?_⟩
    have s4 : Same H' (upd H' p (.lst [.str "give(", .str "any(", .str "later(3, ", .str "once(1 < price, ", .str "by(-1/2, ", .str "scale(2, ", .str "both(none, "])) := Same.new np
    have h4 : (upd H' p (.lst [.str "give(", .str "any(", .str "later(3, ", .str "once(1 < price, ", .str "by(-1/2, ", .str "scale(2, ", .str "both(none, "])) p = some (.lst [.str "give(", .str "any(", .str "later(3, ", .str "once(1 < price, ", .str "by(-1/2, ", .str "scale(2, ", .str "both(none, "]) := upd_same
    generalize upd H' p (.lst [.str "give(", .str "any(", .str "later(3, ", .str "once(1 < price, ", .str "by(-1/2, ", .str "scale(2, ", .str "both(none, "]) = H4 at s4 h4 ⊢
    dsimp only [gName, List.set]
    refine Evl.q_asg (v := .str (S w0)) (fun H5 e5 Q1 q1 => ?_) (fun H5 e5 => ?_)
    · refine ⟨_, rfl, _, rfl, _, rfl, _, rfl, _, _, rfl, rfl, ⟨by decide, by decide⟩, _, _, rfl, rfl, mulx_ok (a := 8) (b := 30) (by omega) (by omega) (by decide), _, _, rfl, rfl, _, _, rfl, rfl, (by show (0 : Int) < 7; decide), ?_⟩
      exact ⟨_, _, _, _, rfl, rfl, SqL.of (e5 _ _ h4), hat3, q1 _ (Evl.Ex.refl H5)⟩
    have s5 : Same H1 H5 := Same.trans s3 (Same.trans s4 e5)
    have wl : w0.length ≤ 20 := by obtain ⟨_, _, _, _, _, h⟩ := wr; exact h
    have e2 : ((2 : Int) + ((i + 1 : Nat) : Int)) = 2 + (i : Nat) + 1 := by omega
    refine Evl.s_when (b := decide (t.length < 1900)) (et_refl fun H6 e6 Q1 q1 => ?_) (fun hb H6 e6 => ?_) (fun hb H6 e6 => ?_)
    · refine ⟨_, rfl, _, rfl, small _ (by rw [SX.S_len]; omega), ?_⟩
      refine ⟨_, _, rfl, rfl, _, rfl, ?_⟩
      rw [SX.S_len, show decide ((t.length : Int) < 1900) = decide (t.length < 1900) from decide_eq_decide.mpr (by omega)]
      exact q1
    · have hb := of_decide_eq_true hb
      refine ⟨_, rfl, _, rfl, ?_⟩
      refine addS (a := w0) (b := t) rfl rfl (by omega) ?_
      refine addS (a := w0 ++ t) (b := [41]) rfl (by decide +kernel) (by simp; omega) ?_
      refine ⟨_, _, w0 ++ t ++ [41], rfl, Same.trans s5 e6, ?_, by simp; omega⟩
      rw [e2]
      exact wr.bal bt
    · exact ⟨_, _, t, rfl, Same.trans s5 e6, bt.up (by omega), tl⟩
  · obtain ⟨o4, o5, t, rfl, s3, bt, tl⟩ := hP
    exact ⟨_, rfl, q H' t ⟨b1.trans (Same.bt s3), k + 1, g1.next (Same.bt s3) (s3 _ _ h1), by omega, by omega⟩ tl (bt.up (by omega))⟩
end
end K06
end Sec_G8
section Sec_G9
set_option Elab.async false
set_option linter.all false
set_option maxRecDepth 100000
set_option maxHeartbeats 4000000
namespace K06
open PySem PySem.Spec PyProof.Rows L2
open SX (S)
/-! ### the drawing: the text -/
theorem net_rep (k : Nat) (a : Tx) : net (rep k a) = k * net a := by
  induction k with
  | zero => show (0 : Int) = 0 * net a; omega
  | succ k ih =>
    show net (a ++ rep k a) = _
    rw [net_app, ih, Int.natCast_add, Int.add_mul]
    omega
theorem mxp_rep {a : Tx} (h1 : net a = 1) (h2 : mxp a = 1) (k : Nat) : mxp (rep k a) ≤ k := by
  induction k with
  | zero => exact Int.le_refl 0
  | succ k ih =>
    show mxp (a ++ rep k a) ≤ _
    rw [mxp_app, h1, h2]
    omega
theorem mxp_repc {a : Tx} (h1 : net a ≤ 0) (h2 : mxp a = 0) (k : Nat) : mxp (rep k a) = 0 := by
  induction k with
  | zero => rfl
  | succ k ih =>
    show mxp (a ++ rep k a) = _
    rw [mxp_app, h2, ih]
    omega
def boL : Tx := [98,111,116,104,40,110,111,110,101,44,32]
def allBoth (i : Nat) : Tx := rep 166 boL ++ [99,111,105,110,40] ++ ([49,50,51].take i) ++ rep 167 [41]
theorem allBoth_len {i : Nat} (h : i ≤ 3) : (allBoth i).length ≤ 2001 := by
  unfold allBoth
  simp only [List.length_append, rep_len, List.length_take]
  show 166 * 11 + 5 + min i 3 + 167 * 1 ≤ 2001
  omega
theorem allBoth_mx {i : Nat} : mxp (allBoth i) ≤ 170 := by
  have fl : Flat ([49,50,51].take i) := fun c hc => by
    have := List.mem_of_mem_take hc
    simp only [List.mem_cons, List.not_mem_nil, or_false] at this
    rcases this with rfl | rfl | rfl <;> decide
  obtain ⟨f1, f2⟩ := fl.net
  have a := mxp_rep (a := boL) (by decide) (by decide) 166
  have b := net_rep 166 boL
  rw [show net boL = 1 by decide] at b
  have c := mxp_repc (a := [41]) (by decide) (by decide) 167
  have e1 : net [99,111,105,110,40] = 1 := by decide
  have e2 : mxp [99,111,105,110,40] = 1 := by decide
  unfold allBoth
  simp only [mxp_app, net_app, f1, f2, c, e1, e2, b]
  omega
/-- where a text stands, drawn so far -/
def TxS (K : PySem.W.Frag) (c sp : Addr) (ns : List Int) (k m : Nat) (H : Hp) (r L : Nat) (M : Int) (σ : L2.St) (H' : Hp) : Prop := ∃ (o4 o5 o6 o7 o8 o9 : Option V) (t : Tx), σ = [some (.ref c), some (.ref sp), some (.int (r : Nat)), some (.str (S t)), o4, o5, o6, o7, o8, o9] ∧ Drawn K c sp ns k m H H' ∧ t.length ≤ L ∧ mxp t ≤ M
theorem Drawn.same {K : PySem.W.Frag} {c sp : Addr} {ns : List Int} {k m : Nat} {H H1 H2 : Hp} (d : Drawn K c sp ns k m H H1) (s : Same H1 H2) : Drawn K c sp ns k m H H2 := by
  obtain ⟨b, k', g, h1, h2⟩ := d
  exact ⟨b.trans (Same.bt s), k', g.next (Same.bt s) (s _ _ g.hk), h1, h2⟩
theorem Drawn.more {K : PySem.W.Frag} {c sp : Addr} {ns : List Int} {k k1 m n : Nat} {H H1 H2 : Hp} (b : Bt sp H H1) (h1 : k ≤ k1) (h2 : k1 ≤ k + m) (D : Drawn K c sp ns k1 n H1 H2) : Drawn K c sp ns k (m + n) H H2 := by
  obtain ⟨b2, k', g, h3, h4⟩ := D
  exact ⟨b.trans b2, k', g, by omega, by omega⟩
theorem Drawn.le {K : PySem.W.Frag} {c sp : Addr} {ns : List Int} {k m n : Nat} {H H1 : Hp} (d : Drawn K c sp ns k m H H1) (h : m ≤ n) : Drawn K c sp ns k n H H1 := by
  obtain ⟨b, k', g, h1, h2⟩ := d
  exact ⟨b, k', g, h1, by omega⟩
theorem Drawn.deal {K : PySem.W.Frag} {c sp lf : Addr} {ns : List Int} {k k3 m m2 : Nat} {H H3 H4 H5 : Hp} (D : Bt sp H H3) (nl : H3 lf = none) (s : Same H3 H4) (h1 : k ≤ k3) (h2 : k3 ≤ k + m) (R : Dr K c sp lf ns k3 m2 H4 H5) : Drawn K c sp ns k (m + m2) H H5 := by
  obtain ⟨b2, _, ⟨k', g, h3, h4⟩, _⟩ := R
  refine ⟨fun a o n h => ?_, k', g, by omega, by omega⟩
  have h3 := D a o n h
  exact b2 a o n (fun z => by rw [z, nl] at h3; cases h3) (s _ _ h3)
def apL : List Tx := [[41], [32], [110,111,110,101], [120], [48]]
theorem apL_eq : ([")", " ", "none", "x", "0"] : List Str) = apL.map S := by decide +kernel
theorem apL_ok : ∀ w ∈ apL, mxp w = 0 ∧ w.length ≤ 4 := by decide
section
variable {P : Program} {w : World} {K : PySem.W.Frag} {mg : Str → Option Value} {base : Heap} {A : Ads}
def sp_ltx (K : PySem.W.Frag) : Sp := fun vs H Q _ => ∃ (c sp : Addr) (ns : List Int) (k : Nat), vs = [.ref c, .ref sp] ∧ Gen K c sp ns k H ∧ k + 60000 < 1000000000 ∧
  ∀ (H' : Hp) (t : Tx), Drawn K c sp ns k 60000 H H' → t.length ≤ 2001 → mxp t ≤ 170 → Q (.str (S t)) H'
theorem ok_law_text (T : Txt K mg A) (G__law_cell : Cl P w K mg base CX0 1 "_law_cell" (sp_cell K)) (G__law_deep : Cl P w K mg base CX0 2 "_law_deep" (sp_lde K)) (G__law_deal : Cl P w K mg base CX0 24 "_law_deal" (sp_ldl K 12)) (G__law_deal_text : Cl P w K mg base CX0 24 "_law_deal_text" (sp_ldt 23)) : Cl P w K mg base CX0 25 "_law_text" (sp_ltx K) := by
  refine T.f__law_text.cl sc__law_text (fun vs H Q E h => ?_) (fun f cdv A' outer s H vs Q E hr h => ?_)
  · obtain ⟨c, sp, ns, k, rfl, _⟩ := h; rfl
  obtain ⟨c, sp, ns, k, rfl, g, hk, q⟩ := h
  refine ⟨_, (pss_cons (ps_set (i := 2) sc__law_text.nd rfl (Or.inl rfl) (pcl G__law_cell hr (by omega) rfl (pa_cons (pv 0) (pa_cons (pv 1) pa_nil)))) (pss_cons (ps_if (pt_cmpR op_eq (pe_op op_mod (pe_op op_fdiv (pv 2) pe_int) pe_int) pe_int (nomark _)) (pss_one (ps_ret (pe_op op_addS (pe_op op_addS (pe_op op_addS (pe_op op_repS pe_str pe_int) pe_str) (pe_slice sl_str pe_str po_none (po_some (pe_op op_add pe_int (pe_op op_mod (pe_op op_fdiv (pv 2) pe_int) pe_int))))) (pe_op op_repS pe_str pe_int)))) pss_nil) (pss_cons (ps_set (i := 3) sc__law_text.nd rfl (Or.inl rfl) (pcl G__law_deep hr (by omega) rfl (pa_cons (pv 0) (pa_cons (pv 1) pa_nil)))) (Evl.pss_cut (ps_if (pt_cmpR op_gt (pe_op op_mod (pv 2) pe_int) pe_int (nomark _)) (pss_cons (ps_set (i := 4) sc__law_text.nd rfl (Or.inl rfl) (pe_lst (pa_cons pe_int (pa_cons (pe_op op_mod (pe_op op_fdiv (pv 2) pe_int) pe_int) (pa_cons (pe_op op_mod (pe_op op_fdiv (pv 2) pe_int) pe_int) pa_nil))))) (pss_one (ps_set (i := 3) sc__law_text.nd rfl (Or.inl rfl) (pcl G__law_deal_text hr (by omega) rfl (pa_cons (pcl G__law_deal hr (by omega) rfl (pa_cons (pv 0) (pa_cons (pv 1) (pa_cons (pv 4) (pa_cons (pe_op op_add pe_int (pe_op op_mod (pe_op op_fdiv (pv 2) pe_int) pe_int)) (pa_cons (pe_op op_add pe_int (pe_op op_mod (pe_op op_fdiv (pv 2) pe_int) pe_int)) pa_nil)))))) pa_nil))))) pss_nil) (Evl.pss_cut (ps_if (pt_cmpR op_eq (pe_op op_mod (pe_op op_fdiv (pv 2) pe_int) pe_int) pe_int (nomark _)) (pss_one (ps_set (i := 3) sc__law_text.nd rfl (Or.inl rfl) (pe_op op_addS (pv 3) (pe_ix ix_list (pe_lst (pa_cons pe_str (pa_cons pe_str (pa_cons pe_str (pa_cons pe_str (pa_cons pe_str pa_nil)))))) (pe_op op_mod (pe_op op_fdiv (pv 2) pe_int) pe_int) (fun _ _ => rfl))))) pss_nil) (pss_cons (ps_for PassesOwn.never rfl (pi_range1 (by rfl) T.z_range (pa_cons (pe_op op_mod (pe_op op_fdiv (pv 2) pe_int) pe_int) pa_nil)) (pg_name (i := 5) sc__law_text.nd rfl (Or.inl rfl)) (pss_cons (ps_set (i := 6) sc__law_text.nd rfl (Or.inl rfl) (pcl G__law_cell hr (by omega) rfl (pa_cons (pv 0) (pa_cons (pv 1) pa_nil)))) (pss_cons (ps_set (i := 7) sc__law_text.nd rfl (Or.inl rfl) (pe_op op_mod (pv 6) (pe_op op_add (pe_callB call_len_str (by rfl) T.z_len (by decide +kernel) (pa_cons (pv 3) pa_nil)) pe_int))) (pss_cons (ps_set (i := 8) sc__law_text.nd rfl (Or.inl rfl) (pe_ix ix_str pe_str (pe_op op_mod (pe_op op_fdiv (pv 6) pe_int) pe_int) (fun _ _ => rfl))) (pss_cons (ps_set (i := 9) sc__law_text.nd rfl (Or.inl rfl) (pe_op op_addS (pe_slice sl_str (pv 3) po_none (po_some (pv 7))) (pe_op op_repS (pv 8) (pe_callTy call_int1 (by rfl) T.z_int (by decide +kernel) (pa_cons (pe_cmpR op_gt (pe_op op_mod (pv 6) pe_int) pe_int (nomark _)) pa_nil))))) (pss_one (ps_set (i := 3) sc__law_text.nd rfl (Or.inl rfl) (pe_op op_addS (pv 9) (pe_slice sl_str (pv 3) (po_some (pe_op op_add (pv 7) (pe_callTy call_int1 (by rfl) T.z_int (by decide +kernel) (pa_cons (pe_cmpR op_lt (pe_op op_mod (pv 6) pe_int) pe_int (nomark _)) pa_nil)))) po_none))))))))) (Evl.pss_cut (ps_if (pt_cmpR op_eq (pe_op op_mod (pe_op op_fdiv (pv 2) pe_int) pe_int) pe_int (nomark _)) (pss_one (ps_set (i := 3) sc__law_text.nd rfl (Or.inl rfl) (pe_slice sl_str (pv 3) po_none (po_some (pe_op op_mod (pe_op op_fdiv (pv 2) pe_int) (pe_op op_add (pe_callB call_len_str (by rfl) T.z_len (by decide +kernel) (pa_cons (pv 3) pa_nil)) pe_int)))))) pss_nil) (pss_one (ps_ret (pe_slice sl_str (pv 3) po_none (po_some (pe_ix ix_list (pe_lst (pa_cons pe_int (pa_cons pe_int pa_nil))) (pe_op op_mod (pe_op op_fdiv (pv 2) pe_int) pe_int) (fun _ _ => rfl))))))))))))), ?_⟩
  refine ⟨_, rfl, _, rfl, c, sp, ns, k, rfl, g, by omega, fun r H1 hr1 b1 h1 => ?_⟩
  have g1 := g.next b1 h1
  have D1 : Drawn K c sp ns k 1 H H1 := ⟨b1, k + 1, g1, by omega, by omega⟩
  dsimp only [gName]
  refine Evl.q_when (b := decide (V.int ((r : Int) / 13 % 11) = V.int 1)) (et_refl fun H2 e2 Q1 q1 => ?_) (fun _ H2 e2 => ?_) (fun _ H2 e2 => ?_)
  · refine ⟨_, rfl, _, _, rfl, rfl, ⟨by decide, by decide⟩, _, _, rfl, rfl, (by show (0 : Int) < _; decide), ?_⟩
    exact ⟨rfl, _, rfl, q1⟩
  · have ei : (2 : Int) + (r : Int) / 143 % 2 = ((2 + r / 143 % 2 : Nat) : Int) := by omega
    refine ⟨_, boL, 166, rfl, by decide +kernel, rfl, by decide, by decide, ?_⟩
    refine addS (a := rep 166 boL) (b := [99,111,105,110,40]) rfl (by decide +kernel) (by rw [rep_len]; decide) ?_
    refine ⟨_, rfl, _, _, rfl, rfl, ⟨by decide, by decide⟩, _, _, rfl, rfl, (by show (0 : Int) < _; decide), ?_⟩
    refine ⟨_, _, rfl, rfl, _, rfl, _, rfl, by decide +kernel, ?_⟩
    have ec : cutS ("123" : Str) none (some ((2 : Int) + (r : Int) / 143 % 2)) = S (([49,50,51] : Tx).take (2 + r / 143 % 2)) := by rw [ei, show ("123" : Str) = S [49,50,51] by decide +kernel, cut_to]
    refine addS (a := rep 166 boL ++ [99,111,105,110,40]) (b := ([49,50,51] : Tx).take (2 + r / 143 % 2)) rfl ec (by simp only [List.length_append, rep_len, List.length_take]; show 166 * 11 + 5 + min _ 3 ≤ _; omega) ?_
    refine ⟨_, [41], 167, rfl, by decide +kernel, rfl, by decide, by decide, ?_⟩
    refine addS (a := rep 166 boL ++ [99,111,105,110,40] ++ ([49,50,51] : Tx).take (2 + r / 143 % 2)) (b := rep 167 [41]) rfl rfl (by simp only [List.length_append, rep_len, List.length_take]; show 166 * 11 + 5 + min _ 3 + 167 * 1 ≤ _; omega) ?_
    exact q H2 (allBoth (2 + r / 143 % 2)) ((D1.same e2).le (by omega)) (allBoth_len (by omega)) allBoth_mx
  have D2 := D1.same e2
  obtain ⟨b2, k2, g2, k2a, k2b⟩ := D2
  refine ⟨_, rfl, _, rfl, c, sp, ns, k2, rfl, g2, by omega, fun H3 t D3 tl bt => ?_⟩
  have D3 := Drawn.more b2 k2a k2b D3
  dsimp only [gName]
  refine Evl.q_cut (M := TxS K c sp ns k 55000 H r 2000000 141) ?_ fun σ' H' hM => ?_
  · refine Evl.s_when (b := decide (0 < (r : Int) % 4)) (et_refl fun H4 e4 Q1 q1 => ?_) (fun _ H4 e4 => ?_) (fun _ H4 e4 => ?_)
    · refine ⟨_, rfl, _, _, rfl, rfl, (by show (0 : Int) < _; decide), ?_⟩
      exact ⟨_, _, rfl, rfl, _, rfl, q1⟩
    · have D4 := D3.same e4
      obtain ⟨b4, k4, g4, k4a, k4b⟩ := D4
      refine ⟨_, rfl, _, _, rfl, rfl, ⟨by decide, by decide⟩, _, _, rfl, rfl, (by show (0 : Int) < _; decide), ?_⟩
      refine ⟨_, rfl, _, _, rfl, rfl, ⟨by decide, by decide⟩, _, _, rfl, rfl, (by show (0 : Int) < _; decide), ?_⟩
      refine ⟨(by show 3 ≤ sizeLine; decide), fun lf nl => ?_⟩
      have s5 : Same H4 (upd H4 lf (.lst [.int 26, .int ((r : Int) / 4 % 6), .int ((r : Int) / 24 % 4)])) := Same.new nl
      have h5 : (upd H4 lf (.lst [.int 26, .int ((r : Int) / 4 % 6), .int ((r : Int) / 24 % 4)])) lf = some (.lst [.int 26, .int ((r : Int) / 4 % 6), .int ((r : Int) / 24 % 4)]) := upd_same
      generalize upd H4 lf (.lst [.int 26, .int ((r : Int) / 4 % 6), .int ((r : Int) / 24 % 4)]) = H5 at s5 h5 ⊢
      dsimp only [gName]
      have em : (1 : Int) + (r : Int) / 96 % 12 = ((1 + r / 96 % 12 : Nat) : Int) := by omega
      have bm := bnd_mono (show 1 + r / 96 % 12 ≤ 12 by omega)
      rw [bnd12] at bm
      refine ⟨_, rfl, _, rfl, _, rfl, ?_⟩
      refine ⟨_, rfl, _, _, rfl, rfl, ⟨by decide, by decide⟩, _, _, rfl, rfl, (by show (0 : Int) < _; decide), ?_⟩
      refine ⟨_, _, rfl, rfl, ?_⟩
      refine ⟨_, rfl, _, _, rfl, rfl, ⟨by decide, by decide⟩, _, _, rfl, rfl, (by show (0 : Int) < _; decide), ?_⟩
      refine ⟨_, _, rfl, rfl, c, sp, lf, ns, k4, 1 + r / 96 % 12, _, _, _, _, congrArg (fun z => [V.ref c, .ref sp, .ref lf, .int z, .int (3 + (r : Int) / 1152 % 2)]) em, by omega, by omega, g4.next (Same.bt s5) (s5 _ _ g4.hk), (fun z => by rw [z, g4.hk] at nl; cases nl), SqL.apart g4.hc nl, h5, by omega, fun H6 v d R6 t6 o6 z6 g6 => ?_⟩
      have D6 := Drawn.deal b4 nl s5 k4a k4b R6
      refine ⟨v, d, rfl, t6, o6, by omega, by omega, fun H7 t7 s7 l7 b7 => ?_⟩
      exact ⟨_, _, _, _, _, _, t7, rfl, (D6.same s7).le (by omega), by omega, Int.le_trans b7.2 (by omega)⟩
    · exact ⟨_, _, _, _, _, _, t, rfl, (D3.same e4).le (by omega), by omega, bt.2⟩
  clear D3 bt tl
  obtain ⟨o4, o5, o6, o7, o8, o9, t, rfl, D3, tl, bt⟩ := hM
  refine Evl.q_cut (M := TxS K c sp ns k 55000 H r 2000010 141) ?_ fun σ' H' hM => ?_
  · refine Evl.s_when (b := decide (V.int ((r : Int) / 7 % 6) = V.int 1)) (et_refl fun H4 e4 Q1 q1 => ?_) (fun _ H4 e4 => ?_) (fun _ H4 e4 => ?_)
    · refine ⟨_, rfl, _, _, rfl, rfl, ⟨by decide, by decide⟩, _, _, rfl, rfl, (by show (0 : Int) < _; decide), ?_⟩
      exact ⟨rfl, _, rfl, q1⟩
    · obtain ⟨u, hu, hat⟩ := pickS apL_eq ((r : Int) / 42) 5 rfl (by decide)
      obtain ⟨um, ul⟩ := apL_ok u hu
      have nt := net_le t
      refine ⟨_, rfl, (by show 5 ≤ sizeLine; decide), fun p np => ?_⟩
      refine ⟨_, rfl, _, _, rfl, rfl, ⟨by decide, by decide⟩, _, _, rfl, rfl, (by show (0 : Int) < _; decide), ?_⟩
      refine ⟨_, _, _, _, rfl, rfl, SqL.of upd_same, hat, ?_⟩
      refine addS (a := t) (b := u) rfl rfl (by omega) ?_
      exact ⟨_, _, _, _, _, _, t ++ u, rfl, D3.same (Same.trans e4 (Same.new np)), by rw [List.length_append]; omega, by rw [mxp_app]; omega⟩
    · exact ⟨_, _, _, _, _, _, t, rfl, D3.same e4, by omega, bt⟩
  clear D3 bt tl
  obtain ⟨o4, o5, o6, o7, o8, o9, t, rfl, D3, tl, bt⟩ := hM
  refine Evl.q_forR1 (n := (r : Int) / 11 % 3) (fun H4 e4 Q1 q1 => ?_) ⟨by omega, by omega⟩ (fun i => TxS K c sp ns k (55000 + i) H r (2000010 + i) (141 + 2 * (i : Nat))) (fun H4 e4 => ⟨_, _, _, _, _, _, t, rfl, D3.same e4, tl, by omega⟩) (fun i σ' H' hi hP => ?_) (fun σ' H' hP => ?_)
  · refine ⟨_, rfl, _, _, rfl, rfl, ⟨by decide, by decide⟩, _, _, rfl, rfl, (by show (0 : Int) < _; decide), ?_⟩
    exact q1 _ (Evl.Ex.refl H4)
  · clear D3 bt tl
    obtain ⟨o4, o5, o6, o7, o8, o9, t, rfl, D3, tl, bt⟩ := hP
    have i3 : i < 3 := by omega
    obtain ⟨b3, k3, g3, k3a, k3b⟩ := D3
    refine ⟨_, rfl, _, rfl, c, sp, ns, k3, rfl, g3, by omega, fun x H5 hx b5 h5 => ?_⟩
    have D5 : Drawn K c sp ns k (55000 + i + 1) H H5 := ⟨b3.trans b5, k3 + 1, g3.next b5 h5, by omega, by omega⟩
    dsimp only [gName, List.set]
    have hS : (S t).length = t.length := SX.S_len t
    have al : x % (t.length + 1) < t.length + 1 := Nat.mod_lt _ (by omega)
    refine Evl.q_asg (v := .int ((x % (t.length + 1) : Nat) : Int)) (ev_refl fun H6 e6 Q1 q1 => ?_) (fun H6 e6 => ?_)
    · refine ⟨_, rfl, _, rfl, _, rfl, Nat.le_trans (show (S t).length ≤ 3000000 by omega) (by decide), _, _, rfl, rfl, _, _, rfl, rfl, (by show (0 : Int) < ((S t).length : Nat) + 1; omega), ?_⟩
      rw [Int.natCast_emod, show ((t.length + 1 : Nat) : Int) = ((S t).length : Nat) + 1 by rw [hS]; omega] at q1
      exact q1
    generalize x % (t.length + 1) = a at al ⊢
    obtain ⟨ch, hch, hat⟩ := pickm (xs := ("0123456789(),-/+*<= abcdefghilmnoprstuvy_\n" : Str).cps.toList) ((x : Int) / 2001) 42 (by decide +kernel) (by decide)
    refine Evl.q_asg (v := .str (S [ch])) (ev_refl fun H7 e7 Q1 q1 => ?_) (fun H7 e7 => ?_)
    · refine ⟨_, rfl, _, _, rfl, rfl, ⟨by decide, by decide⟩, _, _, rfl, rfl, (by show (0 : Int) < _; decide), ?_⟩
      exact ⟨_, _, ch, rfl, rfl, by decide +kernel, hat, q1⟩
    have big : ∀ {u : Tx}, u.length ≤ 3000000 → (S u).length ≤ sizeLine := fun h => by rw [SX.S_len]; exact Nat.le_trans h (by decide)
    have rl : ∀ e : Nat, e ≤ 1 → (rep e [ch]).length ≤ 1 := fun e he => by rw [rep_len]; show e * 1 ≤ 1; omega
    have e01 : ∀ b : Bool, (if b = true then (1 : Int) else 0) = ((if b = true then 1 else 0 : Nat) : Int) := fun b => by cases b <;> rfl
    have e1l : ∀ b : Bool, (if b = true then 1 else 0 : Nat) ≤ 1 := fun b => by cases b <;> decide
    refine Evl.q_asg (v := .str (S (t.take a ++ rep (if decide (0 < (x : Int) % 3) = true then 1 else 0) [ch]))) (ev_refl fun H8 e8 Q1 q1 => ?_) (fun H8 e8 => ?_)
    · refine ⟨_, rfl, _, rfl, _, rfl, _, rfl, big (by omega), _, rfl, ?_⟩
      refine ⟨_, rfl, _, _, rfl, rfl, (by show (0 : Int) < _; decide), ?_⟩
      refine ⟨_, _, rfl, rfl, .inr ⟨_, rfl, ?_⟩⟩
      refine ⟨_, [ch], (if decide (0 < (x : Int) % 3) = true then 1 else 0), rfl, rfl, congrArg V.int (e01 _), by have := e1l (decide (0 < (x : Int) % 3)); omega, by show 1 ≤ 1000; omega, ?_⟩
      refine addS (a := t.take a) (b := rep (if decide (0 < (x : Int) % 3) = true then 1 else 0) [ch]) (cut_to t a) rfl ?_ q1
      have := rl _ (e1l (decide (0 < (x : Int) % 3)))
      rw [List.length_take]
      omega
    have l1 := rl _ (e1l (decide (0 < (x : Int) % 3)))
    generalize rep (if decide (0 < (x : Int) % 3) = true then 1 else 0) [ch] = u at l1 ⊢
    have l2 := e1l (decide ((x : Int) % 3 < 2))
    have s8 : Same H5 H8 := Same.trans e6 (Same.trans e7 e8)
    refine ⟨_, rfl, _, rfl, _, rfl, ?_⟩
    refine ⟨_, rfl, _, _, rfl, rfl, (by show (0 : Int) < _; decide), ?_⟩
    refine ⟨_, _, rfl, rfl, .inr ⟨_, rfl, _, _, rfl, rfl, _, rfl, _, rfl, big (by omega), ?_⟩⟩
    have ec : cutS (S t) (some ((a : Int) + (if decide ((x : Int) % 3 < 2) = true then (1 : Int) else 0))) none = S (t.drop (a + (if decide ((x : Int) % 3 < 2) = true then 1 else 0 : Nat))) := by
      rw [e01, ← Int.natCast_add, cut_from]
    generalize (if decide ((x : Int) % 3 < 2) = true then 1 else 0 : Nat) = e2 at l2 ec
    refine addS (a := t.take a ++ u) (b := t.drop (a + e2)) rfl ec (by rw [List.length_append, List.length_take, List.length_drop]; omega) ?_
    refine ⟨_, _, _, _, _, _, t.take a ++ u ++ t.drop (a + e2), rfl, (D5.same s8).le (by omega), ?_, ?_⟩
    · rw [List.length_append, List.length_append, List.length_take, List.length_drop]; omega
    · have et : t = t.take a ++ ((t.drop a).take e2 ++ t.drop (a + e2)) := by
        rw [← List.drop_drop, List.take_append_drop, List.take_append_drop]
      have := mxp_edit (a := t.take a) (x := u) (y := (t.drop a).take e2) (b := t.drop (a + e2)) l1 (by rw [List.length_take]; omega)
      rw [← et] at this
      rw [List.append_assoc]
      omega
  clear D3 bt tl
  refine Evl.q_cut (M := TxS K c sp ns k 60000 H r 2000100 170) ?_ fun σ' H' hM => ?_
  · obtain ⟨o4, o5, o6, o7, o8, o9, t, rfl, D3, tl, bt⟩ := hP
    have hS : (S t).length = t.length := SX.S_len t
    have D3 := D3.le (show _ ≤ 60000 by omega)
    refine Evl.s_when (b := decide (V.int ((r : Int) / 33 % 9) = V.int 1)) (et_refl fun H4 e4 Q1 q1 => ?_) (fun _ H4 e4 => ?_) (fun _ H4 e4 => ?_)
    · refine ⟨_, rfl, _, _, rfl, rfl, ⟨by decide, by decide⟩, _, _, rfl, rfl, (by show (0 : Int) < _; decide), ?_⟩
      exact ⟨rfl, _, rfl, q1⟩
    · refine ⟨_, rfl, _, rfl, _, _, rfl, rfl, ⟨by decide, by decide⟩, _, rfl, _, rfl, Nat.le_trans (show (S t).length ≤ 3000000 by omega) (by decide), _, _, rfl, rfl, _, _, rfl, rfl, (by show (0 : Int) < ((S t).length : Nat) + 1; omega), _, rfl, _, rfl, Nat.le_trans (show (S t).length ≤ 3000000 by omega) (by decide), ?_⟩
      have ec : ((r : Int) / 297 % (((S t).length : Nat) + 1)) = ((r / 297 % (t.length + 1) : Nat) : Int) := by
        rw [hS, Int.natCast_emod, Int.natCast_ediv]; rfl
      refine ⟨o4, o5, o6, o7, o8, o9, t.take (r / 297 % (t.length + 1)), ?_, D3.same e4, ?_, ?_⟩
      · show List.set _ 3 _ = _
        rw [ec, cut_to]
        rfl
      · rw [List.length_take]; omega
      · have := mxp_take (r / 297 % (t.length + 1)) t
        omega
    · exact ⟨_, _, _, _, _, _, t, rfl, D3.same e4, by omega, by omega⟩
  obtain ⟨o4, o5, o6, o7, o8, o9, t, rfl, D3, tl, bt⟩ := hM
  have hS : (S t).length = t.length := SX.S_len t
  obtain ⟨v, hv, hat⟩ := pickm (xs := [V.int 2000, V.int 2001]) ((r : Int) / 5) 2 rfl (by decide)
  have hx : ∃ u : Nat, v = .int (u : Nat) ∧ u ≤ 2001 := by
    simp only [List.mem_cons, List.not_mem_nil, or_false] at hv
    rcases hv with rfl | rfl
    · exact ⟨2000, rfl, by decide⟩
    · exact ⟨2001, rfl, by decide⟩
  obtain ⟨u, rfl, ul⟩ := hx
  refine ⟨_, rfl, (by show 2 ≤ sizeLine; decide), fun p np => ?_⟩
  refine ⟨_, rfl, _, _, rfl, rfl, ⟨by decide, by decide⟩, _, _, rfl, rfl, (by show (0 : Int) < _; decide), ?_⟩
  refine ⟨_, _, _, _, rfl, rfl, SqL.of upd_same, hat, _, rfl, _, rfl, Nat.le_trans (show (S t).length ≤ 3000000 by omega) (by decide), ?_⟩
  rw [cut_to]
  exact q _ _ (D3.same (Same.new np)) (by rw [List.length_take]; omega) (Int.le_trans (mxp_take u t) bt)
end
end K06
end Sec_G9
section Sec_X8
set_option Elab.async false
set_option linter.all false
set_option maxRecDepth 100000
set_option maxHeartbeats 4000000
namespace K06
open PySem PySem.Spec PyProof.Rows L2
/-! ### try .. except C as n: .. and clauses behind it that no exception of the body comes to -/
def wFst (K : PySem.W.Frag) (c : Value) (i : Nat) (ts : Addr → Value → Option Addr → TS) (D : Ends) : WX := fun cls d σ H =>
  PySem.W.exmOne K cls c = some true ∧ ∀ a, H a = none → ts a cls d { nx := fun σ' H' => D.nx (σ'.set i none) H', rt := D.rt, bk := fun σ' H' => D.bk (σ'.set i none) H', ct := fun σ' H' => D.ct (σ'.set i none) H' } (σ.set i (some (.ref a))) H
theorem ps_try_fst {X : Cx} {x n : Str} {c : Value} {i : Nat} {body suite : List Stmt} {b₀ : Stmt} {np pos pos' : Pos} {hds : List ExceptHandler} {tb : WX → TS} {ts : Addr → Value → Option Addr → TS}
    (hs : X.stack = X.env :: X.outer) (hf : X.env.frame = some X.env.locals) (hN : X.N.Nodup) (hi : X.N[i]? = some n) (hln : X.env.kindOf n = some .local) (hc : Names X x c)
    (hb : ∀ (W : WX) (pn : List (Addr × Obj)) (xe : Value → Shared → Prop), Takes (X.tr pn xe) W → PassesOwn (model X.prog X.w) X.A X.env xe → PSs (X.tr pn xe) body (tb W))
    (hsu : ∀ (a : Addr) (oe : Obj) (cls : Value) (d : Option Addr) (pn : List (Addr × Obj)), Zc cls d oe → (∃ vs, oe.data = .fields vs) → PSs (X.suite a ((a, oe) :: pn)) (b₀ :: suite) (ts a cls d)) :
    PS X (.Try body (.ExceptHandler (some (.Name x np)) (some n) (b₀ :: suite) pos' :: hds) [] [] pos) (fun D σ H => tb (wFst X.K c i ts D) D σ H) := by
  refine ⟨fun pins s σ H D I h => ?_⟩
  have ok := I.ok
  have hfr : X.A.frames = some (X.env :: X.outer) := by rw [ok.frames, hs]
  refine wpAny_Try_except ?_
  have W0 := hb (wFst X.K c i ts D) (X.pn ++ pins) (fun e s₁ => wpAny (model X.prog X.w) X.A (noteFrame e X.env) (fun _ s₂ => wpAny (model X.prog X.w) X.A (setFlight e none) (fun _ s₃ =>
    wpAny (model X.prog X.w) X.A (handleBy e X.env (.ExceptHandler (some (.Name x np)) (some n) (b₀ :: suite) pos' :: hds)) (SP X pins D) X.xe s₃) X.xe s₂) X.xe s₁)
  refine wpAny_mono ((W0 (fun u s' xx => ?_) PassesOwn.looking).run [] s σ H D (I.toTry _) h) (fun f s1 hsp => ?_) (fun e s1 he => he)
  · obtain ⟨a, B, sI, pins', σ', H', cls, d, rfl, J', nb, up, sky, na, os, ag, hb1, hyes⟩ := xx
    have J : Inv X pins σ' H' sI := J'.ofTry ok
    have sky2 : Sky B (X.env :: X.outer) a (Zc cls d) X.env.locals s'.heap := by rw [← hs]; exact sky
    refine (show wpAny (model X.prog X.w) X.A (noteFrame (.ref a) X.env) _ _ _ from Sky.land Zc.steady hfr hf sky2 fun h3 fl3 up3 => ?_)
    have J3 : Inv X pins σ' H' { s' with heap := h3 } := J.landed nb fl3.1 (up.trans up3) os ag
    obtain ⟨oe3, vs3, he3, hz3, hd3⟩ := fl3.there
    have nfr : a ∉ frs (X.env :: X.outer) := fun hm => by
      obtain ⟨_, o', e', hnf⟩ := (fl3.2.2.1).mem hm
      rw [he3] at e'; cases e'
      exact hnf _ hd3
    have nL : a ≠ X.env.locals := fun z => nfr (List.mem_filterMap.mpr ⟨X.env, List.mem_cons_self, by rw [hf, z]⟩)
    have nF : a ∉ X.fs := fun hm => by
      obtain ⟨e, he, q⟩ := List.mem_filterMap.mp hm
      exact nfr (List.mem_filterMap.mpr ⟨e, List.mem_cons_of_mem _ he, q⟩)
    have S3 := J3.suite he3 hd3 na nL nF
    refine wpAny_handleBy_cons (codeAny_handlers_test ?_) (by intro q; cases q)
    have LT : PySem.W.Looks (model X.prog X.w) h3 (typeOf (.ref a)) cls := fun A Q E s k q => wpAny_typeOf_ref (k _ _ he3) (by rw [hz3.1]; exact q)
    have LM := PySem.W.exm_one (M := model X.prog X.w) (J3.kIn) LT hb1
    have test : ∀ {Q E : Value → Shared → Prop}, Q c { s' with heap := h3 } → wpAny (model X.prog X.w) (X.A.mark (some (.ref a))) (eval (.Name x np) X.env) Q E { s' with heap := h3 } := fun {Q E} q => by
      obtain ⟨hg, hdbg, hm | ⟨hm, hv, hnn⟩⟩ := hc
      · exact ld_glob (X := X.suite a ((a, oe3) :: (X.pn ++ pins))) S3 hg hm q hdbg
      · exact ld_blt (X := X.suite a ((a, oe3) :: (X.pn ++ pins))) S3 hg hm hv q hnn hdbg
    refine test (LM.here ?_)
    refine codeAny_handlers_suite_as (HandSPX.lands_againZ fl3 fun h4 fl4 up4 => ?_)
    have J4 : Inv X pins σ' H' { s' with heap := h4 } := J.landed nb fl4.1 ((up.trans up3).trans up4) os ag
    obtain ⟨oe4, vs4, he4, hz4, hd4⟩ := fl4.there
    have S4 := J4.suite he4 hd4 na nL nF
    refine store_ok (X := X.suite a ((a, oe4) :: (X.pn ++ pins))) (v := .ref a) S4 hN hi (.inl hln) rfl (fun s5 S5 => ?_) (.inr hln)
    refine wpAny_mono ((hsu a oe4 cls d (X.pn ++ pins) hz4 ⟨_, hd4⟩).run [] s5 _ H' _ S5 (hyes a na)) (fun f s6 hsp => ?_) (fun _ _ z => False.elim z)
    have fin : ∀ {σ6 : L2.St} {H6 : Hp} {Q : Shared → Prop}, Inv (X.suite a ((a, oe4) :: (X.pn ++ pins))) [] σ6 H6 s6 → (∀ s7, Inv X pins (σ6.set i none) H6 s7 → Q s7) →
        wpAny (model X.prog X.w) X.A (do bindName X.env n .none; unbindBehindTheSuite X.env n pos') (fun _ s7 => Q s7) X.xe s6 := fun S6 hq => gone_ok (S6.unsuite ok) hN hi hln hq
    cases f with
    | ret u => obtain ⟨v6, σ6, H6, S6, r6, q6⟩ := hsp; exact fin S6 fun s7 J7 => ⟨_, _, _, J7, r6, q6⟩
    | next => obtain ⟨σ6, H6, S6, q6⟩ := hsp; exact fin S6 fun s7 J7 => ⟨_, _, J7, q6⟩
    | brk => obtain ⟨σ6, H6, S6, q6⟩ := hsp; exact fin S6 fun s7 J7 => ⟨_, _, J7, q6⟩
    | cont => obtain ⟨σ6, H6, S6, q6⟩ := hsp; exact fin S6 fun s7 J7 => ⟨_, _, J7, q6⟩
  · cases f with
    | ret u => obtain ⟨v, σ', H', J', r, q⟩ := hsp; exact ⟨v, σ', H', J'.ofTry ok, r, q⟩
    | next => obtain ⟨σ', H', J', q⟩ := hsp; exact wpAny_execs_nil ⟨σ', H', J'.ofTry ok, q⟩
    | brk => obtain ⟨σ', H', J', q⟩ := hsp; exact ⟨σ', H', J'.ofTry ok, q⟩
    | cont => obtain ⟨σ', H', J', q⟩ := hsp; exact ⟨σ', H', J'.ofTry ok, q⟩
/-! ### isinstance(e, c), e the caught error of an own class that keeps a dict -/
structure IsC (K : PySem.W.Frag) (D : Addr) : Prop where
  xf : XfC K D
  cl : PySem.W.isClsIn K D = true
  ha : PySem.W.findIn K (.ref D) "__class__" = some (some (.builtin "object.__class__"))
  hn : PySem.W.specialIn K (.builtin "object.__class__") "__get__" = some (some (.builtin "getset_descriptor.__get__"))
  ht : PySem.W.takesIn K (.builtin "object.__class__") = some true
  hm : PySem.W.mroIn K D (.type "object") = some true
theorem IsC.kit {K : PySem.W.Frag} {D x : Addr} {ox : Obj} {od : Option Obj} (C : IsC K D) : PySem.W.KitX K (.ref x) (.ref D) (fun h => PySem.W.InstAt h x ox D od) := PySem.W.kitx_exc C.cl C.xf.ga C.xf.gg C.xf.exC C.ha C.hn C.ht C.hm
def rIsX (K : PySem.W.Frag) (cls : Value) (d : Option Addr) (D a : Addr) : List V → Hp → VK → Prop := fun xs H Q => cls = .ref D ∧ ∃ (dd : Addr) (fs : List (Str × V)) (c : V) (cv : Value) (b : Bool), d = some dd ∧ H dd = some (.xd fs) ∧ xs = [.ref a, c] ∧ (∀ u, RelV c u → u = cv) ∧ PySem.W.kitOne K (.ref D) cv = some b ∧ Q (.bl b) H
theorem call_isX {X : Cx} {a D : Addr} {oe : Obj} {cls : Value} {d : Option Addr} {pn : List (Addr × Obj)} (C : IsC X.K D) (hz : Zc cls d oe) (hf : ∃ vs, oe.data = .fields vs) : CallR (X.suite a ((a, oe) :: pn)) (.builtin "isinstance") (rIsX X.K cls d D a) := by
  intro pins s σ H xs us Q I r h
  obtain ⟨rfl, dd, fs, c, cv, b, rfl, hdd, rfl, hcv, e, q⟩ := h
  cases r with
  | cons rx rr =>
  cases rr with
  | cons rt rr =>
  cases rr
  cases rx
  have ec := hcv _ rt
  subst ec
  obtain ⟨hget, _⟩ := I.pin (a, oe) (List.mem_append_left _ List.mem_cons_self)
  obtain ⟨vs, hv⟩ := hf
  have hx : ObjOk X.prog X.w H s.heap dd (.xd fs) := I.hok dd _ hdd
  obtain ⟨mA, hns, hr⟩ := hx
  obtain ⟨od, ho, hl⟩ := lookIn_ns hns
  have J : PySem.W.InstAt s.heap a oe D (some od) := ⟨hget, hz.1, by unfold PySem.W.notCls; rw [hv] <;> rfl, by rw [hz.2]; exact ho⟩
  exact PySem.W.kia_one C.kit I.kIn J e (fun z => nomatch z) fun tk => ⟨.bl b, H, I.kept (t' := tk) fun _ _ z => z, rfl, q⟩
end K06
end Sec_X8
section Sec_X9
set_option Elab.async false
set_option linter.all false
set_option maxRecDepth 100000
set_option maxHeartbeats 4000000
namespace K06
open PySem PySem.Spec PyProof.Rows L2
/-! ### the law's own def: its promise at the caller alone, whose guards are told; repr of data -/
theorem call_reprD {X : Cx} (hg : X.A.guards = some []) (hu : X.A.units + 1000 < cLine) : CallR X (.builtin "repr") (fun xs H Q => ∃ (p : Addr) (d : PyData), xs = [.ref p] ∧ Dp X.K H (.ref p) d ∧ d.showable = true ∧ d.hasDict = false ∧ d.shown.length ≤ sizeLine ∧ d.depth ≤ 900 ∧ Q (.str d.shown) H) := by
  intro pins s σ H xs us Q I r h
  obtain ⟨p, d, rfl, hd, hs, hn, hz, hdp, q⟩ := h
  cases r with
  | cons rx rr =>
  cases rr
  cases rx
  obtain ⟨as, r1⟩ := Dp.reads I d (.ref p) (.ref p) hd rfl
  exact repr_of_reads' r1 hs (fun z => by rw [hn] at z; cases z) hg (by omega) (fun _ _ e => e) (fun h' u tk hk => ⟨.str d.shown, H, I.kept hk, ⟨_, rfl⟩, q⟩) hz
/-- a def's promise at one place of call -/
def RunAt (A : Around) (outer : List Env) (P : Program) (w : World) (K : PySem.W.Frag) (mg : Str → Option Value) (base : Heap) (CX : CXT) (f : Addr) (fd : FuncData) (ps : List Str) (sp : Sp) : Prop :=
  ∀ (s : Shared) (H : Hp) (args : Args) (us : List Value) (vs : List V) (Q : VK) (E : XK), Env0 P w K mg base A outer s H → BindsTo s fd args (ps.zip us) → Vals vs us → sp vs H Q E → codeAny (model P w) A (.call (.ref f) args) (CR CX outer P w H s Q E) s
theorem run_of {A : Around} {outer : List Env} {P : Program} {w : World} {K : PySem.W.Frag} {mg : Str → Option Value} {base : Heap} {k : Nat} {f : Addr} {x qual : Str} {st : Stmt} {fd : FuncData} {N ps : List Str} {sp : Sp}
    (F : L2.Fun K x qual st f fd) (S : FnScope N ps (defScope st)) (hr : Room (k + 1) A) (len : ∀ vs H Q E, sp vs H Q E → vs.length = ps.length)
    (hbody : ∀ (cdv : Value) (s : Shared) (H : Hp) (vs : List V) (Q : VK) (E : XK), sp vs H Q E →
      ∃ t, PSs (cxOf CX0 P w K mg base N qual (defScope st) f cdv A outer s H E).nox (defBody st) t ∧ t { nx := fun _ H' => Q .non H', rt := Q } (L2.start N vs) H) : RunAt A outer P w K mg base CX0 f fd ps sp := by
  obtain ⟨oc, od, kV, doc, pm, an, cdv, ct, osl, rfl, lk, hcd⟩ := F.ex
  intro s H args us vs Q E e0 hb r hsp
  have KX : K.In s.heap := e0.mod.kin.keeps fun b o e => (e0.bs b o e).1
  have nol : s.heap.NoLimit := e0.mod.nolimit.keeps fun b o e => (e0.bs b o e).1
  refine codeAny_call_function hr.depth (KX _ _ lk) rfl S.co S.gen rfl (PySem.W.codeRec_of KX hcd) (hb _ _ _ _ ?_)
  refine wpAny_newFunctionEnv_cells S.kind (fun ⟨n, v⟩ hy => ?_) fun env he s1 x1 => ?_
  · rcases S.par n (List.of_mem_zip hy).1 with q | q
    · exact .inl q
    · exact .inr ⟨q, PySem.W.cellsFrom_some _ _ _ (.inl q)⟩
  subst he
  refine ⟨nol.keeps x1.toInCall.keep, codeAny_func ?_⟩
  obtain ⟨t, ht, hq⟩ := hbody cdv s H vs Q E hsp
  have I := inv_start (CX := CX0) (P := P) (qual := qual) (E := E) S hr.hd e0 (len _ _ _ _ hsp) r x1
  refine wpAny_mono (ht.nox.run [] s1 (L2.start N vs) H _ I hq) (fun fl s' hs => ?_) fun e s' hs => hs
  cases fl with
  | ret u => obtain ⟨v, σ', H', J, rv, q⟩ := hs; exact ⟨v, H', J.os, J.bare, J.base, J.hok, rv, q⟩
  | next => obtain ⟨σ', H', J, q⟩ := hs; exact ⟨V.non, H', J.os, J.bare, J.base, J.hok, rfl, q⟩
  | brk => obtain ⟨_, _, _, q⟩ := hs; exact q.elim
  | cont => obtain ⟨_, _, _, q⟩ := hs; exact q.elim
/-- the caller's side: nothing is tracked but the script -/
theorem call_at {P : Program} {w : World} {K : PySem.W.Frag} {mg mb : Str → Option Value} {fa a : Addr} {fd : FuncData} {x : Str} {sp : Sp} {s₁ : Shared} {vs : List Value} {ns : List Int}
    (KX : K.In s₁.heap) (hns : s₁.heap.Ns mainGlobals mg) (hb : s₁.heap.Ns builtinsNs mb) (hbb : ∀ x : Str, x ≠ "__name__" → mb x = bootBuiltins x) (hlim : s₁.heap.NoLimit) (hg : s₁.gens = #[])
    (ha : s₁.heap.get? a = some { cls := .type "list", data := .seq vs.toArray }) (hi : IntsAre vs ns) (hl : ns.length ≤ sizeLine)
    (F : ∀ base : Heap, K.In base → base.Ns mainGlobals mg → RunAt callerA [] P w K mg base CX0 fa fd [x] sp) (hbind : ∀ (s : Shared) (u : Value), BindsTo s fd ⟨[u], []⟩ [(x, u)])
    (hsp : ∀ H : Hp, Only H → SqL K H a (ns.map V.int) → sp [.ref a] H (fun v _ => v = .bl true) fun _ _ _ => False) :
    codeAny (model P w) callerA (.call (.ref fa) ⟨[.ref a], []⟩) (fun r s' => r = .ok (.ret (.bool true)) ∧ OldK s₁.heap s'.heap ∧ s'.os = s₁.os ∧ AllBare s'.gens) s₁ := by
  have rv := vals_ints hi
  have core : ∀ H : Hp, Only H → SqL K H a (ns.map V.int) → HOk P w H s₁.heap → (∀ b u, H b = some u → b = a ∧ K.lookup a = none) →
      codeAny (model P w) callerA (.call (.ref fa) ⟨[.ref a], []⟩) (fun r s' => r = .ok (.ret (.bool true)) ∧ OldK s₁.heap s'.heap ∧ s'.os = s₁.os ∧ AllBare s'.gens) s₁ := by
    intro H hO hS hok hA
    have free : ∀ {b : Addr} {o : Obj}, s₁.heap.get? b = some o → (b = a → False) → H b = none := fun {b o} _ n => by
      cases q : H b with
      | none => rfl
      | some u => exact (n (hA b u q).1).elim
    have nsK : ∀ {b : Addr} {m : Str → Option Value}, s₁.heap.Ns b m → (hidT s₁.heap H).Ns b m := fun {b m} ⟨o, es, ep, e, d, r⟩ => ⟨o, es, ep, hidT_get e (free e fun z => by
      subst z
      rw [ha] at e; cases e
      have d' : Data.seq vs.toArray _ = Data.dict es ep := d
      cases d'), d, r⟩
    have hKb : K.In (hidT s₁.heap H) := fun b o e => hidT_get (KX b o e) (by
      cases q : H b with
      | none => rfl
      | some u =>
        obtain ⟨z, hk⟩ := hA b u q
        subst z
        rw [hk] at e; cases e)
    have hM : Mod K mg (hidT s₁.heap H) := ⟨hKb, nsK hns, ⟨mb, nsK hb, hbb⟩, let ⟨mc, h1, h2⟩ := hlim; ⟨mc, nsK h1, h2⟩⟩
    have e0 : Env0 P w K mg (hidT s₁.heap H) callerA [] s₁ H := ⟨rfl, hM, fun b o e => of_hidT e, Nat.le_of_eq (hidT_size _ _), trivial, fun b hb => absurd (show b ∈ ([] : List Addr) from hb) (by simp), hok, .of_eq hg⟩
    refine codeAny_mono (F _ hKb (nsK hns) s₁ H ⟨[.ref a], []⟩ [.ref a] [.ref a] _ _ e0 (hbind s₁ (.ref a)) (.cons rfl .nil) (hsp H hO hS)) fun r s' h => ?_
    cases r with
    | error e => exact (show False from h).elim
    | ok fl =>
      cases fl with
      | next => exact False.elim h
      | brk => exact False.elim h
      | cont => exact False.elim h
      | ret u =>
        obtain ⟨v, H', os, bare, un, hok', r', q⟩ := h
        obtain rfl : v = .bl true := q
        obtain rfl : u = Value.bool true := r'
        refine ⟨rfl, OldK.of_keep fun b o e => ?_, os, bare⟩
        cases q : H b with
        | none => exact un.keep b o e q (by intro z; exact absurd (show b ∈ ([] : List Addr) from z) (by simp)) (by simp)
        | some u =>
          rcases hO b with z | ⟨ob, xs, z⟩
          · rw [q] at z; cases z
          · obtain ⟨e1, _⟩ := hok b _ z
            obtain ⟨e2, _⟩ := hok' b _ (un.frzs b ob _ z)
            rw [e] at e1; cases e1
            exact e2
  cases hk : K.lookup a with
  | some o =>
    have e := KX a o hk
    rw [ha] at e
    cases e
    refine core (fun _ => none) (fun _ => .inl rfl) (.inr ⟨_, vs.toArray, _, hk, rfl, rfl, rfl, by rw [List.size_toArray, hi.length]; exact hl, by simpa using rv⟩) (fun b u z => by have z' : (none : Option HO) = some u := z; cases z') (fun b u z => by have z' : (none : Option HO) = some u := z; cases z')
  | none =>
    have at_ : ∀ b u, (if b = a then some (HO.frz { cls := .type "list", data := .seq vs.toArray } (.lst (ns.map V.int))) else none) = some u → b = a ∧ HO.frz { cls := .type "list", data := .seq vs.toArray } (.lst (ns.map V.int)) = u := fun b u z => by
      by_cases hb : b = a
      · rw [if_pos hb] at z; exact ⟨hb, Option.some.inj z⟩
      · rw [if_neg hb] at z; cases z
    refine core (fun b => if b = a then some (.frz { cls := .type "list", data := .seq vs.toArray } (.lst (ns.map V.int))) else none) (fun b => ?_) (.inl (.inr ⟨{ cls := .type "list", data := .seq vs.toArray }, if_pos rfl⟩)) (fun b u z => ?_) (fun b u z => ⟨(at_ b u z).1, hk⟩)
    · by_cases hb : b = a
      · exact .inr ⟨_, _, if_pos hb⟩
      · exact .inl (if_neg hb)
    · obtain ⟨rfl, rfl⟩ := at_ b u z
      exact ⟨ha, by rw [List.length_map]; exact hl, vs, _, rv, ha⟩
theorem walk_at {l : PySem.W.OpenLaw} {n : Nat} {q : Program} {loose : List Str} {XP : (Str → Option Value) → Heap → Prop} {YP : World → Heap → Prop} {d : DefRec} {K : Params → PySem.W.Frag} {sp : PySem.W.Frag → Sp} {x : Str}
    (hn : l.most = some n) (hn2 : n ≤ sizeLine) (hdf : d.params.defaults = []) (hY : ∀ (w : World) (h : Heap), YP w h → (K w.params).In h)
    (F : ∀ (w : World) (mg : Str → Option Value) (fa : Addr) (h : Heap), (K w.params).In h → h.Ns mainGlobals mg → mg d.name = some (.ref fa) →
      ∃ fd : FuncData, (∀ (s : Shared) (u : Value), BindsTo s fd ⟨[u], []⟩ [(x, u)]) ∧
        ∀ base : Heap, (K w.params).In base → base.Ns mainGlobals mg → RunAt callerA [] l.prog w (K w.params) mg base CX0 fa fd [x] (sp (K w.params)))
    (hsp : ∀ (w : World) (H : Hp) (a : Addr) (ns : List Int), ns.length ≤ n → (∀ z ∈ ns, Builtin.Int.intBits z ≤ 1048576) → Only H → SqL (K w.params) H a (ns.map V.int) → sp (K w.params) [.ref a] H (fun v _ => v = .bl true) fun _ _ _ => False) :
    PySem.W.WalkO q loose XP YP l.row.toRowW d [] (fun f vs => PySem.call f vs) := by
  refine Att.attach_callB hn hdf fun w s₀ s₁ mg mb fa o pm cd doc a vs ns G Y ho hd hcd hmg hobj hints hlen hbits hg => ?_
  have KX := hY w _ Y
  obtain ⟨fd, hb, hF⟩ := F w mg fa _ KX G.T.g hmg
  exact call_at KX G.T.g G.T.b G.T.builtins G.T.nolimit hg hobj hints (Nat.le_trans hlen hn2) hF hb fun H hO hS => hsp w H a ns hlen hbits hO hS
end K06
end Sec_X9
section Sec_P11
set_option Elab.async false
set_option linter.all false
set_option maxRecDepth 100000
set_option maxHeartbeats 4000000
namespace K06
open PySem PySem.Spec PyProof.Rows L2
open SX (S)
/-! ### what is found, as data; how it shows -/
structure Sh (d : PyData) (n h : Nat) : Prop where
  s : d.showable = true
  nd : d.hasDict = false
  len : d.shown.length ≤ n
  dep : d.depth ≤ h
theorem Sh.le {d : PyData} {n h n' h' : Nat} (x : Sh d n h) (a : n ≤ n') (b : h ≤ h') : Sh d n' h' := ⟨x.s, x.nd, Nat.le_trans x.len a, Nat.le_trans x.dep b⟩
theorem Sh.int {i : Int} (h : i.natAbs < 10 ^ 35) : Sh (.int i) 40 0 := by
  obtain ⟨t, e, _, l⟩ := str_int h
  refine ⟨decide_eq_true (log_small h), rfl, ?_, Nat.le_refl _⟩
  show (Str.ofString (toString i)).length ≤ 40
  rw [e, SX.S_len]
  omega
theorem Sh.word (w : Word) : Sh (st w.tx) 10 0 := ⟨rfl, rfl, by cases w <;> decide +kernel, Nat.le_refl _⟩
theorem Sh.mark (k : Mk) : Sh (st k.nm) 10 0 := ⟨rfl, rfl, by cases k <;> decide +kernel, Nat.le_refl _⟩
theorem Sh.number : Sh (st tNumber) 10 0 := ⟨rfl, rfl, by decide +kernel, Nat.le_refl _⟩
theorem cat_len (a b : Str) : (a ++ b).length = a.length + b.length := by
  have := SX.S_cat a.cps.toList b.cps.toList
  rw [SX.S_tl, SX.S_tl] at this
  rw [this, SX.S_len, List.length_append]
  simp [Str.length]
theorem Sh.t1 {a : PyData} {n h : Nat} (x : Sh a n h) : Sh (.tuple [a]) (n + 3) (h + 1) := by
  refine ⟨?_, ?_, ?_, ?_⟩
  · simp only [PyData.showable, PyData.showableAll, x.s, Bool.and_self]
  · simp only [PyData.hasDict, PyData.hasDictAll, x.nd, Bool.or_self]
  · have := x.len
    simp only [PyData.shown, PyData.shownAll, tupleText]
    show ((("(" : Str) ++ a.shown) ++ (",)" : Str)).length ≤ _
    rw [cat_len, cat_len]
    show 1 + _ + 2 ≤ _
    omega
  · have := x.dep
    simp only [PyData.depth, PyData.depthAll]
    omega
theorem Sh.t2 {a b : PyData} {n m h k : Nat} (x : Sh a n h) (y : Sh b m k) : Sh (.tuple [a, b]) (n + m + 4) (max h k + 1) := by
  refine ⟨?_, ?_, ?_, ?_⟩
  · simp only [PyData.showable, PyData.showableAll, x.s, y.s, Bool.and_self]
  · simp only [PyData.hasDict, PyData.hasDictAll, x.nd, y.nd, Bool.or_self]
  · have := x.len
    have := y.len
    simp only [PyData.shown, PyData.shownAll, tupleText]
    show ((("(" : Str) ++ (a.shown ++ (", " : Str) ++ b.shown)) ++ (")" : Str)).length ≤ _
    rw [cat_len, cat_len, cat_len, cat_len]
    show 1 + (_ + 2 + _) + 1 ≤ _
    omega
  · have := x.dep
    have := y.dep
    simp only [PyData.depth, PyData.depthAll]
    omega
theorem Sh.t3 {a b c : PyData} {n m l h k j : Nat} (x : Sh a n h) (y : Sh b m k) (z : Sh c l j) : Sh (.tuple [a, b, c]) (n + m + l + 6) (max (max h k) j + 1) := by
  refine ⟨?_, ?_, ?_, ?_⟩
  · simp only [PyData.showable, PyData.showableAll, x.s, y.s, z.s, Bool.and_self]
  · simp only [PyData.hasDict, PyData.hasDictAll, x.nd, y.nd, z.nd, Bool.or_self]
  · have := x.len
    have := y.len
    have := z.len
    simp only [PyData.shown, PyData.shownAll, tupleText]
    show ((("(" : Str) ++ (a.shown ++ (", " : Str) ++ (b.shown ++ (", " : Str) ++ c.shown))) ++ (")" : Str)).length ≤ _
    rw [cat_len, cat_len, cat_len, cat_len, cat_len, cat_len]
    show 1 + (_ + 2 + (_ + 2 + _)) + 1 ≤ _
    omega
  · have := x.dep
    have := y.dep
    have := z.dep
    simp only [PyData.depth, PyData.depthAll]
    omega
theorem Sh.l4 {a : PyData} {n : Nat} (x : Sh a n 0) : Sh (.list [a, .bool true, .bool false, .bool false]) (n + 40) 1 := by
  refine ⟨?_, ?_, ?_, ?_⟩
  · simp only [PyData.showable, PyData.showableAll, x.s, Bool.and_self]
  · simp only [PyData.hasDict, PyData.hasDictAll, x.nd, Bool.or_self]
  · have := x.len
    simp only [PyData.shown, PyData.shownAll, listText]
    show (("[" : Str) ++ ("" : Str) ++ a.shown ++ (", " : Str) ++ ("True" : Str) ++ (", " : Str) ++ ("False" : Str) ++ (", " : Str) ++ ("False" : Str) ++ ("]" : Str)).length ≤ _
    rw [cat_len, cat_len, cat_len, cat_len, cat_len, cat_len, cat_len, cat_len, cat_len]
    show 1 + 0 + _ + 2 + 4 + 2 + 5 + 2 + 5 + 1 ≤ _
    omega
  · have := x.dep
    simp only [PyData.depth, PyData.depthAll]
    omega
theorem fold_lt : ∀ (ds : Tx) (n : Nat), (∀ c ∈ ds, 48 ≤ c ∧ c ≤ 57) → ds.foldl (fun n c => n * 10 + (c - 48)) n < (n + 1) * 10 ^ ds.length
  | [], n, _ => by simp
  | c :: ds, n, h => by
    have hc := h c List.mem_cons_self
    have ih := fold_lt ds (n * 10 + (c - 48)) fun x hx => h x (List.mem_cons_of_mem _ hx)
    have h2 : (n * 10 + (c - 48) + 1) * 10 ^ ds.length ≤ ((n + 1) * 10) * 10 ^ ds.length := Nat.mul_le_mul_right _ (by omega)
    rw [List.length_cons, Nat.pow_succ, Nat.mul_comm (10 ^ ds.length) 10, ← Nat.mul_assoc]
    exact Nat.lt_of_lt_of_le ih h2
theorem Canon.small {m : Nat} {ds : Tx} (h : Canon m ds) (hm : m ≤ 30) : natV ds < 10 ^ 30 := by
  have := fold_lt ds 0 h.pl
  rw [Nat.zero_add, Nat.one_mul] at this
  exact Nat.lt_of_lt_of_le this (Nat.pow_le_pow_right (by decide) (Nat.le_trans h.2.1 hm))
theorem Sh.fig {m : Nat} {ds : Tx} (h : Canon m ds) (hm : m ≤ 30) : Sh (.int (numV ds)) 40 0 := Sh.int (by
  have := h.small hm
  show ((natV ds : Nat) : Int).natAbs < 10 ^ 35
  rw [Int.natAbs_natCast]
  exact Nat.lt_of_lt_of_le this (by decide +kernel))
theorem Canon.pos {m : Nat} {ds : Tx} (h : Canon m ds) : 1 ≤ ds.length := List.length_pos_iff.mpr h.1
theorem Amt.sh : ∀ {a : Amt}, a.wf → Sh a.pd (100 * a.txt.length) (a.hgt + 1)
  | .num ds, w => by have := Canon.pos w; exact (Sh.t2 Sh.number (Sh.fig w (by decide))).le (by show 10 + 40 + 4 ≤ 100 * ds.length; omega) (by show max 0 0 + 1 ≤ 0 + 1; omega)
  | .price, _ => (Sh.t1 (Sh.word .price)).le (by decide) (by decide)
  | .time, _ => (Sh.t1 (Sh.word .time)).le (by decide) (by decide)
  | .most a b, w => (Sh.t3 (Sh.word .most) (Amt.sh w.1) (Amt.sh w.2)).le (by simp [Amt.txt, tOpen, tComma, tClose]; omega) (by show max (max 0 (a.hgt + 1)) (b.hgt + 1) + 1 ≤ 1 + max a.hgt b.hgt + 1; omega)
  | .least a b, w => (Sh.t3 (Sh.word .least) (Amt.sh w.1) (Amt.sh w.2)).le (by simp [Amt.txt, tOpen, tComma, tClose]; omega) (by show max (max 0 (a.hgt + 1)) (b.hgt + 1) + 1 ≤ 1 + max a.hgt b.hgt + 1; omega)
  | .pr k a b, w => (Sh.t3 (Sh.mark k) (Amt.sh w.2.1) (Amt.sh w.2.2)).le (by simp [Amt.txt, tOpen, tClose]; omega) (by show max (max 0 (a.hgt + 1)) (b.hgt + 1) + 1 ≤ 1 + max a.hgt b.hgt + 1; omega)
theorem Shr.sh {q : Shr} (w : q.wf) : Sh q.ld 84 1 := by
  have z : (0 : Int).natAbs < 10 ^ 35 := by decide +kernel
  have n1 := (Canon.small w.1 (by decide))
  have l1 : (10 : Nat) ^ 30 ≤ 10 ^ 35 := by decide +kernel
  have l2 : (1 : Nat) < 10 ^ 35 := by decide +kernel
  have hn : q.nV.natAbs < 10 ^ 35 := by
    unfold Shr.nV
    split
    · rw [show (0 - numV q.n).natAbs = natV q.n from by show (0 - ((natV q.n : Nat) : Int)).natAbs = _; omega]; omega
    · show ((natV q.n : Nat) : Int).natAbs < _
      rw [Int.natAbs_natCast]; omega
  have hd : q.dV.natAbs < 10 ^ 35 := by
    unfold Shr.dV
    cases hq : q.d with
    | none => exact l2
    | some e =>
      have n2 := Canon.small (w.2 e hq) (by decide)
      show ((natV e : Nat) : Int).natAbs < _
      rw [Int.natAbs_natCast]; omega
  unfold Shr.ld
  split
  · exact Sh.t2 (Sh.int z) (Sh.int z)
  · exact Sh.t2 (Sh.int hn) (Sh.int hd)
theorem Sgn.sh {s : Sgn} (w : s.wf) : Sh s.pd (100 * s.txt.length) (max s.a.hgt s.b.hgt + 2) := by
  refine (Sh.t3 (Sh.mark s.k) (Amt.sh w.2.1) (Amt.sh w.2.2)).le ?_ (by omega)
  have : 1 ≤ s.k.tx.length := by cases s.k <;> decide
  unfold Sgn.txt
  rw [List.length_append, List.length_append]
  omega
theorem Deal.sh : ∀ {d : Deal}, d.wf → Sh d.ld (100 * d.txt.length) (d.hgt + 2)
  | .none, _ => (Sh.t1 (Sh.word .none)).le (by decide) (by decide)
  | .coin a, w => (Sh.t2 (Sh.word .coin) (Amt.sh w)).le (by simp [Deal.txt, tOpen]; omega) (by show max 0 (a.hgt + 1) + 1 ≤ 1 + a.hgt + 2; omega)
  | .one v d, w => (Sh.t2 (Sh.word v) (Deal.sh w.2)).le (by simp [Deal.txt, tOpen]; omega) (by show max 0 (d.hgt + 2) + 1 ≤ 1 + d.hgt + 2; omega)
  | .two v d e, w => (Sh.t3 (Sh.word v) (Deal.sh w.2.1) (Deal.sh w.2.2)).le (by simp [Deal.txt, tOpen]; omega) (by show max (max 0 (d.hgt + 2)) (e.hgt + 2) + 1 ≤ 1 + max d.hgt e.hgt + 2; omega)
  | .later f d, w => (Sh.t3 (Sh.word .later) (Sh.fig w.1 (by decide)) (Deal.sh w.2)).le (by simp [Deal.txt, tOpen]; omega) (by show max (max 0 0) (d.hgt + 2) + 1 ≤ 1 + d.hgt + 2; omega)
  | .when v s d, w => (Sh.t3 (Sh.word v) (Sgn.sh w.2.1) (Deal.sh w.2.2)).le (by simp [Deal.txt, tOpen]; omega) (by show max (max 0 (max s.a.hgt s.b.hgt + 2)) (d.hgt + 2) + 1 ≤ 1 + max (max s.a.hgt s.b.hgt) d.hgt + 2; omega)
  | .scale a d, w => (Sh.t3 (Sh.word .scale) (Amt.sh w.1) (Deal.sh w.2)).le (by simp [Deal.txt, tOpen]; omega) (by show max (max 0 (a.hgt + 1)) (d.hgt + 2) + 1 ≤ 1 + max a.hgt d.hgt + 2; omega)
  | .by q d, w => (Sh.t3 (Sh.word .by) (Shr.sh w.1) (Deal.sh w.2)).le (by simp [Deal.txt, tOpen]; omega) (by show max (max 0 1) (d.hgt + 2) + 1 ≤ 1 + d.hgt + 2; omega)
/-! what is found -/
inductive Out where
  | bad (y : Option Nat) | deal (d : Deal)
def Out.yd : Option Nat → PyData
  | none => .none
  | some p => .int (p : Nat)
def Out.yv : Option Nat → V
  | none => .non
  | some p => .int (p : Nat)
def Out.data : Out → PyData
  | .bad y => .list [Out.yd y, .bool true, .bool false, .bool false]
  | .deal d => .tuple [d.ld]
def fnd (z : Tx) : Out := if z.length ≤ 2000 then (match pD (z.length + 1) 0 z with
  | .error p => .bad (some p)
  | .ok (d, i, r) => if r = [] then (if goodP d = true then .deal d else .bad (some z.length)) else .bad (some i)) else .bad none
theorem pD_whole {z : Tx} {d : Deal} {i : Nat} {r : Tx} (h : pD (z.length + 1) 0 z = .ok (d, i, r)) : d.wf ∧ (r = [] ↔ ¬ i < z.length) ∧ (r = [] → z = d.txt) := by
  obtain ⟨w, h1, h2⟩ := pD_ok h
  have hl := congrArg List.length h1
  rw [List.length_append] at hl
  refine ⟨w, ⟨fun e => ?_, fun e => ?_⟩, fun e => ?_⟩
  · rw [e] at hl; simp at hl; omega
  · exact List.length_eq_zero_iff.mp (by omega)
  · rw [e, List.append_nil] at h1; exact h1
theorem fnd_law {z : Tx} (hz : z.length ≤ 2000) : (lawAns z ≠ -1 → ∃ p : Nat, lawAns z = (p : Nat) ∧ fnd z = .bad (some p)) ∧ (lawAns z = -1 → ∃ d : Deal, d.wf ∧ z = d.txt ∧ fnd z = if goodP d = true then .deal d else .bad (some z.length)) := by
  unfold lawAns fnd
  rw [if_pos hz]
  cases h : pD (z.length + 1) 0 z with
  | error p => exact ⟨fun _ => ⟨p, rfl, rfl⟩, fun e => by have e : ((p : Nat) : Int) = -1 := e; omega⟩
  | ok y =>
    obtain ⟨d, i, r⟩ := y
    obtain ⟨w, _, h3⟩ := pD_whole h
    by_cases hr : r = []
    · refine ⟨fun e => absurd (if_pos hr) e, fun _ => ⟨d, w, h3 hr, if_pos hr⟩⟩
    · refine ⟨fun _ => ⟨i, if_neg hr, if_neg hr⟩, fun e => ?_⟩
      have e : (if r = [] then (-1 : Int) else ((i : Nat) : Int)) = -1 := e
      rw [if_neg hr] at e
      omega
theorem bad_sh {y : Option Nat} (h : ∀ p, y = some p → p ≤ 1000000) : Sh (Out.data (.bad y)) 90 1 := by
  cases y with
  | none => exact (Sh.l4 (n := 10) ⟨rfl, rfl, by decide +kernel, Nat.le_refl _⟩).le (by decide) (Nat.le_refl _)
  | some p => exact (Sh.l4 (Sh.int (i := ((p : Nat) : Int)) (by have := h p rfl; rw [Int.natAbs_natCast]; exact Nat.lt_of_le_of_lt this (by decide +kernel)))).le (by decide) (Nat.le_refl _)
end K06
end Sec_P11
section Sec_F1
set_option Elab.async false
set_option linter.all false
set_option maxRecDepth 100000
set_option maxHeartbeats 4000000
namespace K06
open PySem PySem.Spec PyProof.Rows L2
open SX (S)
/-! ### what is found -/
structure FoE (K : PySem.W.Frag) (mg : Str → Option Value) (A : Ads) (tr he : Addr) : Prop where
  gTree : mg "BadTree" = some (.ref tr)
  gHedge : mg "HedgeError" = some (.ref he)
  is : IsC K A.BadText
  kVal : PySem.W.kitOne K (.ref A.BadText) (.type "ValueError") = some true
  kDeal : PySem.W.kitOne K (.ref A.BadText) (.ref A.BadDeal) = some false
  kTree : PySem.W.kitOne K (.ref A.BadText) (.ref tr) = some false
  kHedge : PySem.W.kitOne K (.ref A.BadText) (.ref he) = some true
def OutV (H : Hp) : Out → V → Prop
  | .bad y, u => ∃ l, u = .ref l ∧ H l = some (.lst [Out.yv y, .bl true, .bl false, .bl false])
  | .deal d, u => Tp H (.tuple [d.ld]) u
section
variable {P : Program} {w : World} {K : PySem.W.Frag} {mg : Str → Option Value} {base : Heap} {A : Ads}
def sp_lfo (K : PySem.W.Frag) : Sp := fun vs H Q _ => ∃ v, vs = [v] ∧ ((∃ z, v = .str (S z) ∧ z.length ≤ 3000 ∧ mxp z ≤ 170 ∧ ∀ H' u, Same H H' → OutV H' (fnd z) u → Q u H') ∨
  (∃ T, (∀ H', Same H H' → TyX K H' v (.type T)) ∧ kitB T "str" = some false ∧ isT v = false ∧ ∀ H' u, Same H H' → OutV H' (.bad none) u → Q u H'))
theorem rd_of {v : V} {H : Hp} {QQ : VK} {EE : XK} {o : Out} (h : (∃ z, v = .str (S z) ∧ z.length ≤ 3000 ∧ mxp z ≤ 170 ∧ o = fnd z) ∨ (∃ T, TyX K H v (.type T) ∧ kitB T "str" = some false ∧ isT v = false ∧ o = .bad none))
    (hb : ∀ y, o = .bad y → ErrX A EE H (Out.yv y)) (hd : ∀ d, o = .deal d → ∀ H' u, Same H H' → Tp H' d.ld u → QQ u H') : sp_rd K A 172 [v] H QQ EE := by
  refine ⟨v, rfl, ?_⟩
  rcases h with ⟨z, rfl, hz, hm, ho⟩ | ⟨T, h1, h2, h3, ho⟩
  · by_cases hl : z.length ≤ 2000
    · right
      obtain ⟨n, hn⟩ := prog_all z
      refine ⟨z, n, _, rfl, hl, hn, ?_⟩
      unfold fnd at ho
      rw [if_pos hl] at ho
      cases hp : pD (z.length + 1) 0 z with
      | error p => rw [hp] at ho; exact hb (some p) ho
      | ok y =>
        obtain ⟨d, i, r⟩ := y
        rw [hp] at ho
        obtain ⟨w, h2, h3⟩ := pD_whole hp
        by_cases hr : r = []
        · have ho : o = if goodP d = true then .deal d else .bad (some z.length) := by rw [ho]; exact if_pos hr
          have ez := h3 hr
          have hg : d.hgt ≤ 170 := Deal.low w (by rw [← ez]; exact hm) (Int.le_refl _)
          have hp := Deal.dp Shr.dp d
          refine .inr ⟨h2.mp hr, d, w, rfl, by show dpt (d.dat Shr.pd) ≤ 172; omega, ?_⟩
          cases hgd : goodP d with
          | true =>
            rw [hgd, if_pos rfl] at ho
            exact .inl ⟨rfl, fun H' u s' t' => hd d ho H' u s' (by rw [good_ld w hgd]; exact t')⟩
          | false =>
            rw [hgd, if_neg Bool.false_ne_true] at ho
            exact .inr ⟨rfl, hb (some z.length) ho⟩
        · have ho : o = .bad (some i) := by rw [ho]; exact if_neg hr
          refine .inl ⟨?_, hb (some i) ho⟩
          have := mt h2.mpr hr
          omega
    · left
      unfold fnd at ho
      rw [if_neg hl] at ho
      have e : isT (V.str (S z)) = false := decide_eq_false (by rw [SX.S_len]; exact hl)
      exact ⟨.inl ⟨_, rfl, by rw [SX.S_len]; omega⟩, e, hb none ho⟩
  · exact .inl ⟨.inr ⟨T, h1, h2, h3⟩, h3, hb none ho⟩
theorem ok_law_found {tr he : Addr} (T : Txt K mg A) (R : Err K mg A) (FI : FoE K mg A tr he) (G_read_deal : Cl P w K mg base (L2.CX P w) 176 "read_deal" (sp_rd K A 172)) : Cl P w K mg base CX0 177 "_law_found" (sp_lfo K) := by
  refine T.f__law_found.cl sc__law_found (fun vs H Q E h => ?_) (fun f cdv A' outer s H vs Q E hr h => ?_)
  · obtain ⟨v, rfl, _⟩ := h; rfl
  obtain ⟨v, rfl, h⟩ := h
  refine ⟨_, (pss_cons (ps_asg (pe_tup (pa_cons pe_non (pa_cons pe_non pa_nil))) (pg_tup rfl (pgs_cons (pg_name (i := 1) sc__law_found.nd rfl (Or.inl rfl)) (pgs_cons (pg_name (i := 2) sc__law_found.nd rfl (Or.inl rfl)) pgs_nil)))) (pss_cons (ps_try_fst (i := 3) rfl rfl sc__law_found.nd rfl rfl ⟨rfl, by decide, .inl R.gText⟩ (fun W pn xe tk po => pss_one (ps_set (i := 1) sc__law_found.nd rfl (Or.inl rfl) (pe_tup (pa_cons (pclX G_read_deal hr (by omega) tk rfl (pa_cons (pv 0) pa_nil)) pa_nil)))) (fun a oe cls d pn hz hf => pss_one (ps_set (i := 2) sc__law_found.nd rfl (Or.inl rfl) (pe_lst (pa_cons (pe_xf R.text.xf R.text.noAt hz hf (pv 3)) (pa_cons (pe_callB (call_isX FI.is hz hf) (by rfl) T.z_isinstance (by decide +kernel) (pa_cons (pv 3) (pa_cons (pe_bltn (by rfl) T.z_ValueError (by decide +kernel) (v := .ty "ValueError") rfl) pa_nil))) (pa_cons (pe_callB (call_isX FI.is hz hf) (by rfl) T.z_isinstance (by decide +kernel) (pa_cons (pv 3) (pa_cons (pe_gc (v := .ref A.BadDeal) rfl ⟨_, R.gDeal, rfl⟩) pa_nil))) (pa_cons (pe_callB (call_isX FI.is hz hf) (by rfl) T.z_isinstance (by decide +kernel) (pa_cons (pv 3) (pa_cons (pe_gc (v := .ref tr) rfl ⟨_, FI.gTree, rfl⟩) pa_nil))) pa_nil)))))))) (pss_one (ps_ret (pe_ifExp (pt_cmpR op_isN (pv 1) pe_non (nomark _)) (pv 2) (pv 1)))))), ?_⟩
  refine ⟨(by show 2 ≤ sizeLine; decide), fun p0 np0 => ?_⟩
  have s1 : Same H (upd H p0 (.tup [.non, .non])) := Same.new np0
  have h1 : (upd H p0 (.tup [.non, .non])) p0 = some (.tup [.non, .non]) := upd_same
  generalize upd H p0 (.tup [.non, .non]) = H1 at s1 h1 ⊢
  refine ⟨p0, _, rfl, SqT.of h1, rfl, _, _, rfl, _, _, rfl, rfl, ?_⟩
  dsimp only [gName]
  obtain ⟨o, ho, q⟩ : ∃ o, ((∃ z, v = .str (S z) ∧ z.length ≤ 3000 ∧ mxp z ≤ 170 ∧ o = fnd z) ∨ (∃ T, TyX K H1 v (.type T) ∧ kitB T "str" = some false ∧ isT v = false ∧ o = .bad none)) ∧ ∀ H' u, Same H H' → OutV H' o u → Q u H' := by
    rcases h with ⟨z, e, hz, hm, q⟩ | ⟨T, h1', h2', h3', q⟩
    · exact ⟨_, .inl ⟨z, e, hz, hm, rfl⟩, q⟩
    · exact ⟨_, .inr ⟨T, h1' _ s1, h2', h3', rfl⟩, q⟩
  refine ⟨_, rfl, ?_⟩
  refine rd_of (o := o) ho (fun y hy H2 d s2 hd => ?_) (fun d hy H2 u s2 hu => ?_)
  · have s02 : Same H H2 := s1.trans s2
    refine ⟨exm_mk R.text.xf.exC R.text.cl R.text.ox.tyC R.text.self, fun a na => ?_⟩
    refine ⟨_, rfl, rfl, rfl, d, _, Out.yv y, rfl, hd, rfl, ?_⟩
    refine ⟨_, rfl, rfl, d, _, .ty "ValueError", .type "ValueError", true, rfl, hd, rfl, (fun u h => h), FI.kVal, ?_⟩
    refine ⟨_, rfl, rfl, d, _, .ref A.BadDeal, .ref A.BadDeal, false, rfl, hd, rfl, (fun u h => h), FI.kDeal, ?_⟩
    refine ⟨_, rfl, rfl, d, _, .ref tr, .ref tr, false, rfl, hd, rfl, (fun u h => h), FI.kTree, ?_⟩
    refine ⟨(by show 4 ≤ sizeLine; decide), fun l nl => ?_⟩
    have s3 : Same H2 (upd H2 l (.lst [Out.yv y, .bl true, .bl false, .bl false])) := Same.new nl
    have h3 : (upd H2 l (.lst [Out.yv y, .bl true, .bl false, .bl false])) l = some (.lst [Out.yv y, .bl true, .bl false, .bl false]) := upd_same
    generalize upd H2 l (.lst [Out.yv y, .bl true, .bl false, .bl false]) = H3 at s3 h3 ⊢
    refine ⟨_, rfl, rfl, _, rfl, iteT ⟨_, rfl, ?_⟩⟩
    exact q _ _ (s02.trans s3) (by rw [hy]; exact ⟨l, rfl, h3⟩)
  · refine ⟨(by show 1 ≤ sizeLine; decide), fun p np => ?_⟩
    have s3 : Same H2 (upd H2 p (.tup [u])) := Same.new np
    have h3 : (upd H2 p (.tup [u])) p = some (.tup [u]) := upd_same
    generalize upd H2 p (.tup [u]) = H3 at s3 h3 ⊢
    refine ⟨_, rfl, rfl, _, rfl, iteF ⟨_, rfl, ?_⟩⟩
    refine q _ _ (s1.trans (s2.trans s3)) ?_
    rw [hy]
    exact ⟨p, _, rfl, h3, _, _, rfl, hu.up (Same.tups s3), rfl⟩
end
end K06
end Sec_F1
section Sec_X10
set_option Elab.async false
set_option linter.all false
set_option maxRecDepth 100000
set_option maxHeartbeats 4000000
namespace K06
open PySem PySem.Spec PyProof.Rows L2
/-! ### an error of an own class with an own __init__, held as a value -/
section
variable {X : Cx} {e : Expr} {es : List Expr} {te : TE} {ta : TA} {f : Str} {p pos : Pos}
/-- C(e, ..) -/
def tNewE (C : Addr) (sp : Sp) (dvs : List V) (ta : TA) : TE := fun σ H Q => ta σ H fun vs H1 => vs.length ≤ 1000 ∧ ∀ a, H1 a = none → sp (.ref a :: (vs ++ dvs)) (upd H1 a (exo a C none)) (fun v H2 => v = .non ∧ Q (.ref a) H2) (fun _ _ _ => False)
theorem pe_newE {CX : CXT} {x : Str} {C fI : Addr} {k : Nat} {fd : FuncData} {ps : List Str} {sp : Sp} {ds : List Value} {dvs : List V} (T : OexC X.K C) (iC : PySem.W.findIn X.K (.ref C) "__init__" = some (some (.ref fI))) (tI : PySem.W.typeIn X.K (.ref fI) = some (.type "function"))
    (F1 : FnOk X.prog X.w X.K X.mg X.base CX k fI fd ps sp) (hr : Room (k + 1) X.A) (hb : Binds X.K fd ps ds) (hd : Vals dvs ds) (hx : Passes CX X (fun _ _ _ => False)) (hg : Gl X x) (hm : X.mg x = some (.ref C)) (ha : PA X (e :: es) ta)
    (hdb : (x == ("__debug__" : Str)) = false := by decide) (he : starEach (e :: es) X.env = (false, eval e X.env) :: starEach es X.env := by rfl) (hpl : (backTo pos (starEach es X.env)).any (·.1) = false := by rfl) :
    PE X (.Call (.Name x p) (e :: es) [] pos) (tNewE C sp dvs ta) := by
  refine ⟨fun pins s σ H Q I h => ?_⟩
  obtain ⟨nm, q, N, bs, bm, sn, sub, ab, col, dd, k0, k1, k2, k3, k5, hC, hbm⟩ := T.cls
  refine wpAny_Call_Name_kw (ld_glob I hg hm (PySem.W.callWith_K (h₀ := X.base) I.ok.mod.kin T.kC (thn (ha.run pos pins s σ H _ I h) fun us s1 ⟨vs, H1, I1, r1, hz, q1⟩ => ⟨I1.kIn, ?_⟩) he hpl) hdb)
  obtain ⟨hp, g, dr, tk, os⟩ := s1
  have hsz : hp.objs.size ≤ hp.objs.size + 1 := Nat.le_succ _
  have hq := q1 (hp.objs.size + 1) (I1.hok.fresh hsz)
  have hget : ((hp.push (PySem.W.kdv_tup us)).push (PySem.HandSPX.excO C hp.objs.size)).get? (hp.objs.size + 1) = some (PySem.HandSPX.excO C hp.objs.size) := by heap_get
  have I2 : Inv X pins σ (upd H1 (hp.objs.size + 1) (exo (hp.objs.size + 1) C none)) ⟨(hp.push (PySem.W.kdv_tup us)).push (PySem.HandSPX.excO C hp.objs.size), g, dr, tk, os⟩ :=
    I1.laid (t' := tk) (a := hp.objs.size + 1) (o := exo (hp.objs.size + 1) C none) (h' := (hp.push (PySem.W.kdv_tup us)).push (PySem.HandSPX.excO C hp.objs.size)) (fun b o e => Heap.get?_push_of_some _ (Heap.get?_push_of_some _ e)) hsz (exo_ok hget)
  have r2 : Vals (V.ref (hp.objs.size + 1) :: (vs ++ dvs)) (Value.ref (hp.objs.size + 1) :: (us ++ ds)) := .cons rfl (r1.append hd)
  have hl : (Value.ref (hp.objs.size + 1) :: us ++ ds).length = ps.length := by
    rw [← F1.len _ _ _ _ hq]; exact r2.length.symm
  have hus : us.length ≤ sizeLine := by rw [← Paired.length r1, sizeLine_eq]; omega
  refine (show wpAny _ _ (call (.ref C) us) _ _ _ from wpAny_call (PySem.HandSPX.call_own F.excBase_ValueError (fun Y => PySem.HandSPX.refsVE_contains Y bm hbm) (I1.kIn _ _ hC) (PySem.W.looks_findIn I1.kIn iC) (fun self => PySem.W.bind_fn I1.kIn self tI) hus
    (codeAny_mono (F1.run _ X.stack _ _ ⟨Value.ref (hp.objs.size + 1) :: us, []⟩ (Value.ref (hp.objs.size + 1) :: (us ++ ds)) _ _ (fun _ _ _ => False) (hr.make C us []) (I2.env0.make C us []) (hb _ (Value.ref (hp.objs.size + 1) :: us) I2.kIn hl) r2 hq) fun r s' hq' => ?_)))
  cases r with
  | error er => exact hx pins σ _ _ er s' I2 hq'
  | ok fl =>
    cases fl with
    | ret u =>
      obtain ⟨v, H2, os2, bare2, un2, hok2, rv, ev, q2⟩ := hq'
      subst ev
      obtain ⟨h2, g2, d2, t2, os'⟩ := s'
      exact ⟨rv, .ref (hp.objs.size + 1), H2, I2.call' (ch := []) os2 un2 hok2 bare2 (fun b z => absurd z (by simp)), rfl, q2⟩
    | next => exact False.elim hq'
    | brk => exact False.elim hq'
    | cont => exact False.elim hq'
/-- such an error, for the kit -/
theorem exv_at {pins : List (Addr × Obj)} {σ : L2.St} {H : Hp} {s : Shared} {a C dx : Addr} {fs : List (Str × V)} (I : Inv X pins σ H s) (ea : H a = some (exo a C (some dx))) (ed : H dx = some (exd dx fs)) :
    ∃ (oe od : Obj) (mA : Str → Option Value), PySem.W.InstAt s.heap a oe C (some od) ∧ (∀ g, RelO (fs.lookup g) (mA g)) ∧ ∀ g, PySem.W.lookIn g od = some (mA g) := by
  obtain ⟨t1, ho⟩ := exo_at I.hok ea
  obtain ⟨mA, hns, rel⟩ := exd_at I.hok ed
  obtain ⟨od, hd, hl⟩ := lookIn_ns hns
  exact ⟨_, od, mA, ⟨ho, rfl, rfl, hd⟩, rel, hl⟩
/-- its field -/
def tFldE (C : Addr) (f : Str) (te : TE) : TE := fun σ H Q => te σ H fun x H1 => ∃ (a dx : Addr) (fs : List (Str × V)) (v : V), x = .ref a ∧ H1 a = some (exo a C (some dx)) ∧ H1 dx = some (exd dx fs) ∧ fs.lookup f = some v ∧ Q v H1
theorem pe_fldE {C : Addr} (T : XfC X.K C) (hno : PySem.W.findIn X.K (.ref C) f = some none) (he : PE X e te) (hb : attributeBase e f X.env (eval e X.env) = eval e X.env := by rfl) : PE X (.Attribute e f pos) (tFldE C f te) := by
  refine ⟨fun pins s σ H Q I h => ?_⟩
  refine attr_of hb (thn (he.run pins s σ H _ I h) fun u s1 hh => ?_)
  obtain ⟨x, H1, I1, rx, a, dx, fs, v, rfl, ea, ed, l, q⟩ := hh
  obtain rfl : u = Value.ref a := rx
  obtain ⟨oe, od, mA, J, rel, hl⟩ := exv_at I1 ea ed
  obtain ⟨u, hu, ru⟩ := RelO.some_of (v := v) (o := mA f) (by rw [← l]; exact rel f)
  exact HandSPX.exc_get I1.kIn J T.ga T.gg T.exC (PySem.W.findObj_own T.hdC hno rfl (by rw [hl, hu])) (handed_of ru) ⟨v, H1, I1.tok _, ru, q⟩
/-- isinstance of it -/
def rIsE2 (K : PySem.W.Frag) (C : Addr) : List V → Hp → VK → Prop := fun xs H Q => ∃ (a dx : Addr) (fs : List (Str × V)) (c : V) (cv : Value) (b : Bool), H a = some (exo a C (some dx)) ∧ H dx = some (exd dx fs) ∧ xs = [.ref a, c] ∧ (∀ u, RelV c u → u = cv) ∧ PySem.W.kitOne K (.ref C) cv = some b ∧ Q (.bl b) H
theorem call_isE2 {C : Addr} (K : IsC X.K C) : CallR X (.builtin "isinstance") (rIsE2 X.K C) := by
  intro pins s σ H xs us Q I r h
  obtain ⟨a, dx, fs, c, cv, b, ea, ed, rfl, hcv, e, q⟩ := h
  cases r with
  | cons rx rr =>
  cases rr with
  | cons rt rr =>
  cases rr
  cases rx
  have ec := hcv _ rt
  subst ec
  obtain ⟨oe, od, mA, J, _, _⟩ := exv_at I ea ed
  exact PySem.W.kia_one K.kit I.kIn J e (fun z => nomatch z) fun tk => ⟨.bl b, H, I.kept (t' := tk) fun _ _ z => z, rfl, q⟩
end
/-- BadText(e) -/
theorem pe_bt {X : Cx} {A : Ads} {e : Expr} {es : List Expr} {ta : TA} {p pos : Pos} {j : Nat} (R : Err X.K X.mg A) (hr : Room j X.A) (hj : 2 ≤ j) (hg : Gl X "BadText") (ha : PA X (e :: es) ta)
    (he : starEach (e :: es) X.env = (false, eval e X.env) :: starEach es X.env := by rfl) (hpl : (backTo pos (starEach es X.env)).any (·.1) = false := by rfl) :
    PE X (.Call (.Name "BadText" p) (e :: es) [] pos) (tNewE A.BadText (sp_btInit A.BadText) [] ta) := by
  obtain ⟨fI, fd, iC, tI, F, b⟩ := R.text.init
  exact pe_newE (p := p) (pos := pos) R.text.ox iC tI (ok_btInit (P := X.prog) (w := X.w) (base := X.base) R F) (hr.mono hj) b .nil (fun _ _ _ _ _ _ _ h => h.elim) hg R.gText ha (by decide) he hpl
end K06
end Sec_X10
section Sec_F2
set_option Elab.async false
set_option linter.all false
set_option maxRecDepth 100000
set_option maxHeartbeats 4000000
namespace K06
open PySem PySem.Spec PyProof.Rows L2
open SX (S)
/-! ### the law -/
mutual
theorem Tp.dp {K : PySem.W.Frag} {H : Hp} : ∀ {d : PyData} {v : V}, Tp H d v → Dp K H v d
  | .none, v, h => by cases h; exact .non
  | .bool b, v, h => by cases h; exact .bl b
  | .int i, v, h => by cases h; exact .int i
  | .str x, v, h => by cases h; exact .str x
  | .tuple ds, v, h => by
    obtain ⟨a, xs, rfl, e, r⟩ := h
    exact .tup (SqT.of e) (TpL.dp r)
  | .list _, _, h => h.elim
  | .dict _, _, h => h.elim
theorem TpL.dp {K : PySem.W.Frag} {H : Hp} : ∀ {ds : List PyData} {xs : List V}, TpL H ds xs → DpAll K H xs ds
  | [], xs, h => by cases h; exact .nil
  | d :: ds, xs, h => by
    obtain ⟨v, vs, rfl, h1, h2⟩ := h
    exact .cons (Tp.dp h1) (TpL.dp h2)
end
theorem OutV.dp {K : PySem.W.Frag} {H : Hp} {o : Out} {u : V} (h : OutV H o u) : ∃ p, u = .ref p ∧ Dp K H u o.data := by
  cases o with
  | bad y =>
    obtain ⟨l, rfl, hl⟩ := h
    refine ⟨l, rfl, .lst (SqL.of hl) (.cons ?_ (.cons (.bl _) (.cons (.bl _) (.cons (.bl _) .nil))))⟩
    cases y with
    | none => exact .non
    | some p => exact .int _
  | deal d =>
    have h : Tp H (.tuple [d.ld]) u := h
    obtain ⟨a, xs, rfl, e, r⟩ := id h
    exact ⟨a, rfl, Tp.dp h⟩
theorem OutV.up {H H' : Hp} {o : Out} {u : V} (s : Same H H') (h : OutV H o u) : OutV H' o u := by
  cases o with
  | bad y => obtain ⟨l, e, hl⟩ := h; exact ⟨l, e, s _ _ hl⟩
  | deal d => exact Tp.up (Same.tups s) (show Tp H (.tuple [d.ld]) u from h)
theorem fnd_le {z : Tx} {p : Nat} (h : fnd z = .bad (some p)) : p ≤ z.length := by
  have b := bd_pD (n := z.length) (z.length + 1) 0 z (by omega)
  unfold fnd at h
  split at h
  · cases hp : pD (z.length + 1) 0 z with
    | error q =>
      rw [hp] at h b
      injection h with h
      injection h with h
      have b : q ≤ z.length := b
      omega
    | ok y =>
      obtain ⟨d, i, r⟩ := y
      rw [hp] at h b
      have b : i + r.length = z.length := b
      by_cases hr : r = []
      · have h : (if goodP d = true then Out.deal d else .bad (some z.length)) = .bad (some p) := by rw [← h]; exact (if_pos hr).symm
        split at h
        · cases h
        · injection h with h
          injection h with h
          omega
      · have h : Out.bad (some i) = .bad (some p) := by rw [← h]; exact (if_neg hr).symm
        injection h with h
        injection h with h
        omega
  · injection h with h
    cases h
theorem fnd_sh {z : Tx} (hz : z.length ≤ 2001) (hm : mxp z ≤ 170) : Sh (fnd z).data 300000 200 := by
  by_cases hl : z.length ≤ 2000
  · obtain ⟨h1, h2⟩ := fnd_law hl
    by_cases ha : lawAns z = -1
    · obtain ⟨d, w, rfl, e⟩ := h2 ha
      rw [e]
      split
      · have hh : d.hgt ≤ 170 := Deal.low w hm (Int.le_refl _)
        exact (Sh.t1 (Deal.sh w)).le (by omega) (by omega)
      · exact (bad_sh fun p hp => by injection hp with hp; omega).le (by decide) (by decide)
    · obtain ⟨p, hp, e⟩ := h1 ha
      rw [e]
      refine (bad_sh fun q hq => ?_).le (by decide) (by decide)
      injection hq with hq
      subst hq
      have := fnd_le e
      omega
  · have e : fnd z = .bad none := by unfold fnd; rw [if_neg hl]
    rw [e]
    exact (bad_sh fun p hp => by cases hp).le (by decide) (by decide)
section
variable {P : Program} {w : World} {K : PySem.W.Frag} {mg : Str → Option Value} {base : Heap} {A : Ads}
def sp_law (K : PySem.W.Frag) : Sp := fun vs H Q _ => ∃ (a : Addr) (ns : List Int), vs = [.ref a] ∧ bitsOk ns ∧ SqL K H a (ns.map V.int) ∧ ∀ H', Q (.bl true) H'
theorem ok_law {tr he : Addr} {f : Addr} {fd : FuncData} (F : L2.Fun K "law" "law" s_law f fd) (T : Txt K mg A) (R : Err K mg A) (FI : FoE K mg A tr he) (G__law_text : Cl P w K mg base CX0 25 "_law_text" (sp_ltx K)) (G__law_wrong : Cl P w K mg base CX0 3 "_law_wrong" sp_lwr)
    (G__law_deal_of : Cl P w K mg base CX0 (3 + 171) "_law_deal_of" (sp_ldo 171)) (G__law_good : Cl P w K mg base CX0 (1 + 170 + 2) "_law_good" (sp_lg 170)) (G__law_found : Cl P w K mg base CX0 177 "_law_found" (sp_lfo K)) (G__law_cell : Cl P w K mg base CX0 1 "_law_cell" (sp_cell K)) :
    RunAt callerA [] P w K mg base CX0 f fd ["_law_script"] (sp_law K) := by
  have hr0 : Room 178 callerA := ⟨rfl, by decide, by decide⟩
  refine run_of F sc_law hr0 (fun vs H Q E h => ?_) (fun cdv s H vs Q E h => ?_)
  · obtain ⟨a, ns, rfl, _⟩ := h; rfl
  obtain ⟨a, ns, rfl, hb, hS, q⟩ := h
  have hr : Room 177 (callerA.deeper (envOfC "law" (defScope s_law) s.heap.objs.size f cdv)) := hr0.deeper _
  have hg : (callerA.deeper (envOfC "law" (defScope s_law) s.heap.objs.size f cdv)).guards = some [] := rfl
  have hu : (callerA.deeper (envOfC "law" (defScope s_law) s.heap.objs.size f cdv)).units + 1000 < cLine := by show 4 + 3 + 1000 < 9900; omega
  refine ⟨_, (pss_cons (ps_set (i := 1) sc_law.nd rfl (Or.inl rfl) (pe_lst (pa_cons pe_int pa_nil))) (pss_cons (ps_for PassesOwn.never rfl (pi_range1 (by rfl) T.z_range (pa_cons (pe_op op_add pe_int (pe_op op_fdiv (pe_callB call_len_seq (by rfl) T.z_len (by decide +kernel) (pa_cons (pv 0) pa_nil)) pe_int)) pa_nil)) (pg_name (i := 2) sc_law.nd rfl (Or.inl rfl)) (pss_cons (ps_set (i := 3) sc_law.nd rfl (Or.inl rfl) (pcl G__law_text hr (by omega) rfl (pa_cons (pv 0) (pa_cons (pv 1) pa_nil)))) (pss_cons (ps_set (i := 4) sc_law.nd rfl (Or.inl rfl) (pe_ifExp (pt_cmpR op_le (pe_callB call_len_str (by rfl) T.z_len (by decide +kernel) (pa_cons (pv 3) pa_nil)) pe_int (nomark _)) (pcl G__law_wrong hr (by omega) rfl (pa_cons (pv 3) pa_nil)) pe_non)) (pss_cons (ps_set (i := 5) sc_law.nd rfl (Or.inl rfl) (pe_lst (pa_cons (pv 4) (pa_cons pe_bl (pa_cons pe_bl (pa_cons pe_bl pa_nil)))))) (Evl.pss_cut (ps_if (pt_cmpR op_eq (pv 4) (pe_op op_sub pe_int pe_int) (nomark _)) (pss_cons (ps_set (i := 6) sc_law.nd rfl (Or.inl rfl) (pcl G__law_deal_of hr (by omega) rfl (pa_cons (pv 3) pa_nil))) (pss_one (ps_set (i := 5) sc_law.nd rfl (Or.inl rfl) (pe_ifExp (pt_val (pcl G__law_good hr (by omega) rfl (pa_cons (pv 6) pa_nil))) (pe_tup (pa_cons (pv 6) pa_nil)) (pe_lst (pa_cons (pe_callB call_len_str (by rfl) T.z_len (by decide +kernel) (pa_cons (pv 3) pa_nil)) (pa_cons pe_bl (pa_cons pe_bl (pa_cons pe_bl pa_nil))))))))) pss_nil) (pss_one (ps_if (pt_cmpR op_ne (pe_callB (call_reprD hg hu) (by rfl) T.z_repr (by decide +kernel) (pa_cons (pcl G__law_found hr (by omega) rfl (pa_cons (pv 3) pa_nil)) pa_nil)) (pe_callB (call_reprD hg hu) (by rfl) T.z_repr (by decide +kernel) (pa_cons (pv 5) pa_nil)) (nomark _)) (pss_one (ps_ret pe_bl)) pss_nil))))))) (pss_cons (ps_set (i := 7) sc_law.nd rfl (Or.inl rfl) (pe_bt R hr (by omega) (by rfl) (pa_cons pe_str pa_nil))) (pss_cons (ps_if (PW.pt (pw_or (pt_cmpR op_ne (pe_fldE R.text.xf R.text.noAt (pv 7)) pe_str (nomark _)) (pw_or (pt_not (pt_val (pe_callB (call_isE2 FI.is) (by rfl) T.z_isinstance (by decide +kernel) (pa_cons (pv 7) (pa_cons (pe_gc (v := .ref he) rfl ⟨_, FI.gHedge, rfl⟩) pa_nil))))) (pw_or1 (pt_not (pt_val (pe_callB (call_isE2 FI.is) (by rfl) T.z_isinstance (by decide +kernel) (pa_cons (pv 7) (pa_cons (pe_bltn (by rfl) T.z_ValueError (by decide +kernel) (v := .ty "ValueError") rfl) pa_nil))))))))) (pss_one (ps_ret pe_bl)) pss_nil) (pss_cons (ps_set (i := 8) sc_law.nd rfl (Or.inl rfl) (pe_ix ix_list (pe_lst (pa_cons pe_non (pa_cons pe_int (pa_cons pe_bl (pa_cons (pe_lst (pa_cons pe_str pa_nil)) (pa_cons (pe_tup (pa_cons pe_str pa_nil)) (pa_cons (pe_op op_addS pe_str (pe_op op_repS pe_str pe_int)) pa_nil))))))) (pe_op op_mod (pcl G__law_cell hr (by omega) rfl (pa_cons (pv 0) (pa_cons (pv 1) pa_nil))) pe_int) (fun _ _ => rfl))) (pss_one (ps_ret (pe_cmpR (op_eqD hr.units) (pcl G__law_found hr (by omega) rfl (pa_cons (pv 8) pa_nil)) (pe_lst (pa_cons pe_non (pa_cons pe_bl (pa_cons pe_bl (pa_cons pe_bl pa_nil))))) (nomark _))))))))), ?_⟩
  refine ⟨(by show 1 ≤ sizeLine; decide), fun sp nsp => ?_⟩
  have hSp := SqL.apart hS nsp
  have s1 : Same H (upd H sp (.lst [.int 0])) := Same.new nsp
  have h1 : (upd H sp (.lst [.int 0])) sp = some (.lst [.int 0]) := upd_same
  generalize upd H sp (.lst [.int 0]) = H1 at s1 h1 ⊢
  have g1 : Gen K a sp ns 0 H1 := ⟨hb, hSp, Evl.ex_l s1 hS, h1⟩
  have nl : ns.length ≤ 63 := hb.1
  have el : (ns.map V.int).length = ns.length := List.length_map _
  dsimp only [gName]
  refine Evl.q_forR1 (n := 2 + ((ns.map V.int).length : Nat) / 6) (fun H2 e2 Q1 q1 => ?_) ⟨by omega, by omega⟩ (fun i σ' H' => ∃ o2 o3 o4 o5 o6 o7 o8 k, σ' = [some (.ref a), some (.ref sp), o2, o3, o4, o5, o6, o7, o8] ∧ Gen K a sp ns k H' ∧ k ≤ 60000 * i) (fun H2 e2 => ⟨_, _, _, _, _, _, _, 0, rfl, g1.next (Same.bt e2) (e2 _ _ h1), Nat.zero_le _⟩) (fun i σ' H' hi hP => ?_) (fun σ' H' hP => ?_)
  · refine ⟨_, rfl, _, _, rfl, .inl (Evl.ex_l e2 g1.hc), _, _, rfl, rfl, ⟨by decide, by decide⟩, _, _, rfl, rfl, ?_⟩
    exact q1 _ (Evl.Ex.refl H2)
  · obtain ⟨o2, o3, o4, o5, o6, o7, o8, k, rfl, g, hk⟩ := hP
    dsimp only [List.set]
    have ik : k ≤ 60000 * 12 := Nat.le_trans hk (Nat.mul_le_mul_left _ (by omega))
    refine ⟨_, rfl, _, rfl, a, sp, ns, k, rfl, g, by omega, fun H3 t D tl tm => ?_⟩
    obtain ⟨b3, k3, g3, k3a, k3b⟩ := D
    dsimp only [gName, List.set]
    have hSl : (S t).length = t.length := SX.S_len t
    have big : (S t).length ≤ sizeLine := Nat.le_trans (show (S t).length ≤ 3000 by omega) (by decide)
    obtain ⟨atV, hv1, hv2⟩ : ∃ atV : V, (t.length ≤ 2000 → atV = .int (lawAns t)) ∧ (¬ t.length ≤ 2000 → atV = .non) := ⟨if t.length ≤ 2000 then .int (lawAns t) else .non, fun h => if_pos h, fun h => if_neg h⟩
    refine Evl.q_asg (v := atV) (Evl.ev_if (b := decide (t.length ≤ 2000)) (et_refl fun H4 e4 Q1 q1 => ?_) (fun hz => ?_) (fun hz => ?_)) (fun H4 e4 => ?_)
    · refine ⟨_, rfl, _, rfl, big, _, _, rfl, rfl, _, rfl, ?_⟩
      rw [show decide (((S t).length : Int) ≤ 2000) = decide (t.length ≤ 2000) from decide_eq_decide.mpr (by omega)]
      exact q1
    · have hz := of_decide_eq_true hz
      rw [hv1 hz]
      exact fun H4 e4 Q1 q1 => ⟨_, rfl, t, rfl, hz, fun H5 s5 => q1 H5 s5⟩
    · rw [hv2 (of_decide_eq_false hz)]
      exact Evl.ev_c
    refine Evl.q_asgL (xs := [atV, .bl true, .bl false, .bl false]) (fun H5 e5 Q1 q1 => ⟨_, rfl, (by show 4 ≤ sizeLine; decide), fun p np => q1 p _ np (Evl.Ex.new np) upd_same⟩) (fun l5 H5 nl5 e5 h5 => ?_)
    have s35 : Same H3 H5 := Same.trans e4 e5
    dsimp only [List.set]
    refine Evl.q_cut (M := fun σ' H' => ∃ o2 o4 o6 o7 o8 u5, σ' = [some (.ref a), some (.ref sp), o2, some (.str (S t)), o4, some u5, o6, o7, o8] ∧ Same H3 H' ∧ OutV H' (fnd t) u5) ?_ fun σ' H' hM => ?_
    · have stay : ∀ {o : Out}, fnd t = o → (∃ y, o = .bad y ∧ Out.yv y = atV) → ∀ H6, Same H5 H6 → ∃ x2 x4 x6 x7 x8 u5, [some (V.ref a), some (.ref sp), some (.int (i : Nat)), some (.str (S t)), some atV, some (.ref l5), o6, o7, o8] = [some (V.ref a), some (.ref sp), x2, some (.str (S t)), x4, some u5, x6, x7, x8] ∧ Same H3 H6 ∧ OutV H6 (fnd t) u5 := fun {o} ho ⟨y, hy, hyv⟩ H6 s6 => ⟨_, _, _, _, _, _, rfl, s35.trans s6, by rw [ho, hy]; exact ⟨l5, rfl, by rw [hyv]; exact s6 _ _ h5⟩⟩
      by_cases hz : t.length ≤ 2000
      · obtain ⟨f1, f2⟩ := fnd_law hz
        have hv := hv1 hz
        by_cases ha : lawAns t = -1
        · obtain ⟨d, wf, et, ef⟩ := f2 ha
          rw [ha] at hv
          subst hv
          have hh : d.hgt ≤ 170 := Deal.low wf (by rw [← et]; exact tm) (Int.le_refl _)
          refine Evl.s_when (b := true) (et_refl fun H6 e6 Q1 q1 => ⟨_, rfl, _, _, rfl, rfl, rfl, _, rfl, q1⟩) (fun _ H6 e6 => ?_) (fun hb => Bool.noConfusion hb)
          subst et
          refine ⟨_, rfl, d, rfl, wf, by omega, by omega, fun H7 v s7 hv => ?_⟩
          dsimp only [gName, List.set]
          refine ⟨_, rfl, v, d, rfl, wf, hv, hh, by omega, fun H8 s8 => ⟨_, rfl, iteB (fun hgd => ?_) (fun hgd => ?_)⟩⟩
          · refine ⟨_, rfl, (by show 1 ≤ sizeLine; decide), fun p np => ?_⟩
            rw [hgd, if_pos rfl] at ef
            have s9 : Same H7 (upd H8 p (.tup [v])) := s8.trans (Same.new np)
            exact ⟨_, _, _, _, _, _, rfl, s35.trans (Same.trans e6 (s7.trans s9)), by rw [ef]; exact ⟨p, _, rfl, upd_same, _, _, rfl, hv.up (Same.tups s9), rfl⟩⟩
          · refine ⟨_, rfl, _, rfl, big, (by show 4 ≤ sizeLine; decide), fun p np => ?_⟩
            rw [hgd, if_neg Bool.false_ne_true] at ef
            have s9 : Same H7 _ := s8.trans (Same.new (o := .lst [.int ((S d.txt).length : Nat), .bl true, .bl false, .bl false]) np)
            exact ⟨_, _, _, _, _, _, rfl, s35.trans (Same.trans e6 (s7.trans s9)), by rw [ef]; exact ⟨p, rfl, by rw [upd_same, hSl]; rfl⟩⟩
        · obtain ⟨p, hp, ef⟩ := f1 ha
          refine Evl.s_when (b := false) (et_refl fun H6 e6 Q1 q1 => ?_) (fun hb => Bool.noConfusion hb) (fun _ H6 e6 => stay ef ⟨some p, rfl, by rw [hv, hp]; rfl⟩ H6 e6)
          rw [hv]
          exact ⟨_, rfl, _, _, rfl, rfl, rfl, _, congrArg V.bl (decide_eq_false (fun z => ha (by injection z))), q1⟩
      · have hv := hv2 hz
        subst hv
        exact Evl.s_when (b := false) (et_refl fun H6 e6 Q1 q1 => ⟨_, rfl, _, _, rfl, rfl, rfl, _, rfl, q1⟩) (fun hb => Bool.noConfusion hb) (fun _ H6 e6 => stay (o := .bad none) (by unfold fnd; rw [if_neg hz]) ⟨none, rfl, rfl⟩ H6 e6)
    · obtain ⟨p2, p4, p6, p7, p8, u5, rfl, s3, hu5⟩ := hM
      have sh := fnd_sh tl tm
      have shz : (fnd t).data.shown.length ≤ sizeLine := Nat.le_trans sh.len (by decide)
      have shd : (fnd t).data.depth ≤ 900 := Nat.le_trans sh.dep (by decide)
      refine Evl.s_when (b := false) (fun H6 e6 Q1 q1 => ?_) (fun hb => Bool.noConfusion hb) (fun _ H6 e6 => ?_)
      · refine ⟨_, rfl, .str (S t), rfl, .inl ⟨t, rfl, by omega, tm, fun H7 u s7 hu => ?_⟩⟩
        obtain ⟨p, rfl, dp⟩ := OutV.dp (K := K) hu
        refine ⟨p, _, rfl, dp, sh.s, sh.nd, shz, shd, ?_⟩
        obtain ⟨p', rfl, dp'⟩ := OutV.dp (K := K) (OutV.up (Same.trans e6 s7) hu5)
        refine ⟨_, rfl, p', _, rfl, dp', sh.s, sh.nd, shz, shd, rfl, _, congrArg V.bl (by rw [decide_eq_true rfl]; rfl), q1 _ s7⟩
      · refine ⟨_, _, _, _, _, _, _, k3, rfl, g3.next (Same.bt (s3.trans e6)) ((s3.trans e6) _ _ g3.hk), ?_⟩
        omega
  · obtain ⟨o2, o3, o4, o5, o6, o7, o8, k, rfl, g, hk⟩ := hP
    have ik : k ≤ 60000 * 12 := Nat.le_trans hk (Nat.mul_le_mul_left _ (by omega))
    refine ⟨(by show 1 ≤ 1000; decide), fun ae nae => ⟨ae, .str "x", rfl, upd_same, fun dx ndx hne => ⟨rfl, ?_⟩⟩⟩
    have s5 : Same H' (upd (upd (upd H' ae (exo ae A.BadText none)) dx (exd dx [(("at" : Str), .str "x")])) ae (exo ae A.BadText (some dx))) := fun b o e => by
      have ndx' : H' dx = none := by rw [upd_ne hne] at ndx; exact ndx
      have b1 : b ≠ ae := ne_of_none e nae
      have b2 : b ≠ dx := ne_of_none e ndx'
      rw [upd_ne b1, upd_ne b2, upd_ne b1]; exact e
    have hea : (upd (upd (upd H' ae (exo ae A.BadText none)) dx (exd dx [(("at" : Str), .str "x")])) ae (exo ae A.BadText (some dx))) ae = some (exo ae A.BadText (some dx)) := upd_same
    have hed : (upd (upd (upd H' ae (exo ae A.BadText none)) dx (exd dx [(("at" : Str), .str "x")])) ae (exo ae A.BadText (some dx))) dx = some (exd dx [(("at" : Str), .str "x")]) := by rw [upd_ne hne, upd_same]
    generalize upd (upd (upd H' ae (exo ae A.BadText none)) dx (exd dx [(("at" : Str), .str "x")])) ae (exo ae A.BadText (some dx)) = H5 at s5 hea hed ⊢
    dsimp only [gName, List.set]
    refine Evl.q_when (b := false) (Evl.et_is (Evl.et_or (a := false) (b := false) (et_refl fun H6 e6 Q1 q1 => ?_) fun _ => Evl.et_or (a := false) (b := false) (Evl.et_not (a := true) (et_refl fun H6 e6 Q1 q1 => ?_)) fun _ => Evl.et_not (a := true) (et_refl fun H6 e6 Q1 q1 => ?_)) rfl) (fun hb => Bool.noConfusion hb) (fun _ H6 e6 => ?_)
    · exact ⟨_, rfl, ae, dx, _, _, rfl, e6 _ _ hea, e6 _ _ hed, rfl, rfl, _, congrArg V.bl (by rw [decide_eq_true rfl]; rfl), q1⟩
    · exact ⟨_, rfl, ae, dx, _, .ref he, .ref he, true, e6 _ _ hea, e6 _ _ hed, rfl, (fun u h => h), FI.kHedge, _, rfl, q1⟩
    · exact ⟨_, rfl, ae, dx, _, .ty "ValueError", .type "ValueError", true, e6 _ _ hea, e6 _ _ hed, rfl, (fun u h => h), FI.kVal, _, rfl, q1⟩
    have s6 : Same H' H6 := Same.trans s5 e6
    clear hea hed
    refine ⟨(by show 1 ≤ sizeLine; decide), fun p1 n1 => ?_⟩
    have s7 : Same H6 (upd H6 p1 (.lst [.str "none"])) := Same.new n1
    have h7 : (upd H6 p1 (.lst [.str "none"])) p1 = some (.lst [.str "none"]) := upd_same
    generalize upd H6 p1 (.lst [.str "none"]) = H7 at s7 h7 ⊢
    refine ⟨(by show 1 ≤ sizeLine; decide), fun p2 n2 => ?_⟩
    have s8 : Same H7 (upd H7 p2 (.tup [.str "none"])) := Same.new n2
    have h8 : (upd H7 p2 (.tup [.str "none"])) p2 = some (.tup [.str "none"]) := upd_same
    generalize upd H7 p2 (.tup [.str "none"]) = H8 at s8 h8 ⊢
    refine ⟨_, [32], 1997, rfl, by decide +kernel, rfl, by decide, by decide, ?_⟩
    refine addS (a := Word.none.tx) (b := rep 1997 [32]) (by decide +kernel) rfl (by rw [rep_len]; decide) ?_
    refine ⟨(by show 6 ≤ sizeLine; decide), fun p3 n3 => ?_⟩
    have s9 : Same H8 (upd H8 p3 (.lst [.non, .int 5, .bl true, .ref p1, .ref p2, .str (S (Word.none.tx ++ rep 1997 [32]))])) := Same.new n3
    have h9 : (upd H8 p3 (.lst [.non, .int 5, .bl true, .ref p1, .ref p2, .str (S (Word.none.tx ++ rep 1997 [32]))])) p3 = some (.lst [.non, .int 5, .bl true, .ref p1, .ref p2, .str (S (Word.none.tx ++ rep 1997 [32]))]) := upd_same
    generalize upd H8 p3 (.lst [.non, .int 5, .bl true, .ref p1, .ref p2, .str (S (Word.none.tx ++ rep 1997 [32]))]) = H9 at s9 h9 ⊢
    have s19 : Same H' H9 := s6.trans (s7.trans (s8.trans s9))
    have g9 := g.next (Same.bt s19) (s19 _ _ g.hk)
    have ps : ∀ {p : Addr} {Hx : Hp}, Hx p = none → Same H' Hx → p ≠ sp := fun hp hs z => by rw [z, hs _ _ g.hk] at hp; cases hp
    have np1 := ps n1 s6
    have np2 := ps n2 (s6.trans s7)
    have np3 := ps n3 (s6.trans (s7.trans s8))
    refine ⟨_, rfl, _, rfl, a, sp, ns, k, rfl, g9, by omega, fun m H10 hm b10 h10 => ?_⟩
    obtain ⟨v, hv, hat⟩ := pickm (xs := [V.non, .int 5, .bl true, .ref p1, .ref p2, .str (S (Word.none.tx ++ rep 1997 [32]))]) ((m : Nat) : Int) 6 rfl (by decide)
    refine ⟨_, _, rfl, rfl, (by show (0 : Int) < 6; decide), _, _, _, _, rfl, rfl, SqL.of (b10 _ _ np3 h9), hat, ?_⟩
    dsimp only [gName, List.set]
    have key : ∀ (QQ : VK), (∀ H' u, Same H10 H' → OutV H' (.bad none) u → QQ u H') → sp_lfo K [v] H10 QQ E0 := fun QQ qq => by
      refine ⟨v, rfl, ?_⟩
      simp only [List.mem_cons, List.not_mem_nil, or_false] at hv
      rcases hv with rfl | rfl | rfl | rfl | rfl | rfl
      · exact .inr ⟨"NoneType", fun _ _ => .base .non, by decide +kernel, rfl, qq⟩
      · exact .inr ⟨"int", fun _ _ => .base (.int _), by decide +kernel, rfl, qq⟩
      · exact .inr ⟨"bool", fun _ _ => .base (.bl _), by decide +kernel, rfl, qq⟩
      · exact .inr ⟨"list", fun _ s => .base (.lst (s _ _ (b10 _ _ np1 (s9 _ _ (s8 _ _ h7))))), by decide +kernel, rfl, qq⟩
      · exact .inr ⟨"tuple", fun _ s => .base (.tup (s _ _ (b10 _ _ np2 (s9 _ _ h8)))), by decide +kernel, rfl, qq⟩
      · have hl : (Word.none.tx ++ rep 1997 [32]).length = 2001 := by rw [List.length_append, rep_len]; rfl
        refine .inl ⟨_, rfl, by omega, ?_, ?_⟩
        · rw [mxp_app, mxp_repc (by decide) (by decide)]
          decide
        · have ef : fnd (Word.none.tx ++ rep 1997 [32]) = .bad none := by unfold fnd; rw [if_neg (by omega)]
          rw [ef]
          exact qq
    refine ⟨_, rfl, key _ fun H11 u s11 hu => ?_⟩
    obtain ⟨p, rfl, dp⟩ := OutV.dp (K := K) hu
    refine ⟨(by show 4 ≤ sizeLine; decide), fun p4 n4 => ?_⟩
    have s12 : Same H11 (upd H11 p4 (.lst [.non, .bl true, .bl false, .bl false])) := Same.new n4
    obtain ⟨p', e', dp'⟩ := OutV.dp (K := K) (OutV.up s12 hu)
    refine ⟨_, _, dp', .lst (SqL.of upd_same) (.cons .non (.cons (.bl _) (.cons (.bl _) (.cons (.bl _) .nil)))), by decide +kernel, by decide +kernel, ?_⟩
    exact q _
end
end K06
end Sec_F2
section Sec_E1
set_option Elab.async false
set_option linter.all false
set_option maxRecDepth 100000
set_option maxHeartbeats 4000000
namespace K06
open PySem PySem.Spec PyProof.Rows L2
/-! ### the defs, put together -/
/-- a method of the Reading as the top leaves it -/
structure Mf (K : PySem.W.Frag) (A : Ads) (m qual : Str) (st : Stmt) (ps : List Str) : Prop where
  ex : ∃ (f : Addr) (fd : FuncData), Meth K A.Reading m f ∧ L2.Fun K m qual st f fd ∧ Binds K fd ps []
theorem Mf.me {P : Program} {w : World} {K : PySem.W.Frag} {mg : Str → Option Value} {base : Heap} {CX : CXT} {k : Nat} {A : Ads} {m qual : Str} {st : Stmt} {ps : List Str} {sp : Sp} (M : Mf K A m qual st ps) (C : RdC K A)
    (h : ∀ f fd, L2.Fun K m qual st f fd → FnOk P w K mg base CX k f fd ps sp) : Me P w K mg base CX k A.Reading m sp := by
  obtain ⟨f, fd, hm, F, b⟩ := M.ex
  exact ⟨f, fd, ps, C.cls, hm, h f fd F, b⟩
structure All (w : World) (K : PySem.W.Frag) (mg : Str → Option Value) (A : Ads) : Prop where
  T : Txt K mg A
  R : Err K mg A
  C : RdC K A
  D : DicF K w A
  FI : FoE K mg A A.BadTree A.HedgeError
  m0 : ∃ (f : Addr) (fd : FuncData), L2.Mk K A.Reading f ∧ L2.Fun K "__init__" "Reading.__init__" s_Reading___init__ f fd ∧ Binds K fd ["self", "text"] []
  m1 : Mf K A "refuse_sign" "Reading.refuse_sign" s_Reading_refuse_sign ["self"]
  m2 : Mf K A "next_sign" "Reading.next_sign" s_Reading_next_sign ["self"]
  m3 : Mf K A "take_text" "Reading.take_text" s_Reading_take_text ["self", "text"]
  m4 : Mf K A "take_figures" "Reading.take_figures" s_Reading_take_figures ["self", "most"]
  m5 : Mf K A "take_word" "Reading.take_word" s_Reading_take_word ["self", "words"]
  m6 : Mf K A "want_form" "Reading.want_form" s_Reading_want_form ["self", "word", "kinds"]
  m7 : Mf K A "read_amount" "Reading.read_amount" s_Reading_read_amount ["self"]
  m8 : Mf K A "read_share" "Reading.read_share" s_Reading_read_share ["self"]
  m9 : Mf K A "read_part" "Reading.read_part" s_Reading_read_part ["self", "kind"]
  m10 : Mf K A "read_mark" "Reading.read_mark" s_Reading_read_mark ["self", "kinds"]
  m11 : Mf K A "read_next" "Reading.read_next" s_Reading_read_next ["self"]
theorem ok_all {P : Program} {w : World} {K : PySem.W.Frag} {mg : Str → Option Value} {base : Heap} {A : Ads} {f : Addr} {fd : FuncData} (a : All w K mg A) (F : L2.Fun K "law" "law" s_law f fd) : RunAt callerA [] P w K mg base CX0 f fd ["_law_script"] (sp_law K) := by
  have T := a.T
  have R := a.R
  have C := a.C
  have D := a.D
  -- the program
  have g1 : Cl P w K mg base CX0 1 "is_whole" sp_is_whole := ok_is_whole T
  have g2 := ok_is_among T g1
  have g3 : Cl P w K mg base CX0 1 "common" sp_common := ok_common T
  have g4 : Cl P w K mg base CX0 1 "has_kind" (sp_has_kind K) := ok_has_kind T
  have g5 := ok_amount_parts T g4 g2 11
  have g6 := ok_sign_parts T g4 g5
  have g7 : Cl P w K mg base (L2.CX P w) 1 "refuse" (sp_refuse A.BadDeal) := ok_refuse T R
  have g8 := ok_is_share T g1 g3
  have g9 := ok_is_small T g8
  have g10 := ok_need_parts T g7
  have g11 := ok_own_parts T g4 g5 g6 g2 g9 g10 g7
  have g12 := ok_need_within T g11 g7 13
  have g13 : Cl P w K mg base CX0 (1 + 172) "count_of" (sp_co K 172) := ok_count_of T 172
  have g14 := ok_choosers T g13
  have g15 := ok_need_deal T (by decide) g12 g7 g14 g13
  have g16 : Cl P w K mg base CX0 1 "number_of" sp_num := ok_number_of T
  have g17 := ok_share_of T g16 g3
  have r1 : FRef P w K mg base A := a.m1.me C fun f fd F => ok_refuse_sign T R C F
  have r2 : FNext P w K mg base A := a.m2.me C fun f fd F => ok_next_sign T C F
  have r3 : FTt P w K mg base A := a.m3.me C fun f fd F => ok_take_text T C r2 r1 F
  have r4 : FTf P w K mg base A := a.m4.me C fun f fd F => ok_take_figures T C r2 r1 F
  have r5 : FTw P w K mg base A := a.m5.me C fun f fd F => ok_take_word T C r1 F
  have r6 : FWf P w K mg base A := a.m6.me C fun f fd F => ok_want_form T C F
  have r7 : FRa P w K mg base A := a.m7.me C fun f fd F => ok_read_amount T C D r2 r5 r4 r6 F
  have r8 : FRs P w K mg base A := a.m8.me C fun f fd F => ok_read_share T C r2 r4 g17 F
  have r9 : FRp P w K mg base A := a.m9.me C fun f fd F => ok_read_part T C D r7 r8 r5 r4 r6 F
  have r10 : FRm P w K mg base A := a.m10.me C fun f fd F => ok_read_mark T C D r5 F
  have r11 : FRn P w K mg base A := a.m11.me C fun f fd F => ok_read_next T C r3 r9 r10 F
  have mk : MkR P w K mg base A := by
    obtain ⟨f, fd, M, F, b⟩ := a.m0
    obtain ⟨u, hu, ru⟩ := T.c_Reading
    cases ru
    exact ⟨f, fd, M, ok_init T C F, b, hu⟩
  have g18 : Cl P w K mg base CX0 1 "is_text" (sp_ist (K := K)) := ok_is_text T
  have rd := ok_read_deal T R C (by decide) g18 mk r11 r1 g15
  -- the law's own
  have l1 : Cl P w K mg base CX0 1 "_law_figures" sp_lf := ok_law_figures T
  have l2 := ok_law_share_end T l1
  have l3 : Cl P w K mg base CX0 1 "_law_next" sp_ln := ok_law_next T
  have l4 : Cl P w K mg base CX0 1 "_law_word" sp_lw := ok_law_word T
  have l5 := ok_law_wrong T l4 l3 l2 l1
  have l6 : Cl P w K mg base CX0 1 "_law_split" sp_spl := ok_law_split T
  have l7 : Cl P w K mg base CX0 1 "_law_share_of" sp_lso := ok_law_share_of T
  have l8 := ok_law_deal_of T l6 l7 171
  have l9 : Cl P w K mg base CX0 (1 + 170) "_law_amount_parts" (sp_lap 170) := ok_law_amount_parts T 170
  have l10 : Cl P w K mg base CX0 1 "_law_long" sp_long := ok_law_long T
  have l11 : Cl P w K mg base CX0 1 "_law_is_small" sp_lis := ok_law_is_small T
  have l12 := ok_law_good T (ok_law_head T l9 l10 l11)
  have c1 : Cl P w K mg base CX0 1 "_law_cell" (sp_cell K) := ok_law_cell T
  have c2 : Cl P w K mg base CX0 11 "_law_amount" (sp_lam K 10) := ok_law_amount T c1 10
  have c3 := ok_law_sign T c1 c2
  have c4 : Cl P w K mg base CX0 1 "_law_share" sp_lsh := ok_law_share T
  have c5 : Cl P w K mg base CX0 11 "_law_parts" (sp_lpt 10) := ok_law_parts T 10
  have c6 : Cl P w K mg base CX0 24 "_law_deal" (sp_ldl K 12) := ok_law_deal T c1 c2 c5 c3 c4 12
  have c7 : Cl P w K mg base CX0 24 "_law_deal_text" (sp_ldt 23) := ok_law_deal_text T 23
  have c8 := ok_law_deep T c1
  have c9 := ok_law_text T c1 c8 c6 c7
  have c10 := ok_law_found (base := base) T R a.FI rd
  exact ok_law F T R a.FI c9 l5 l8 l12 c10 c1
end K06
end Sec_E1
section Sec_E2
set_option Elab.async false
set_option linter.all false
set_option maxRecDepth 100000
set_option maxHeartbeats 4000000
namespace K06
open PySem PySem.Spec PyProof.Rows L2
open SX (S)
/-! ### what the top has left, as hypotheses -/
theorem fct_mk {K : PySem.W.Frag} {h : Heap} {mg : Str → Option Value} {x : Str} {st : Stmt} {ps : List Str} {f : Addr} {oc kV dc pm cd ct : Value} {od an : Option Addr} {sl : Array (Option Value)} (X : K.In h) (G : h.Ns mainGlobals mg)
    (g : PySem.W.nsIn K mainGlobals x = some (some (.ref f))) (l : K.lookup f = some ⟨oc, od, .func (PySem.W.fnOf x x (L2.defArgs st) (L2.defBody st) (L2.defScope st) .none kV dc pm an cd ct), sl⟩) (c : PySem.W.codeIn K cd x = true) (k : PySem.W.keepIn K (.ref f) = true)
    (b : ∀ (kV doc pm : Value) (an : Option Addr) (cdv ct : Value) (us : List Value), us.length = ps.length → bindArgs (PySem.W.fnOf x x (L2.defArgs st) (L2.defBody st) (L2.defScope st) .none kV doc pm an cdv ct) ⟨us, []⟩ = pure (ps.zip us)) : Fct K mg x st ps :=
  ⟨f, _, fun_mk l c k, PySem.W.mg_of X G g, (fun_mk l c k).binds b⟩
theorem mf_mk {K : PySem.W.Frag} {A : Ads} {m qual : Str} {st : Stmt} {ps : List Str} {f : Addr} {oc kV dc pm cd ct : Value} {od an : Option Addr} {sl : Array (Option Value)} (g : PySem.W.findIn K (.ref A.Reading) m = some (some (.ref f))) (n : PySem.W.isFn K (.ref f) = true)
    (l : K.lookup f = some ⟨oc, od, .func (PySem.W.fnOf m qual (L2.defArgs st) (L2.defBody st) (L2.defScope st) .none kV dc pm an cd ct), sl⟩) (c : PySem.W.codeIn K cd qual = true) (k : PySem.W.keepIn K (.ref f) = true)
    (b : ∀ (kV doc pm : Value) (an : Option Addr) (cdv ct : Value) (us : List Value), us.length = ps.length → bindArgs (PySem.W.fnOf m qual (L2.defArgs st) (L2.defBody st) (L2.defScope st) .none kV doc pm an cdv ct) ⟨us, []⟩ = pure (ps.zip us)) : Mf K A m qual st ps :=
  ⟨f, _, ⟨g, n, k⟩, fun_mk l c k, (fun_mk l c k).binds b⟩
theorem kd_mk {K : PySem.W.Frag} {w : World} {a : Addr} {x y : Str} {v : V} {es : Array DictEntry} {n : Nat} {u : Value} (l : K.lookup a = some ⟨.type "dict", none, .dict es n, #[]⟩) (k : PySem.W.KeysLit w.params es.toList) (g : PySem.W.nsIn K a x = some (some u)) (r : RelV v u) (e : x = y) : KDct K w a y v := by
  subst e
  exact ⟨es, n, u, l, k, g, r⟩
theorem forms_strs : (forms.map fun w => S w.tx) = [("none" : Str), ("coin" : Str), ("give" : Str), ("both" : Str), ("either" : Str), ("later" : Str), ("once" : Str), ("until" : Str), ("any" : Str), ("scale" : Str), ("by" : Str)] := by decide +kernel
theorem numbers_strs : (numbers.map fun w => S w.tx) = [("price" : Str), ("time" : Str), ("most" : Str), ("least" : Str)] := by decide +kernel
theorem all_mk {P : Program} {w : World} {K : PySem.W.Frag} {h : Heap} {mg : Str → Option Value} {fa : Addr} (X : K.In h) (G : h.Ns mainGlobals mg) (hfa : mg "law" = some (.ref fa))
  {t_MOST_FIGURES : Tok} {t_FIGURES : Tok} {t_MOST_NUMBER : Tok} {t_MOST_PARTS : Tok} {t_MOST_DEAL : Tok} {t_MOST_DEEP : Tok} {t_MOST_SCALES : Tok} {t_MOST_CHOOSERS : Tok} {t_MOST_ANYS : Tok} {t_MOST_LATER : Tok} {t_GREAT : Tok} {t_MOST_SIGNS : Tok} {a_PAIRS : Addr} {a_SIGNS : Addr} {a_MARKS : Addr} {a_FORMS : Addr} {a_NUMBERS : Addr} {a_Reading : Addr} {a_HedgeError : Addr} {a_BadTree : Addr} {a_BadDeal : Addr} {a_BadText : Addr} {d_PAIRS : Option Addr} {s_PAIRS : Array Value} {m_PAIRS : Nat} {e_PAIRS : Array (Option Value)} {d_SIGNS : Option Addr} {s_SIGNS : Array Value} {m_SIGNS : Nat} {e_SIGNS : Array (Option Value)} {es_FORMS : Array DictEntry} {n_es_FORMS : Nat} {es_NUMBERS : Array DictEntry} {n_es_NUMBERS : Nat} {es_MARKS : Array DictEntry} {n_es_MARKS : Nat} {k_w_none : Addr} {d_w_none : Option Addr} {s_w_none : Array Value} {m_w_none : Nat} {e_w_none : Array (Option Value)} {k_w_coin : Addr} {d_w_coin : Option Addr} {s_w_coin : Array Value} {m_w_coin : Nat} {e_w_coin : Array (Option Value)} {k_w_give : Addr} {d_w_give : Option Addr} {s_w_give : Array Value} {m_w_give : Nat} {e_w_give : Array (Option Value)} {k_w_both : Addr} {d_w_both : Option Addr} {s_w_both : Array Value} {m_w_both : Nat} {e_w_both : Array (Option Value)} {k_w_either : Addr} {d_w_either : Option Addr} {s_w_either : Array Value} {m_w_either : Nat} {e_w_either : Array (Option Value)} {k_w_later : Addr} {d_w_later : Option Addr} {s_w_later : Array Value} {m_w_later : Nat} {e_w_later : Array (Option Value)} {k_w_once : Addr} {d_w_once : Option Addr} {s_w_once : Array Value} {m_w_once : Nat} {e_w_once : Array (Option Value)} {k_w_until : Addr} {d_w_until : Option Addr} {s_w_until : Array Value} {m_w_until : Nat} {e_w_until : Array (Option Value)} {k_w_any : Addr} {d_w_any : Option Addr} {s_w_any : Array Value} {m_w_any : Nat} {e_w_any : Array (Option Value)} {k_w_scale : Addr} {d_w_scale : Option Addr} {s_w_scale : Array Value} {m_w_scale : Nat} {e_w_scale : Array (Option Value)} {k_w_by : Addr} {d_w_by : Option Addr} {s_w_by : Array Value} {m_w_by : Nat} {e_w_by : Array (Option Value)} {k_w_price : Addr} {d_w_price : Option Addr} {s_w_price : Array Value} {m_w_price : Nat} {e_w_price : Array (Option Value)} {k_w_time : Addr} {d_w_time : Option Addr} {s_w_time : Array Value} {m_w_time : Nat} {e_w_time : Array (Option Value)} {k_w_most : Addr} {d_w_most : Option Addr} {s_w_most : Array Value} {m_w_most : Nat} {e_w_most : Array (Option Value)} {k_w_least : Addr} {d_w_least : Option Addr} {s_w_least : Array Value} {m_w_least : Nat} {e_w_least : Array (Option Value)} {tm_plus : Tok} {tm_minus : Tok} {tm_times : Tok} {tm_below : Tok} {tm_upto : Tok} {f_is_whole : Addr} {oc_is_whole kV_is_whole dc_is_whole pm_is_whole cd_is_whole ct_is_whole : Value} {od_is_whole an_is_whole : Option Addr} {sl_is_whole : Array (Option Value)} {f_is_among : Addr} {oc_is_among kV_is_among dc_is_among pm_is_among cd_is_among ct_is_among : Value} {od_is_among an_is_among : Option Addr} {sl_is_among : Array (Option Value)} {f_common : Addr} {oc_common kV_common dc_common pm_common cd_common ct_common : Value} {od_common an_common : Option Addr} {sl_common : Array (Option Value)} {f_is_share : Addr} {oc_is_share kV_is_share dc_is_share pm_is_share cd_is_share ct_is_share : Value} {od_is_share an_is_share : Option Addr} {sl_is_share : Array (Option Value)} {f_number_of : Addr} {oc_number_of kV_number_of dc_number_of pm_number_of cd_number_of ct_number_of : Value} {od_number_of an_number_of : Option Addr} {sl_number_of : Array (Option Value)} {f_share_of : Addr} {oc_share_of kV_share_of dc_share_of pm_share_of cd_share_of ct_share_of : Value} {od_share_of an_share_of : Option Addr} {sl_share_of : Array (Option Value)} {f_has_kind : Addr} {oc_has_kind kV_has_kind dc_has_kind pm_has_kind cd_has_kind ct_has_kind : Value} {od_has_kind an_has_kind : Option Addr} {sl_has_kind : Array (Option Value)} {f_amount_parts : Addr} {oc_amount_parts kV_amount_parts dc_amount_parts pm_amount_parts cd_amount_parts ct_amount_parts : Value} {od_amount_parts an_amount_parts : Option Addr} {sl_amount_parts : Array (Option Value)} {f_sign_parts : Addr} {oc_sign_parts kV_sign_parts dc_sign_parts pm_sign_parts cd_sign_parts ct_sign_parts : Value} {od_sign_parts an_sign_parts : Option Addr} {sl_sign_parts : Array (Option Value)} {f_refuse : Addr} {oc_refuse kV_refuse dc_refuse pm_refuse cd_refuse ct_refuse : Value} {od_refuse an_refuse : Option Addr} {sl_refuse : Array (Option Value)} {f_need_parts : Addr} {oc_need_parts kV_need_parts dc_need_parts pm_need_parts cd_need_parts ct_need_parts : Value} {od_need_parts an_need_parts : Option Addr} {sl_need_parts : Array (Option Value)} {f_is_small : Addr} {oc_is_small kV_is_small dc_is_small pm_is_small cd_is_small ct_is_small : Value} {od_is_small an_is_small : Option Addr} {sl_is_small : Array (Option Value)} {f_own_parts : Addr} {oc_own_parts kV_own_parts dc_own_parts pm_own_parts cd_own_parts ct_own_parts : Value} {od_own_parts an_own_parts : Option Addr} {sl_own_parts : Array (Option Value)} {f_need_within : Addr} {oc_need_within kV_need_within dc_need_within pm_need_within cd_need_within ct_need_within : Value} {od_need_within an_need_within : Option Addr} {sl_need_within : Array (Option Value)} {f_count_of : Addr} {oc_count_of kV_count_of dc_count_of pm_count_of cd_count_of ct_count_of : Value} {od_count_of an_count_of : Option Addr} {sl_count_of : Array (Option Value)} {f_choosers : Addr} {oc_choosers kV_choosers dc_choosers pm_choosers cd_choosers ct_choosers : Value} {od_choosers an_choosers : Option Addr} {sl_choosers : Array (Option Value)} {f_need_deal : Addr} {oc_need_deal kV_need_deal dc_need_deal pm_need_deal cd_need_deal ct_need_deal : Value} {od_need_deal an_need_deal : Option Addr} {sl_need_deal : Array (Option Value)} {f_is_text : Addr} {oc_is_text kV_is_text dc_is_text pm_is_text cd_is_text ct_is_text : Value} {od_is_text an_is_text : Option Addr} {sl_is_text : Array (Option Value)} {f_read_deal : Addr} {oc_read_deal kV_read_deal dc_read_deal pm_read_deal cd_read_deal ct_read_deal : Value} {od_read_deal an_read_deal : Option Addr} {sl_read_deal : Array (Option Value)} {f__law_cell : Addr} {oc__law_cell kV__law_cell dc__law_cell pm__law_cell cd__law_cell ct__law_cell : Value} {od__law_cell an__law_cell : Option Addr} {sl__law_cell : Array (Option Value)} {f__law_amount : Addr} {oc__law_amount kV__law_amount dc__law_amount pm__law_amount cd__law_amount ct__law_amount : Value} {od__law_amount an__law_amount : Option Addr} {sl__law_amount : Array (Option Value)} {f__law_sign : Addr} {oc__law_sign kV__law_sign dc__law_sign pm__law_sign cd__law_sign ct__law_sign : Value} {od__law_sign an__law_sign : Option Addr} {sl__law_sign : Array (Option Value)} {f__law_share : Addr} {oc__law_share kV__law_share dc__law_share pm__law_share cd__law_share ct__law_share : Value} {od__law_share an__law_share : Option Addr} {sl__law_share : Array (Option Value)} {f__law_deal : Addr} {oc__law_deal kV__law_deal dc__law_deal pm__law_deal cd__law_deal ct__law_deal : Value} {od__law_deal an__law_deal : Option Addr} {sl__law_deal : Array (Option Value)} {f__law_parts : Addr} {oc__law_parts kV__law_parts dc__law_parts pm__law_parts cd__law_parts ct__law_parts : Value} {od__law_parts an__law_parts : Option Addr} {sl__law_parts : Array (Option Value)} {f__law_amount_parts : Addr} {oc__law_amount_parts kV__law_amount_parts dc__law_amount_parts pm__law_amount_parts cd__law_amount_parts ct__law_amount_parts : Value} {od__law_amount_parts an__law_amount_parts : Option Addr} {sl__law_amount_parts : Array (Option Value)} {f__law_head : Addr} {oc__law_head kV__law_head dc__law_head pm__law_head cd__law_head ct__law_head : Value} {od__law_head an__law_head : Option Addr} {sl__law_head : Array (Option Value)} {f__law_long : Addr} {oc__law_long kV__law_long dc__law_long pm__law_long cd__law_long ct__law_long : Value} {od__law_long an__law_long : Option Addr} {sl__law_long : Array (Option Value)} {f__law_is_small : Addr} {oc__law_is_small kV__law_is_small dc__law_is_small pm__law_is_small cd__law_is_small ct__law_is_small : Value} {od__law_is_small an__law_is_small : Option Addr} {sl__law_is_small : Array (Option Value)} {f__law_good : Addr} {oc__law_good kV__law_good dc__law_good pm__law_good cd__law_good ct__law_good : Value} {od__law_good an__law_good : Option Addr} {sl__law_good : Array (Option Value)} {f__law_amount_text : Addr} {oc__law_amount_text kV__law_amount_text dc__law_amount_text pm__law_amount_text cd__law_amount_text ct__law_amount_text : Value} {od__law_amount_text an__law_amount_text : Option Addr} {sl__law_amount_text : Array (Option Value)} {f__law_deal_text : Addr} {oc__law_deal_text kV__law_deal_text dc__law_deal_text pm__law_deal_text cd__law_deal_text ct__law_deal_text : Value} {od__law_deal_text an__law_deal_text : Option Addr} {sl__law_deal_text : Array (Option Value)} {f__law_next : Addr} {oc__law_next kV__law_next dc__law_next pm__law_next cd__law_next ct__law_next : Value} {od__law_next an__law_next : Option Addr} {sl__law_next : Array (Option Value)} {f__law_figures : Addr} {oc__law_figures kV__law_figures dc__law_figures pm__law_figures cd__law_figures ct__law_figures : Value} {od__law_figures an__law_figures : Option Addr} {sl__law_figures : Array (Option Value)} {f__law_share_end : Addr} {oc__law_share_end kV__law_share_end dc__law_share_end pm__law_share_end cd__law_share_end ct__law_share_end : Value} {od__law_share_end an__law_share_end : Option Addr} {sl__law_share_end : Array (Option Value)} {f__law_word : Addr} {oc__law_word kV__law_word dc__law_word pm__law_word cd__law_word ct__law_word : Value} {od__law_word an__law_word : Option Addr} {sl__law_word : Array (Option Value)} {f__law_wrong : Addr} {oc__law_wrong kV__law_wrong dc__law_wrong pm__law_wrong cd__law_wrong ct__law_wrong : Value} {od__law_wrong an__law_wrong : Option Addr} {sl__law_wrong : Array (Option Value)} {f__law_deep : Addr} {oc__law_deep kV__law_deep dc__law_deep pm__law_deep cd__law_deep ct__law_deep : Value} {od__law_deep an__law_deep : Option Addr} {sl__law_deep : Array (Option Value)} {f__law_text : Addr} {oc__law_text kV__law_text dc__law_text pm__law_text cd__law_text ct__law_text : Value} {od__law_text an__law_text : Option Addr} {sl__law_text : Array (Option Value)} {f__law_split : Addr} {oc__law_split kV__law_split dc__law_split pm__law_split cd__law_split ct__law_split : Value} {od__law_split an__law_split : Option Addr} {sl__law_split : Array (Option Value)} {f__law_amount_of : Addr} {oc__law_amount_of kV__law_amount_of dc__law_amount_of pm__law_amount_of cd__law_amount_of ct__law_amount_of : Value} {od__law_amount_of an__law_amount_of : Option Addr} {sl__law_amount_of : Array (Option Value)} {f__law_share_of : Addr} {oc__law_share_of kV__law_share_of dc__law_share_of pm__law_share_of cd__law_share_of ct__law_share_of : Value} {od__law_share_of an__law_share_of : Option Addr} {sl__law_share_of : Array (Option Value)} {f__law_deal_of : Addr} {oc__law_deal_of kV__law_deal_of dc__law_deal_of pm__law_deal_of cd__law_deal_of ct__law_deal_of : Value} {od__law_deal_of an__law_deal_of : Option Addr} {sl__law_deal_of : Array (Option Value)} {f__law_found : Addr} {oc__law_found kV__law_found dc__law_found pm__law_found cd__law_found ct__law_found : Value} {od__law_found an__law_found : Option Addr} {sl__law_found : Array (Option Value)} {f_law : Addr} {oc_law kV_law dc_law pm_law cd_law ct_law : Value} {od_law an_law : Option Addr} {sl_law : Array (Option Value)} {f_R_refuse_sign : Addr} {oc_R_refuse_sign kV_R_refuse_sign dc_R_refuse_sign pm_R_refuse_sign cd_R_refuse_sign ct_R_refuse_sign : Value} {od_R_refuse_sign an_R_refuse_sign : Option Addr} {sl_R_refuse_sign : Array (Option Value)} {f_R_next_sign : Addr} {oc_R_next_sign kV_R_next_sign dc_R_next_sign pm_R_next_sign cd_R_next_sign ct_R_next_sign : Value} {od_R_next_sign an_R_next_sign : Option Addr} {sl_R_next_sign : Array (Option Value)} {f_R_take_text : Addr} {oc_R_take_text kV_R_take_text dc_R_take_text pm_R_take_text cd_R_take_text ct_R_take_text : Value} {od_R_take_text an_R_take_text : Option Addr} {sl_R_take_text : Array (Option Value)} {f_R_take_figures : Addr} {oc_R_take_figures kV_R_take_figures dc_R_take_figures pm_R_take_figures cd_R_take_figures ct_R_take_figures : Value} {od_R_take_figures an_R_take_figures : Option Addr} {sl_R_take_figures : Array (Option Value)} {f_R_take_word : Addr} {oc_R_take_word kV_R_take_word dc_R_take_word pm_R_take_word cd_R_take_word ct_R_take_word : Value} {od_R_take_word an_R_take_word : Option Addr} {sl_R_take_word : Array (Option Value)} {f_R_want_form : Addr} {oc_R_want_form kV_R_want_form dc_R_want_form pm_R_want_form cd_R_want_form ct_R_want_form : Value} {od_R_want_form an_R_want_form : Option Addr} {sl_R_want_form : Array (Option Value)} {f_R_read_amount : Addr} {oc_R_read_amount kV_R_read_amount dc_R_read_amount pm_R_read_amount cd_R_read_amount ct_R_read_amount : Value} {od_R_read_amount an_R_read_amount : Option Addr} {sl_R_read_amount : Array (Option Value)} {f_R_read_share : Addr} {oc_R_read_share kV_R_read_share dc_R_read_share pm_R_read_share cd_R_read_share ct_R_read_share : Value} {od_R_read_share an_R_read_share : Option Addr} {sl_R_read_share : Array (Option Value)} {f_R_read_part : Addr} {oc_R_read_part kV_R_read_part dc_R_read_part pm_R_read_part cd_R_read_part ct_R_read_part : Value} {od_R_read_part an_R_read_part : Option Addr} {sl_R_read_part : Array (Option Value)} {f_R_read_mark : Addr} {oc_R_read_mark kV_R_read_mark dc_R_read_mark pm_R_read_mark cd_R_read_mark ct_R_read_mark : Value} {od_R_read_mark an_R_read_mark : Option Addr} {sl_R_read_mark : Array (Option Value)} {f_R_read_next : Addr} {oc_R_read_next kV_R_read_next dc_R_read_next pm_R_read_next cd_R_read_next ct_R_read_next : Value} {od_R_read_next an_R_read_next : Option Addr} {sl_R_read_next : Array (Option Value)} {f_R___init__ : Addr} {oc_R___init__ kV_R___init__ dc_R___init__ pm_R___init__ cd_R___init__ ct_R___init__ : Value} {od_R___init__ an_R___init__ : Option Addr} {sl_R___init__ : Array (Option Value)} {B_nm B_q : Str} {B_N : Addr} {B_bs B_bm B_sub : List Value} {B_sn : List Str} {B_ab : Bool} {B_col : Option Bool} {B_dd : Option Addr} {B_m0 B_m1 B_m2 B_m3 B_m5 : Option Value} {f_BI : Addr} {oc_BI kV_BI dc_BI pm_BI cd_BI ct_BI : Value} {od_BI an_BI : Option Addr} {sl_BI : Array (Option Value)}
    (z_ValueError : PySem.W.nsIn K mainGlobals "ValueError" = some none)
    (z_abs : PySem.W.nsIn K mainGlobals "abs" = some none)
    (z_any : PySem.W.nsIn K mainGlobals "any" = some none)
    (z_bool : PySem.W.nsIn K mainGlobals "bool" = some none)
    (z_int : PySem.W.nsIn K mainGlobals "int" = some none)
    (z_isinstance : PySem.W.nsIn K mainGlobals "isinstance" = some none)
    (z_len : PySem.W.nsIn K mainGlobals "len" = some none)
    (z_list : PySem.W.nsIn K mainGlobals "list" = some none)
    (z_max : PySem.W.nsIn K mainGlobals "max" = some none)
    (z_min : PySem.W.nsIn K mainGlobals "min" = some none)
    (z_range : PySem.W.nsIn K mainGlobals "range" = some none)
    (z_repr : PySem.W.nsIn K mainGlobals "repr" = some none)
    (z_str : PySem.W.nsIn K mainGlobals "str" = some none)
    (z_sum : PySem.W.nsIn K mainGlobals "sum" = some none)
    (z_tuple : PySem.W.nsIn K mainGlobals "tuple" = some none)
    (i_MOST_FIGURES : PySem.W.nsIn K mainGlobals "MOST_FIGURES" = some (some (.int 400 t_MOST_FIGURES)))
    (i_FIGURES : PySem.W.nsIn K mainGlobals "FIGURES" = some (some (.str "0123456789" t_FIGURES)))
    (i_MOST_NUMBER : PySem.W.nsIn K mainGlobals "MOST_NUMBER" = some (some (.int 1000000000 t_MOST_NUMBER)))
    (i_MOST_PARTS : PySem.W.nsIn K mainGlobals "MOST_PARTS" = some (some (.int 10 t_MOST_PARTS)))
    (i_MOST_DEAL : PySem.W.nsIn K mainGlobals "MOST_DEAL" = some (some (.int 40 t_MOST_DEAL)))
    (i_MOST_DEEP : PySem.W.nsIn K mainGlobals "MOST_DEEP" = some (some (.int 12 t_MOST_DEEP)))
    (i_MOST_SCALES : PySem.W.nsIn K mainGlobals "MOST_SCALES" = some (some (.int 3 t_MOST_SCALES)))
    (i_MOST_CHOOSERS : PySem.W.nsIn K mainGlobals "MOST_CHOOSERS" = some (some (.int 4 t_MOST_CHOOSERS)))
    (i_MOST_ANYS : PySem.W.nsIn K mainGlobals "MOST_ANYS" = some (some (.int 2 t_MOST_ANYS)))
    (i_MOST_LATER : PySem.W.nsIn K mainGlobals "MOST_LATER" = some (some (.int 9 t_MOST_LATER)))
    (i_GREAT : PySem.W.nsIn K mainGlobals "GREAT" = some (some (.int 1000000000000000000000000000000 t_GREAT)))
    (i_MOST_SIGNS : PySem.W.nsIn K mainGlobals "MOST_SIGNS" = some (some (.int 2000 t_MOST_SIGNS)))
    (n_PAIRS : PySem.W.nsIn K mainGlobals "PAIRS" = some (some (.ref a_PAIRS)))
    (n_SIGNS : PySem.W.nsIn K mainGlobals "SIGNS" = some (some (.ref a_SIGNS)))
    (n_MARKS : PySem.W.nsIn K mainGlobals "MARKS" = some (some (.ref a_MARKS)))
    (n_FORMS : PySem.W.nsIn K mainGlobals "FORMS" = some (some (.ref a_FORMS)))
    (n_NUMBERS : PySem.W.nsIn K mainGlobals "NUMBERS" = some (some (.ref a_NUMBERS)))
    (n_Reading : PySem.W.nsIn K mainGlobals "Reading" = some (some (.ref a_Reading)))
    (n_HedgeError : PySem.W.nsIn K mainGlobals "HedgeError" = some (some (.ref a_HedgeError)))
    (n_BadTree : PySem.W.nsIn K mainGlobals "BadTree" = some (some (.ref a_BadTree)))
    (n_BadDeal : PySem.W.nsIn K mainGlobals "BadDeal" = some (some (.ref a_BadDeal)))
    (n_BadText : PySem.W.nsIn K mainGlobals "BadText" = some (some (.ref a_BadText)))
    (lt_PAIRS : K.lookup a_PAIRS = some ⟨.type "tuple", d_PAIRS, .seq s_PAIRS m_PAIRS, e_PAIRS⟩)
    (vt_PAIRS : Vals [V.str "plus", V.str "minus", V.str "times", V.str "most", V.str "least"] s_PAIRS.toList)
    (zt_PAIRS : s_PAIRS.size ≤ sizeLine)
    (lt_SIGNS : K.lookup a_SIGNS = some ⟨.type "tuple", d_SIGNS, .seq s_SIGNS m_SIGNS, e_SIGNS⟩)
    (vt_SIGNS : Vals [V.str "below", V.str "upto"] s_SIGNS.toList)
    (zt_SIGNS : s_SIGNS.size ≤ sizeLine)
    (ld_FORMS : K.lookup a_FORMS = some ⟨.type "dict", none, .dict es_FORMS n_es_FORMS, #[]⟩)
    (kl_FORMS : PySem.W.KeysLit w.params es_FORMS.toList)
    (ne_FORMS : (a_FORMS == sysModules) = false)
    (vk_FORMS : Vals [V.str "none", V.str "coin", V.str "give", V.str "both", V.str "either", V.str "later", V.str "once", V.str "until", V.str "any", V.str "scale", V.str "by"] (es_FORMS.toList.map (·.key)))
    (ld_NUMBERS : K.lookup a_NUMBERS = some ⟨.type "dict", none, .dict es_NUMBERS n_es_NUMBERS, #[]⟩)
    (kl_NUMBERS : PySem.W.KeysLit w.params es_NUMBERS.toList)
    (ne_NUMBERS : (a_NUMBERS == sysModules) = false)
    (vk_NUMBERS : Vals [V.str "price", V.str "time", V.str "most", V.str "least"] (es_NUMBERS.toList.map (·.key)))
    (ld_MARKS : K.lookup a_MARKS = some ⟨.type "dict", none, .dict es_MARKS n_es_MARKS, #[]⟩)
    (kl_MARKS : PySem.W.KeysLit w.params es_MARKS.toList)
    (ne_MARKS : (a_MARKS == sysModules) = false)
    (vk_MARKS : Vals [V.str "plus", V.str "minus", V.str "times", V.str "below", V.str "upto"] (es_MARKS.toList.map (·.key)))
    (g_w_none : PySem.W.nsIn K a_FORMS "none" = some (some (.ref k_w_none)))
    (lt_w_none : K.lookup k_w_none = some ⟨.type "tuple", d_w_none, .seq s_w_none m_w_none, e_w_none⟩)
    (vt_w_none : Vals [] s_w_none.toList)
    (zt_w_none : s_w_none.size ≤ sizeLine)
    (g_w_coin : PySem.W.nsIn K a_FORMS "coin" = some (some (.ref k_w_coin)))
    (lt_w_coin : K.lookup k_w_coin = some ⟨.type "tuple", d_w_coin, .seq s_w_coin m_w_coin, e_w_coin⟩)
    (vt_w_coin : Vals [V.str "amount"] s_w_coin.toList)
    (zt_w_coin : s_w_coin.size ≤ sizeLine)
    (g_w_give : PySem.W.nsIn K a_FORMS "give" = some (some (.ref k_w_give)))
    (lt_w_give : K.lookup k_w_give = some ⟨.type "tuple", d_w_give, .seq s_w_give m_w_give, e_w_give⟩)
    (vt_w_give : Vals [V.str "deal"] s_w_give.toList)
    (zt_w_give : s_w_give.size ≤ sizeLine)
    (g_w_both : PySem.W.nsIn K a_FORMS "both" = some (some (.ref k_w_both)))
    (lt_w_both : K.lookup k_w_both = some ⟨.type "tuple", d_w_both, .seq s_w_both m_w_both, e_w_both⟩)
    (vt_w_both : Vals [V.str "deal", V.str "deal"] s_w_both.toList)
    (zt_w_both : s_w_both.size ≤ sizeLine)
    (g_w_either : PySem.W.nsIn K a_FORMS "either" = some (some (.ref k_w_either)))
    (lt_w_either : K.lookup k_w_either = some ⟨.type "tuple", d_w_either, .seq s_w_either m_w_either, e_w_either⟩)
    (vt_w_either : Vals [V.str "deal", V.str "deal"] s_w_either.toList)
    (zt_w_either : s_w_either.size ≤ sizeLine)
    (g_w_later : PySem.W.nsIn K a_FORMS "later" = some (some (.ref k_w_later)))
    (lt_w_later : K.lookup k_w_later = some ⟨.type "tuple", d_w_later, .seq s_w_later m_w_later, e_w_later⟩)
    (vt_w_later : Vals [V.str "figure", V.str "deal"] s_w_later.toList)
    (zt_w_later : s_w_later.size ≤ sizeLine)
    (g_w_once : PySem.W.nsIn K a_FORMS "once" = some (some (.ref k_w_once)))
    (lt_w_once : K.lookup k_w_once = some ⟨.type "tuple", d_w_once, .seq s_w_once m_w_once, e_w_once⟩)
    (vt_w_once : Vals [V.str "sign", V.str "deal"] s_w_once.toList)
    (zt_w_once : s_w_once.size ≤ sizeLine)
    (g_w_until : PySem.W.nsIn K a_FORMS "until" = some (some (.ref k_w_until)))
    (lt_w_until : K.lookup k_w_until = some ⟨.type "tuple", d_w_until, .seq s_w_until m_w_until, e_w_until⟩)
    (vt_w_until : Vals [V.str "sign", V.str "deal"] s_w_until.toList)
    (zt_w_until : s_w_until.size ≤ sizeLine)
    (g_w_any : PySem.W.nsIn K a_FORMS "any" = some (some (.ref k_w_any)))
    (lt_w_any : K.lookup k_w_any = some ⟨.type "tuple", d_w_any, .seq s_w_any m_w_any, e_w_any⟩)
    (vt_w_any : Vals [V.str "deal"] s_w_any.toList)
    (zt_w_any : s_w_any.size ≤ sizeLine)
    (g_w_scale : PySem.W.nsIn K a_FORMS "scale" = some (some (.ref k_w_scale)))
    (lt_w_scale : K.lookup k_w_scale = some ⟨.type "tuple", d_w_scale, .seq s_w_scale m_w_scale, e_w_scale⟩)
    (vt_w_scale : Vals [V.str "amount", V.str "deal"] s_w_scale.toList)
    (zt_w_scale : s_w_scale.size ≤ sizeLine)
    (g_w_by : PySem.W.nsIn K a_FORMS "by" = some (some (.ref k_w_by)))
    (lt_w_by : K.lookup k_w_by = some ⟨.type "tuple", d_w_by, .seq s_w_by m_w_by, e_w_by⟩)
    (vt_w_by : Vals [V.str "share", V.str "deal"] s_w_by.toList)
    (zt_w_by : s_w_by.size ≤ sizeLine)
    (g_w_price : PySem.W.nsIn K a_NUMBERS "price" = some (some (.ref k_w_price)))
    (lt_w_price : K.lookup k_w_price = some ⟨.type "tuple", d_w_price, .seq s_w_price m_w_price, e_w_price⟩)
    (vt_w_price : Vals [] s_w_price.toList)
    (zt_w_price : s_w_price.size ≤ sizeLine)
    (g_w_time : PySem.W.nsIn K a_NUMBERS "time" = some (some (.ref k_w_time)))
    (lt_w_time : K.lookup k_w_time = some ⟨.type "tuple", d_w_time, .seq s_w_time m_w_time, e_w_time⟩)
    (vt_w_time : Vals [] s_w_time.toList)
    (zt_w_time : s_w_time.size ≤ sizeLine)
    (g_w_most : PySem.W.nsIn K a_NUMBERS "most" = some (some (.ref k_w_most)))
    (lt_w_most : K.lookup k_w_most = some ⟨.type "tuple", d_w_most, .seq s_w_most m_w_most, e_w_most⟩)
    (vt_w_most : Vals [V.str "amount", V.str "amount"] s_w_most.toList)
    (zt_w_most : s_w_most.size ≤ sizeLine)
    (g_w_least : PySem.W.nsIn K a_NUMBERS "least" = some (some (.ref k_w_least)))
    (lt_w_least : K.lookup k_w_least = some ⟨.type "tuple", d_w_least, .seq s_w_least m_w_least, e_w_least⟩)
    (vt_w_least : Vals [V.str "amount", V.str "amount"] s_w_least.toList)
    (zt_w_least : s_w_least.size ≤ sizeLine)
    (g_m_plus : PySem.W.nsIn K a_MARKS "plus" = some (some (.str " + " tm_plus)))
    (g_m_minus : PySem.W.nsIn K a_MARKS "minus" = some (some (.str " - " tm_minus)))
    (g_m_times : PySem.W.nsIn K a_MARKS "times" = some (some (.str " * " tm_times)))
    (g_m_below : PySem.W.nsIn K a_MARKS "below" = some (some (.str " < " tm_below)))
    (g_m_upto : PySem.W.nsIn K a_MARKS "upto" = some (some (.str " <= " tm_upto)))
    (n_is_whole : PySem.W.nsIn K mainGlobals "is_whole" = some (some (.ref f_is_whole)))
    (l_is_whole : K.lookup f_is_whole = some ⟨oc_is_whole, od_is_whole, .func (PySem.W.fnOf "is_whole" "is_whole" (L2.defArgs s_is_whole) (L2.defBody s_is_whole) (L2.defScope s_is_whole) .none kV_is_whole dc_is_whole pm_is_whole an_is_whole cd_is_whole ct_is_whole), sl_is_whole⟩)
    (c_is_whole : PySem.W.codeIn K cd_is_whole "is_whole" = true)
    (k_is_whole : PySem.W.keepIn K (.ref f_is_whole) = true)
    (n_is_among : PySem.W.nsIn K mainGlobals "is_among" = some (some (.ref f_is_among)))
    (l_is_among : K.lookup f_is_among = some ⟨oc_is_among, od_is_among, .func (PySem.W.fnOf "is_among" "is_among" (L2.defArgs s_is_among) (L2.defBody s_is_among) (L2.defScope s_is_among) .none kV_is_among dc_is_among pm_is_among an_is_among cd_is_among ct_is_among), sl_is_among⟩)
    (c_is_among : PySem.W.codeIn K cd_is_among "is_among" = true)
    (k_is_among : PySem.W.keepIn K (.ref f_is_among) = true)
    (n_common : PySem.W.nsIn K mainGlobals "common" = some (some (.ref f_common)))
    (l_common : K.lookup f_common = some ⟨oc_common, od_common, .func (PySem.W.fnOf "common" "common" (L2.defArgs s_common) (L2.defBody s_common) (L2.defScope s_common) .none kV_common dc_common pm_common an_common cd_common ct_common), sl_common⟩)
    (c_common : PySem.W.codeIn K cd_common "common" = true)
    (k_common : PySem.W.keepIn K (.ref f_common) = true)
    (n_is_share : PySem.W.nsIn K mainGlobals "is_share" = some (some (.ref f_is_share)))
    (l_is_share : K.lookup f_is_share = some ⟨oc_is_share, od_is_share, .func (PySem.W.fnOf "is_share" "is_share" (L2.defArgs s_is_share) (L2.defBody s_is_share) (L2.defScope s_is_share) .none kV_is_share dc_is_share pm_is_share an_is_share cd_is_share ct_is_share), sl_is_share⟩)
    (c_is_share : PySem.W.codeIn K cd_is_share "is_share" = true)
    (k_is_share : PySem.W.keepIn K (.ref f_is_share) = true)
    (n_number_of : PySem.W.nsIn K mainGlobals "number_of" = some (some (.ref f_number_of)))
    (l_number_of : K.lookup f_number_of = some ⟨oc_number_of, od_number_of, .func (PySem.W.fnOf "number_of" "number_of" (L2.defArgs s_number_of) (L2.defBody s_number_of) (L2.defScope s_number_of) .none kV_number_of dc_number_of pm_number_of an_number_of cd_number_of ct_number_of), sl_number_of⟩)
    (c_number_of : PySem.W.codeIn K cd_number_of "number_of" = true)
    (k_number_of : PySem.W.keepIn K (.ref f_number_of) = true)
    (n_share_of : PySem.W.nsIn K mainGlobals "share_of" = some (some (.ref f_share_of)))
    (l_share_of : K.lookup f_share_of = some ⟨oc_share_of, od_share_of, .func (PySem.W.fnOf "share_of" "share_of" (L2.defArgs s_share_of) (L2.defBody s_share_of) (L2.defScope s_share_of) .none kV_share_of dc_share_of pm_share_of an_share_of cd_share_of ct_share_of), sl_share_of⟩)
    (c_share_of : PySem.W.codeIn K cd_share_of "share_of" = true)
    (k_share_of : PySem.W.keepIn K (.ref f_share_of) = true)
    (n_has_kind : PySem.W.nsIn K mainGlobals "has_kind" = some (some (.ref f_has_kind)))
    (l_has_kind : K.lookup f_has_kind = some ⟨oc_has_kind, od_has_kind, .func (PySem.W.fnOf "has_kind" "has_kind" (L2.defArgs s_has_kind) (L2.defBody s_has_kind) (L2.defScope s_has_kind) .none kV_has_kind dc_has_kind pm_has_kind an_has_kind cd_has_kind ct_has_kind), sl_has_kind⟩)
    (c_has_kind : PySem.W.codeIn K cd_has_kind "has_kind" = true)
    (k_has_kind : PySem.W.keepIn K (.ref f_has_kind) = true)
    (n_amount_parts : PySem.W.nsIn K mainGlobals "amount_parts" = some (some (.ref f_amount_parts)))
    (l_amount_parts : K.lookup f_amount_parts = some ⟨oc_amount_parts, od_amount_parts, .func (PySem.W.fnOf "amount_parts" "amount_parts" (L2.defArgs s_amount_parts) (L2.defBody s_amount_parts) (L2.defScope s_amount_parts) .none kV_amount_parts dc_amount_parts pm_amount_parts an_amount_parts cd_amount_parts ct_amount_parts), sl_amount_parts⟩)
    (c_amount_parts : PySem.W.codeIn K cd_amount_parts "amount_parts" = true)
    (k_amount_parts : PySem.W.keepIn K (.ref f_amount_parts) = true)
    (n_sign_parts : PySem.W.nsIn K mainGlobals "sign_parts" = some (some (.ref f_sign_parts)))
    (l_sign_parts : K.lookup f_sign_parts = some ⟨oc_sign_parts, od_sign_parts, .func (PySem.W.fnOf "sign_parts" "sign_parts" (L2.defArgs s_sign_parts) (L2.defBody s_sign_parts) (L2.defScope s_sign_parts) .none kV_sign_parts dc_sign_parts pm_sign_parts an_sign_parts cd_sign_parts ct_sign_parts), sl_sign_parts⟩)
    (c_sign_parts : PySem.W.codeIn K cd_sign_parts "sign_parts" = true)
    (k_sign_parts : PySem.W.keepIn K (.ref f_sign_parts) = true)
    (n_refuse : PySem.W.nsIn K mainGlobals "refuse" = some (some (.ref f_refuse)))
    (l_refuse : K.lookup f_refuse = some ⟨oc_refuse, od_refuse, .func (PySem.W.fnOf "refuse" "refuse" (L2.defArgs s_refuse) (L2.defBody s_refuse) (L2.defScope s_refuse) .none kV_refuse dc_refuse pm_refuse an_refuse cd_refuse ct_refuse), sl_refuse⟩)
    (c_refuse : PySem.W.codeIn K cd_refuse "refuse" = true)
    (k_refuse : PySem.W.keepIn K (.ref f_refuse) = true)
    (n_need_parts : PySem.W.nsIn K mainGlobals "need_parts" = some (some (.ref f_need_parts)))
    (l_need_parts : K.lookup f_need_parts = some ⟨oc_need_parts, od_need_parts, .func (PySem.W.fnOf "need_parts" "need_parts" (L2.defArgs s_need_parts) (L2.defBody s_need_parts) (L2.defScope s_need_parts) .none kV_need_parts dc_need_parts pm_need_parts an_need_parts cd_need_parts ct_need_parts), sl_need_parts⟩)
    (c_need_parts : PySem.W.codeIn K cd_need_parts "need_parts" = true)
    (k_need_parts : PySem.W.keepIn K (.ref f_need_parts) = true)
    (n_is_small : PySem.W.nsIn K mainGlobals "is_small" = some (some (.ref f_is_small)))
    (l_is_small : K.lookup f_is_small = some ⟨oc_is_small, od_is_small, .func (PySem.W.fnOf "is_small" "is_small" (L2.defArgs s_is_small) (L2.defBody s_is_small) (L2.defScope s_is_small) .none kV_is_small dc_is_small pm_is_small an_is_small cd_is_small ct_is_small), sl_is_small⟩)
    (c_is_small : PySem.W.codeIn K cd_is_small "is_small" = true)
    (k_is_small : PySem.W.keepIn K (.ref f_is_small) = true)
    (n_own_parts : PySem.W.nsIn K mainGlobals "own_parts" = some (some (.ref f_own_parts)))
    (l_own_parts : K.lookup f_own_parts = some ⟨oc_own_parts, od_own_parts, .func (PySem.W.fnOf "own_parts" "own_parts" (L2.defArgs s_own_parts) (L2.defBody s_own_parts) (L2.defScope s_own_parts) .none kV_own_parts dc_own_parts pm_own_parts an_own_parts cd_own_parts ct_own_parts), sl_own_parts⟩)
    (c_own_parts : PySem.W.codeIn K cd_own_parts "own_parts" = true)
    (k_own_parts : PySem.W.keepIn K (.ref f_own_parts) = true)
    (n_need_within : PySem.W.nsIn K mainGlobals "need_within" = some (some (.ref f_need_within)))
    (l_need_within : K.lookup f_need_within = some ⟨oc_need_within, od_need_within, .func (PySem.W.fnOf "need_within" "need_within" (L2.defArgs s_need_within) (L2.defBody s_need_within) (L2.defScope s_need_within) .none kV_need_within dc_need_within pm_need_within an_need_within cd_need_within ct_need_within), sl_need_within⟩)
    (c_need_within : PySem.W.codeIn K cd_need_within "need_within" = true)
    (k_need_within : PySem.W.keepIn K (.ref f_need_within) = true)
    (n_count_of : PySem.W.nsIn K mainGlobals "count_of" = some (some (.ref f_count_of)))
    (l_count_of : K.lookup f_count_of = some ⟨oc_count_of, od_count_of, .func (PySem.W.fnOf "count_of" "count_of" (L2.defArgs s_count_of) (L2.defBody s_count_of) (L2.defScope s_count_of) .none kV_count_of dc_count_of pm_count_of an_count_of cd_count_of ct_count_of), sl_count_of⟩)
    (c_count_of : PySem.W.codeIn K cd_count_of "count_of" = true)
    (k_count_of : PySem.W.keepIn K (.ref f_count_of) = true)
    (n_choosers : PySem.W.nsIn K mainGlobals "choosers" = some (some (.ref f_choosers)))
    (l_choosers : K.lookup f_choosers = some ⟨oc_choosers, od_choosers, .func (PySem.W.fnOf "choosers" "choosers" (L2.defArgs s_choosers) (L2.defBody s_choosers) (L2.defScope s_choosers) .none kV_choosers dc_choosers pm_choosers an_choosers cd_choosers ct_choosers), sl_choosers⟩)
    (c_choosers : PySem.W.codeIn K cd_choosers "choosers" = true)
    (k_choosers : PySem.W.keepIn K (.ref f_choosers) = true)
    (n_need_deal : PySem.W.nsIn K mainGlobals "need_deal" = some (some (.ref f_need_deal)))
    (l_need_deal : K.lookup f_need_deal = some ⟨oc_need_deal, od_need_deal, .func (PySem.W.fnOf "need_deal" "need_deal" (L2.defArgs s_need_deal) (L2.defBody s_need_deal) (L2.defScope s_need_deal) .none kV_need_deal dc_need_deal pm_need_deal an_need_deal cd_need_deal ct_need_deal), sl_need_deal⟩)
    (c_need_deal : PySem.W.codeIn K cd_need_deal "need_deal" = true)
    (k_need_deal : PySem.W.keepIn K (.ref f_need_deal) = true)
    (n_is_text : PySem.W.nsIn K mainGlobals "is_text" = some (some (.ref f_is_text)))
    (l_is_text : K.lookup f_is_text = some ⟨oc_is_text, od_is_text, .func (PySem.W.fnOf "is_text" "is_text" (L2.defArgs s_is_text) (L2.defBody s_is_text) (L2.defScope s_is_text) .none kV_is_text dc_is_text pm_is_text an_is_text cd_is_text ct_is_text), sl_is_text⟩)
    (c_is_text : PySem.W.codeIn K cd_is_text "is_text" = true)
    (k_is_text : PySem.W.keepIn K (.ref f_is_text) = true)
    (n_read_deal : PySem.W.nsIn K mainGlobals "read_deal" = some (some (.ref f_read_deal)))
    (l_read_deal : K.lookup f_read_deal = some ⟨oc_read_deal, od_read_deal, .func (PySem.W.fnOf "read_deal" "read_deal" (L2.defArgs s_read_deal) (L2.defBody s_read_deal) (L2.defScope s_read_deal) .none kV_read_deal dc_read_deal pm_read_deal an_read_deal cd_read_deal ct_read_deal), sl_read_deal⟩)
    (c_read_deal : PySem.W.codeIn K cd_read_deal "read_deal" = true)
    (k_read_deal : PySem.W.keepIn K (.ref f_read_deal) = true)
    (n__law_cell : PySem.W.nsIn K mainGlobals "_law_cell" = some (some (.ref f__law_cell)))
    (l__law_cell : K.lookup f__law_cell = some ⟨oc__law_cell, od__law_cell, .func (PySem.W.fnOf "_law_cell" "_law_cell" (L2.defArgs s__law_cell) (L2.defBody s__law_cell) (L2.defScope s__law_cell) .none kV__law_cell dc__law_cell pm__law_cell an__law_cell cd__law_cell ct__law_cell), sl__law_cell⟩)
    (c__law_cell : PySem.W.codeIn K cd__law_cell "_law_cell" = true)
    (k__law_cell : PySem.W.keepIn K (.ref f__law_cell) = true)
    (n__law_amount : PySem.W.nsIn K mainGlobals "_law_amount" = some (some (.ref f__law_amount)))
    (l__law_amount : K.lookup f__law_amount = some ⟨oc__law_amount, od__law_amount, .func (PySem.W.fnOf "_law_amount" "_law_amount" (L2.defArgs s__law_amount) (L2.defBody s__law_amount) (L2.defScope s__law_amount) .none kV__law_amount dc__law_amount pm__law_amount an__law_amount cd__law_amount ct__law_amount), sl__law_amount⟩)
    (c__law_amount : PySem.W.codeIn K cd__law_amount "_law_amount" = true)
    (k__law_amount : PySem.W.keepIn K (.ref f__law_amount) = true)
    (n__law_sign : PySem.W.nsIn K mainGlobals "_law_sign" = some (some (.ref f__law_sign)))
    (l__law_sign : K.lookup f__law_sign = some ⟨oc__law_sign, od__law_sign, .func (PySem.W.fnOf "_law_sign" "_law_sign" (L2.defArgs s__law_sign) (L2.defBody s__law_sign) (L2.defScope s__law_sign) .none kV__law_sign dc__law_sign pm__law_sign an__law_sign cd__law_sign ct__law_sign), sl__law_sign⟩)
    (c__law_sign : PySem.W.codeIn K cd__law_sign "_law_sign" = true)
    (k__law_sign : PySem.W.keepIn K (.ref f__law_sign) = true)
    (n__law_share : PySem.W.nsIn K mainGlobals "_law_share" = some (some (.ref f__law_share)))
    (l__law_share : K.lookup f__law_share = some ⟨oc__law_share, od__law_share, .func (PySem.W.fnOf "_law_share" "_law_share" (L2.defArgs s__law_share) (L2.defBody s__law_share) (L2.defScope s__law_share) .none kV__law_share dc__law_share pm__law_share an__law_share cd__law_share ct__law_share), sl__law_share⟩)
    (c__law_share : PySem.W.codeIn K cd__law_share "_law_share" = true)
    (k__law_share : PySem.W.keepIn K (.ref f__law_share) = true)
    (n__law_deal : PySem.W.nsIn K mainGlobals "_law_deal" = some (some (.ref f__law_deal)))
    (l__law_deal : K.lookup f__law_deal = some ⟨oc__law_deal, od__law_deal, .func (PySem.W.fnOf "_law_deal" "_law_deal" (L2.defArgs s__law_deal) (L2.defBody s__law_deal) (L2.defScope s__law_deal) .none kV__law_deal dc__law_deal pm__law_deal an__law_deal cd__law_deal ct__law_deal), sl__law_deal⟩)
    (c__law_deal : PySem.W.codeIn K cd__law_deal "_law_deal" = true)
    (k__law_deal : PySem.W.keepIn K (.ref f__law_deal) = true)
    (n__law_parts : PySem.W.nsIn K mainGlobals "_law_parts" = some (some (.ref f__law_parts)))
    (l__law_parts : K.lookup f__law_parts = some ⟨oc__law_parts, od__law_parts, .func (PySem.W.fnOf "_law_parts" "_law_parts" (L2.defArgs s__law_parts) (L2.defBody s__law_parts) (L2.defScope s__law_parts) .none kV__law_parts dc__law_parts pm__law_parts an__law_parts cd__law_parts ct__law_parts), sl__law_parts⟩)
    (c__law_parts : PySem.W.codeIn K cd__law_parts "_law_parts" = true)
    (k__law_parts : PySem.W.keepIn K (.ref f__law_parts) = true)
    (n__law_amount_parts : PySem.W.nsIn K mainGlobals "_law_amount_parts" = some (some (.ref f__law_amount_parts)))
    (l__law_amount_parts : K.lookup f__law_amount_parts = some ⟨oc__law_amount_parts, od__law_amount_parts, .func (PySem.W.fnOf "_law_amount_parts" "_law_amount_parts" (L2.defArgs s__law_amount_parts) (L2.defBody s__law_amount_parts) (L2.defScope s__law_amount_parts) .none kV__law_amount_parts dc__law_amount_parts pm__law_amount_parts an__law_amount_parts cd__law_amount_parts ct__law_amount_parts), sl__law_amount_parts⟩)
    (c__law_amount_parts : PySem.W.codeIn K cd__law_amount_parts "_law_amount_parts" = true)
    (k__law_amount_parts : PySem.W.keepIn K (.ref f__law_amount_parts) = true)
    (n__law_head : PySem.W.nsIn K mainGlobals "_law_head" = some (some (.ref f__law_head)))
    (l__law_head : K.lookup f__law_head = some ⟨oc__law_head, od__law_head, .func (PySem.W.fnOf "_law_head" "_law_head" (L2.defArgs s__law_head) (L2.defBody s__law_head) (L2.defScope s__law_head) .none kV__law_head dc__law_head pm__law_head an__law_head cd__law_head ct__law_head), sl__law_head⟩)
    (c__law_head : PySem.W.codeIn K cd__law_head "_law_head" = true)
    (k__law_head : PySem.W.keepIn K (.ref f__law_head) = true)
    (n__law_long : PySem.W.nsIn K mainGlobals "_law_long" = some (some (.ref f__law_long)))
    (l__law_long : K.lookup f__law_long = some ⟨oc__law_long, od__law_long, .func (PySem.W.fnOf "_law_long" "_law_long" (L2.defArgs s__law_long) (L2.defBody s__law_long) (L2.defScope s__law_long) .none kV__law_long dc__law_long pm__law_long an__law_long cd__law_long ct__law_long), sl__law_long⟩)
    (c__law_long : PySem.W.codeIn K cd__law_long "_law_long" = true)
    (k__law_long : PySem.W.keepIn K (.ref f__law_long) = true)
    (n__law_is_small : PySem.W.nsIn K mainGlobals "_law_is_small" = some (some (.ref f__law_is_small)))
    (l__law_is_small : K.lookup f__law_is_small = some ⟨oc__law_is_small, od__law_is_small, .func (PySem.W.fnOf "_law_is_small" "_law_is_small" (L2.defArgs s__law_is_small) (L2.defBody s__law_is_small) (L2.defScope s__law_is_small) .none kV__law_is_small dc__law_is_small pm__law_is_small an__law_is_small cd__law_is_small ct__law_is_small), sl__law_is_small⟩)
    (c__law_is_small : PySem.W.codeIn K cd__law_is_small "_law_is_small" = true)
    (k__law_is_small : PySem.W.keepIn K (.ref f__law_is_small) = true)
    (n__law_good : PySem.W.nsIn K mainGlobals "_law_good" = some (some (.ref f__law_good)))
    (l__law_good : K.lookup f__law_good = some ⟨oc__law_good, od__law_good, .func (PySem.W.fnOf "_law_good" "_law_good" (L2.defArgs s__law_good) (L2.defBody s__law_good) (L2.defScope s__law_good) .none kV__law_good dc__law_good pm__law_good an__law_good cd__law_good ct__law_good), sl__law_good⟩)
    (c__law_good : PySem.W.codeIn K cd__law_good "_law_good" = true)
    (k__law_good : PySem.W.keepIn K (.ref f__law_good) = true)
    (n__law_amount_text : PySem.W.nsIn K mainGlobals "_law_amount_text" = some (some (.ref f__law_amount_text)))
    (l__law_amount_text : K.lookup f__law_amount_text = some ⟨oc__law_amount_text, od__law_amount_text, .func (PySem.W.fnOf "_law_amount_text" "_law_amount_text" (L2.defArgs s__law_amount_text) (L2.defBody s__law_amount_text) (L2.defScope s__law_amount_text) .none kV__law_amount_text dc__law_amount_text pm__law_amount_text an__law_amount_text cd__law_amount_text ct__law_amount_text), sl__law_amount_text⟩)
    (c__law_amount_text : PySem.W.codeIn K cd__law_amount_text "_law_amount_text" = true)
    (k__law_amount_text : PySem.W.keepIn K (.ref f__law_amount_text) = true)
    (n__law_deal_text : PySem.W.nsIn K mainGlobals "_law_deal_text" = some (some (.ref f__law_deal_text)))
    (l__law_deal_text : K.lookup f__law_deal_text = some ⟨oc__law_deal_text, od__law_deal_text, .func (PySem.W.fnOf "_law_deal_text" "_law_deal_text" (L2.defArgs s__law_deal_text) (L2.defBody s__law_deal_text) (L2.defScope s__law_deal_text) .none kV__law_deal_text dc__law_deal_text pm__law_deal_text an__law_deal_text cd__law_deal_text ct__law_deal_text), sl__law_deal_text⟩)
    (c__law_deal_text : PySem.W.codeIn K cd__law_deal_text "_law_deal_text" = true)
    (k__law_deal_text : PySem.W.keepIn K (.ref f__law_deal_text) = true)
    (n__law_next : PySem.W.nsIn K mainGlobals "_law_next" = some (some (.ref f__law_next)))
    (l__law_next : K.lookup f__law_next = some ⟨oc__law_next, od__law_next, .func (PySem.W.fnOf "_law_next" "_law_next" (L2.defArgs s__law_next) (L2.defBody s__law_next) (L2.defScope s__law_next) .none kV__law_next dc__law_next pm__law_next an__law_next cd__law_next ct__law_next), sl__law_next⟩)
    (c__law_next : PySem.W.codeIn K cd__law_next "_law_next" = true)
    (k__law_next : PySem.W.keepIn K (.ref f__law_next) = true)
    (n__law_figures : PySem.W.nsIn K mainGlobals "_law_figures" = some (some (.ref f__law_figures)))
    (l__law_figures : K.lookup f__law_figures = some ⟨oc__law_figures, od__law_figures, .func (PySem.W.fnOf "_law_figures" "_law_figures" (L2.defArgs s__law_figures) (L2.defBody s__law_figures) (L2.defScope s__law_figures) .none kV__law_figures dc__law_figures pm__law_figures an__law_figures cd__law_figures ct__law_figures), sl__law_figures⟩)
    (c__law_figures : PySem.W.codeIn K cd__law_figures "_law_figures" = true)
    (k__law_figures : PySem.W.keepIn K (.ref f__law_figures) = true)
    (n__law_share_end : PySem.W.nsIn K mainGlobals "_law_share_end" = some (some (.ref f__law_share_end)))
    (l__law_share_end : K.lookup f__law_share_end = some ⟨oc__law_share_end, od__law_share_end, .func (PySem.W.fnOf "_law_share_end" "_law_share_end" (L2.defArgs s__law_share_end) (L2.defBody s__law_share_end) (L2.defScope s__law_share_end) .none kV__law_share_end dc__law_share_end pm__law_share_end an__law_share_end cd__law_share_end ct__law_share_end), sl__law_share_end⟩)
    (c__law_share_end : PySem.W.codeIn K cd__law_share_end "_law_share_end" = true)
    (k__law_share_end : PySem.W.keepIn K (.ref f__law_share_end) = true)
    (n__law_word : PySem.W.nsIn K mainGlobals "_law_word" = some (some (.ref f__law_word)))
    (l__law_word : K.lookup f__law_word = some ⟨oc__law_word, od__law_word, .func (PySem.W.fnOf "_law_word" "_law_word" (L2.defArgs s__law_word) (L2.defBody s__law_word) (L2.defScope s__law_word) .none kV__law_word dc__law_word pm__law_word an__law_word cd__law_word ct__law_word), sl__law_word⟩)
    (c__law_word : PySem.W.codeIn K cd__law_word "_law_word" = true)
    (k__law_word : PySem.W.keepIn K (.ref f__law_word) = true)
    (n__law_wrong : PySem.W.nsIn K mainGlobals "_law_wrong" = some (some (.ref f__law_wrong)))
    (l__law_wrong : K.lookup f__law_wrong = some ⟨oc__law_wrong, od__law_wrong, .func (PySem.W.fnOf "_law_wrong" "_law_wrong" (L2.defArgs s__law_wrong) (L2.defBody s__law_wrong) (L2.defScope s__law_wrong) .none kV__law_wrong dc__law_wrong pm__law_wrong an__law_wrong cd__law_wrong ct__law_wrong), sl__law_wrong⟩)
    (c__law_wrong : PySem.W.codeIn K cd__law_wrong "_law_wrong" = true)
    (k__law_wrong : PySem.W.keepIn K (.ref f__law_wrong) = true)
    (n__law_deep : PySem.W.nsIn K mainGlobals "_law_deep" = some (some (.ref f__law_deep)))
    (l__law_deep : K.lookup f__law_deep = some ⟨oc__law_deep, od__law_deep, .func (PySem.W.fnOf "_law_deep" "_law_deep" (L2.defArgs s__law_deep) (L2.defBody s__law_deep) (L2.defScope s__law_deep) .none kV__law_deep dc__law_deep pm__law_deep an__law_deep cd__law_deep ct__law_deep), sl__law_deep⟩)
    (c__law_deep : PySem.W.codeIn K cd__law_deep "_law_deep" = true)
    (k__law_deep : PySem.W.keepIn K (.ref f__law_deep) = true)
    (n__law_text : PySem.W.nsIn K mainGlobals "_law_text" = some (some (.ref f__law_text)))
    (l__law_text : K.lookup f__law_text = some ⟨oc__law_text, od__law_text, .func (PySem.W.fnOf "_law_text" "_law_text" (L2.defArgs s__law_text) (L2.defBody s__law_text) (L2.defScope s__law_text) .none kV__law_text dc__law_text pm__law_text an__law_text cd__law_text ct__law_text), sl__law_text⟩)
    (c__law_text : PySem.W.codeIn K cd__law_text "_law_text" = true)
    (k__law_text : PySem.W.keepIn K (.ref f__law_text) = true)
    (n__law_split : PySem.W.nsIn K mainGlobals "_law_split" = some (some (.ref f__law_split)))
    (l__law_split : K.lookup f__law_split = some ⟨oc__law_split, od__law_split, .func (PySem.W.fnOf "_law_split" "_law_split" (L2.defArgs s__law_split) (L2.defBody s__law_split) (L2.defScope s__law_split) .none kV__law_split dc__law_split pm__law_split an__law_split cd__law_split ct__law_split), sl__law_split⟩)
    (c__law_split : PySem.W.codeIn K cd__law_split "_law_split" = true)
    (k__law_split : PySem.W.keepIn K (.ref f__law_split) = true)
    (n__law_amount_of : PySem.W.nsIn K mainGlobals "_law_amount_of" = some (some (.ref f__law_amount_of)))
    (l__law_amount_of : K.lookup f__law_amount_of = some ⟨oc__law_amount_of, od__law_amount_of, .func (PySem.W.fnOf "_law_amount_of" "_law_amount_of" (L2.defArgs s__law_amount_of) (L2.defBody s__law_amount_of) (L2.defScope s__law_amount_of) .none kV__law_amount_of dc__law_amount_of pm__law_amount_of an__law_amount_of cd__law_amount_of ct__law_amount_of), sl__law_amount_of⟩)
    (c__law_amount_of : PySem.W.codeIn K cd__law_amount_of "_law_amount_of" = true)
    (k__law_amount_of : PySem.W.keepIn K (.ref f__law_amount_of) = true)
    (n__law_share_of : PySem.W.nsIn K mainGlobals "_law_share_of" = some (some (.ref f__law_share_of)))
    (l__law_share_of : K.lookup f__law_share_of = some ⟨oc__law_share_of, od__law_share_of, .func (PySem.W.fnOf "_law_share_of" "_law_share_of" (L2.defArgs s__law_share_of) (L2.defBody s__law_share_of) (L2.defScope s__law_share_of) .none kV__law_share_of dc__law_share_of pm__law_share_of an__law_share_of cd__law_share_of ct__law_share_of), sl__law_share_of⟩)
    (c__law_share_of : PySem.W.codeIn K cd__law_share_of "_law_share_of" = true)
    (k__law_share_of : PySem.W.keepIn K (.ref f__law_share_of) = true)
    (n__law_deal_of : PySem.W.nsIn K mainGlobals "_law_deal_of" = some (some (.ref f__law_deal_of)))
    (l__law_deal_of : K.lookup f__law_deal_of = some ⟨oc__law_deal_of, od__law_deal_of, .func (PySem.W.fnOf "_law_deal_of" "_law_deal_of" (L2.defArgs s__law_deal_of) (L2.defBody s__law_deal_of) (L2.defScope s__law_deal_of) .none kV__law_deal_of dc__law_deal_of pm__law_deal_of an__law_deal_of cd__law_deal_of ct__law_deal_of), sl__law_deal_of⟩)
    (c__law_deal_of : PySem.W.codeIn K cd__law_deal_of "_law_deal_of" = true)
    (k__law_deal_of : PySem.W.keepIn K (.ref f__law_deal_of) = true)
    (n__law_found : PySem.W.nsIn K mainGlobals "_law_found" = some (some (.ref f__law_found)))
    (l__law_found : K.lookup f__law_found = some ⟨oc__law_found, od__law_found, .func (PySem.W.fnOf "_law_found" "_law_found" (L2.defArgs s__law_found) (L2.defBody s__law_found) (L2.defScope s__law_found) .none kV__law_found dc__law_found pm__law_found an__law_found cd__law_found ct__law_found), sl__law_found⟩)
    (c__law_found : PySem.W.codeIn K cd__law_found "_law_found" = true)
    (k__law_found : PySem.W.keepIn K (.ref f__law_found) = true)
    (n_law : PySem.W.nsIn K mainGlobals "law" = some (some (.ref f_law)))
    (l_law : K.lookup f_law = some ⟨oc_law, od_law, .func (PySem.W.fnOf "law" "law" (L2.defArgs s_law) (L2.defBody s_law) (L2.defScope s_law) .none kV_law dc_law pm_law an_law cd_law ct_law), sl_law⟩)
    (c_law : PySem.W.codeIn K cd_law "law" = true)
    (k_law : PySem.W.keepIn K (.ref f_law) = true)
    (n_R_refuse_sign : PySem.W.findIn K (.ref a_Reading) "refuse_sign" = some (some (.ref f_R_refuse_sign)))
    (fn_R_refuse_sign : PySem.W.isFn K (.ref f_R_refuse_sign) = true)
    (l_R_refuse_sign : K.lookup f_R_refuse_sign = some ⟨oc_R_refuse_sign, od_R_refuse_sign, .func (PySem.W.fnOf "refuse_sign" "Reading.refuse_sign" (L2.defArgs s_Reading_refuse_sign) (L2.defBody s_Reading_refuse_sign) (L2.defScope s_Reading_refuse_sign) .none kV_R_refuse_sign dc_R_refuse_sign pm_R_refuse_sign an_R_refuse_sign cd_R_refuse_sign ct_R_refuse_sign), sl_R_refuse_sign⟩)
    (c_R_refuse_sign : PySem.W.codeIn K cd_R_refuse_sign "Reading.refuse_sign" = true)
    (k_R_refuse_sign : PySem.W.keepIn K (.ref f_R_refuse_sign) = true)
    (n_R_next_sign : PySem.W.findIn K (.ref a_Reading) "next_sign" = some (some (.ref f_R_next_sign)))
    (fn_R_next_sign : PySem.W.isFn K (.ref f_R_next_sign) = true)
    (l_R_next_sign : K.lookup f_R_next_sign = some ⟨oc_R_next_sign, od_R_next_sign, .func (PySem.W.fnOf "next_sign" "Reading.next_sign" (L2.defArgs s_Reading_next_sign) (L2.defBody s_Reading_next_sign) (L2.defScope s_Reading_next_sign) .none kV_R_next_sign dc_R_next_sign pm_R_next_sign an_R_next_sign cd_R_next_sign ct_R_next_sign), sl_R_next_sign⟩)
    (c_R_next_sign : PySem.W.codeIn K cd_R_next_sign "Reading.next_sign" = true)
    (k_R_next_sign : PySem.W.keepIn K (.ref f_R_next_sign) = true)
    (n_R_take_text : PySem.W.findIn K (.ref a_Reading) "take_text" = some (some (.ref f_R_take_text)))
    (fn_R_take_text : PySem.W.isFn K (.ref f_R_take_text) = true)
    (l_R_take_text : K.lookup f_R_take_text = some ⟨oc_R_take_text, od_R_take_text, .func (PySem.W.fnOf "take_text" "Reading.take_text" (L2.defArgs s_Reading_take_text) (L2.defBody s_Reading_take_text) (L2.defScope s_Reading_take_text) .none kV_R_take_text dc_R_take_text pm_R_take_text an_R_take_text cd_R_take_text ct_R_take_text), sl_R_take_text⟩)
    (c_R_take_text : PySem.W.codeIn K cd_R_take_text "Reading.take_text" = true)
    (k_R_take_text : PySem.W.keepIn K (.ref f_R_take_text) = true)
    (n_R_take_figures : PySem.W.findIn K (.ref a_Reading) "take_figures" = some (some (.ref f_R_take_figures)))
    (fn_R_take_figures : PySem.W.isFn K (.ref f_R_take_figures) = true)
    (l_R_take_figures : K.lookup f_R_take_figures = some ⟨oc_R_take_figures, od_R_take_figures, .func (PySem.W.fnOf "take_figures" "Reading.take_figures" (L2.defArgs s_Reading_take_figures) (L2.defBody s_Reading_take_figures) (L2.defScope s_Reading_take_figures) .none kV_R_take_figures dc_R_take_figures pm_R_take_figures an_R_take_figures cd_R_take_figures ct_R_take_figures), sl_R_take_figures⟩)
    (c_R_take_figures : PySem.W.codeIn K cd_R_take_figures "Reading.take_figures" = true)
    (k_R_take_figures : PySem.W.keepIn K (.ref f_R_take_figures) = true)
    (n_R_take_word : PySem.W.findIn K (.ref a_Reading) "take_word" = some (some (.ref f_R_take_word)))
    (fn_R_take_word : PySem.W.isFn K (.ref f_R_take_word) = true)
    (l_R_take_word : K.lookup f_R_take_word = some ⟨oc_R_take_word, od_R_take_word, .func (PySem.W.fnOf "take_word" "Reading.take_word" (L2.defArgs s_Reading_take_word) (L2.defBody s_Reading_take_word) (L2.defScope s_Reading_take_word) .none kV_R_take_word dc_R_take_word pm_R_take_word an_R_take_word cd_R_take_word ct_R_take_word), sl_R_take_word⟩)
    (c_R_take_word : PySem.W.codeIn K cd_R_take_word "Reading.take_word" = true)
    (k_R_take_word : PySem.W.keepIn K (.ref f_R_take_word) = true)
    (n_R_want_form : PySem.W.findIn K (.ref a_Reading) "want_form" = some (some (.ref f_R_want_form)))
    (fn_R_want_form : PySem.W.isFn K (.ref f_R_want_form) = true)
    (l_R_want_form : K.lookup f_R_want_form = some ⟨oc_R_want_form, od_R_want_form, .func (PySem.W.fnOf "want_form" "Reading.want_form" (L2.defArgs s_Reading_want_form) (L2.defBody s_Reading_want_form) (L2.defScope s_Reading_want_form) .none kV_R_want_form dc_R_want_form pm_R_want_form an_R_want_form cd_R_want_form ct_R_want_form), sl_R_want_form⟩)
    (c_R_want_form : PySem.W.codeIn K cd_R_want_form "Reading.want_form" = true)
    (k_R_want_form : PySem.W.keepIn K (.ref f_R_want_form) = true)
    (n_R_read_amount : PySem.W.findIn K (.ref a_Reading) "read_amount" = some (some (.ref f_R_read_amount)))
    (fn_R_read_amount : PySem.W.isFn K (.ref f_R_read_amount) = true)
    (l_R_read_amount : K.lookup f_R_read_amount = some ⟨oc_R_read_amount, od_R_read_amount, .func (PySem.W.fnOf "read_amount" "Reading.read_amount" (L2.defArgs s_Reading_read_amount) (L2.defBody s_Reading_read_amount) (L2.defScope s_Reading_read_amount) .none kV_R_read_amount dc_R_read_amount pm_R_read_amount an_R_read_amount cd_R_read_amount ct_R_read_amount), sl_R_read_amount⟩)
    (c_R_read_amount : PySem.W.codeIn K cd_R_read_amount "Reading.read_amount" = true)
    (k_R_read_amount : PySem.W.keepIn K (.ref f_R_read_amount) = true)
    (n_R_read_share : PySem.W.findIn K (.ref a_Reading) "read_share" = some (some (.ref f_R_read_share)))
    (fn_R_read_share : PySem.W.isFn K (.ref f_R_read_share) = true)
    (l_R_read_share : K.lookup f_R_read_share = some ⟨oc_R_read_share, od_R_read_share, .func (PySem.W.fnOf "read_share" "Reading.read_share" (L2.defArgs s_Reading_read_share) (L2.defBody s_Reading_read_share) (L2.defScope s_Reading_read_share) .none kV_R_read_share dc_R_read_share pm_R_read_share an_R_read_share cd_R_read_share ct_R_read_share), sl_R_read_share⟩)
    (c_R_read_share : PySem.W.codeIn K cd_R_read_share "Reading.read_share" = true)
    (k_R_read_share : PySem.W.keepIn K (.ref f_R_read_share) = true)
    (n_R_read_part : PySem.W.findIn K (.ref a_Reading) "read_part" = some (some (.ref f_R_read_part)))
    (fn_R_read_part : PySem.W.isFn K (.ref f_R_read_part) = true)
    (l_R_read_part : K.lookup f_R_read_part = some ⟨oc_R_read_part, od_R_read_part, .func (PySem.W.fnOf "read_part" "Reading.read_part" (L2.defArgs s_Reading_read_part) (L2.defBody s_Reading_read_part) (L2.defScope s_Reading_read_part) .none kV_R_read_part dc_R_read_part pm_R_read_part an_R_read_part cd_R_read_part ct_R_read_part), sl_R_read_part⟩)
    (c_R_read_part : PySem.W.codeIn K cd_R_read_part "Reading.read_part" = true)
    (k_R_read_part : PySem.W.keepIn K (.ref f_R_read_part) = true)
    (n_R_read_mark : PySem.W.findIn K (.ref a_Reading) "read_mark" = some (some (.ref f_R_read_mark)))
    (fn_R_read_mark : PySem.W.isFn K (.ref f_R_read_mark) = true)
    (l_R_read_mark : K.lookup f_R_read_mark = some ⟨oc_R_read_mark, od_R_read_mark, .func (PySem.W.fnOf "read_mark" "Reading.read_mark" (L2.defArgs s_Reading_read_mark) (L2.defBody s_Reading_read_mark) (L2.defScope s_Reading_read_mark) .none kV_R_read_mark dc_R_read_mark pm_R_read_mark an_R_read_mark cd_R_read_mark ct_R_read_mark), sl_R_read_mark⟩)
    (c_R_read_mark : PySem.W.codeIn K cd_R_read_mark "Reading.read_mark" = true)
    (k_R_read_mark : PySem.W.keepIn K (.ref f_R_read_mark) = true)
    (n_R_read_next : PySem.W.findIn K (.ref a_Reading) "read_next" = some (some (.ref f_R_read_next)))
    (fn_R_read_next : PySem.W.isFn K (.ref f_R_read_next) = true)
    (l_R_read_next : K.lookup f_R_read_next = some ⟨oc_R_read_next, od_R_read_next, .func (PySem.W.fnOf "read_next" "Reading.read_next" (L2.defArgs s_Reading_read_next) (L2.defBody s_Reading_read_next) (L2.defScope s_Reading_read_next) .none kV_R_read_next dc_R_read_next pm_R_read_next an_R_read_next cd_R_read_next ct_R_read_next), sl_R_read_next⟩)
    (c_R_read_next : PySem.W.codeIn K cd_R_read_next "Reading.read_next" = true)
    (k_R_read_next : PySem.W.keepIn K (.ref f_R_read_next) = true)
    (n_R___init__ : PySem.W.findIn K (.ref a_Reading) "__init__" = some (some (.ref f_R___init__)))
    (fn_R___init__ : PySem.W.isFn K (.ref f_R___init__) = true)
    (l_R___init__ : K.lookup f_R___init__ = some ⟨oc_R___init__, od_R___init__, .func (PySem.W.fnOf "__init__" "Reading.__init__" (L2.defArgs s_Reading___init__) (L2.defBody s_Reading___init__) (L2.defScope s_Reading___init__) .none kV_R___init__ dc_R___init__ pm_R___init__ an_R___init__ cd_R___init__ ct_R___init__), sl_R___init__⟩)
    (c_R___init__ : PySem.W.codeIn K cd_R___init__ "Reading.__init__" = true)
    (k_R___init__ : PySem.W.keepIn K (.ref f_R___init__) = true)
    (R_makes : PySem.W.makesIn K a_Reading = true)
    (R_keep : PySem.W.keepIn K (.ref a_Reading) = true)
    (R_pg : PySem.W.plainGet K a_Reading Str.empty = true)
    (R_hd : PySem.W.hasDictIn K a_Reading = true)
    (R_po : PySem.W.plainOver K a_Reading = true)
    (R_sa : PySem.W.findIn K (.ref a_Reading) "__setattr__" = some (some (.builtin "object.__setattr__")))
    (R_no_signs : PySem.W.findIn K (.ref a_Reading) "signs" = some none)
    (R_no_at : PySem.W.findIn K (.ref a_Reading) "at" = some none)
    (R_no_wanted : PySem.W.findIn K (.ref a_Reading) "wanted" = some none)
    (R_no_made : PySem.W.findIn K (.ref a_Reading) "made" = some none)
    (D_k : PySem.W.keepIn K (.ref a_BadDeal) = true)
    (D_ex : PySem.W.excIn K a_BadDeal veT "ValueError.__new__" = true)
    (D_bs : PySem.W.subIn K (.ref a_BadDeal) (.type "BaseException") = some true)
    (D_ty : PySem.W.typeIn K (.ref a_BadDeal) = some (.type "type"))
    (D_self : PySem.W.subIn K (.ref a_BadDeal) (.ref a_BadDeal) = some true)
    (D_cl : PySem.W.isClsIn K a_BadDeal = true)
    (B_x : K.lookup a_BadText = some (excClassObj B_nm B_q a_BadText B_N B_bs B_bm true B_sn B_sub B_ab B_col B_dd B_m0 B_m1 B_m2 B_m3 B_m5 "ValueError.__new__"))
    (B_bmv : PySem.HandSPX.refsVE B_bm = true)
    (B_sa : PySem.W.findIn K (.ref a_BadText) "__setattr__" = some (some (.builtin "object.__setattr__")))
    (B_bs1 : PySem.W.subIn K (.ref a_BadText) (.type "BaseException") = some true)
    (B_ty : PySem.W.typeIn K (.ref a_BadText) = some (.type "type"))
    (B_k : PySem.W.keepIn K (.ref a_BadText) = true)
    (B_i : PySem.W.findIn K (.ref a_BadText) "__init__" = some (some (.ref f_BI)))
    (B_it : PySem.W.typeIn K (.ref f_BI) = some (.type "function"))
    (l_BI : K.lookup f_BI = some ⟨oc_BI, od_BI, .func (PySem.W.fnOf "__init__" "BadText.__init__" (L2.defArgs s_BadText___init__) (L2.defBody s_BadText___init__) (L2.defScope s_BadText___init__) .none kV_BI dc_BI pm_BI an_BI cd_BI ct_BI), sl_BI⟩)
    (c_BI : PySem.W.codeIn K cd_BI "BadText.__init__" = true)
    (k_BI : PySem.W.keepIn K (.ref f_BI) = true)
    (B_no : PySem.W.findIn K (.ref a_BadText) "at" = some none)
    (B_self : PySem.W.subIn K (.ref a_BadText) (.ref a_BadText) = some true)
    (B_cl : PySem.W.isClsIn K a_BadText = true)
    (B_ga : PySem.W.findIn K (.ref a_BadText) "__getattribute__" = some (some (.builtin "BaseException.__getattribute__")))
    (B_gg : PySem.W.findIn K (.ref a_BadText) "__getattr__" = some none)
    (B_hd : PySem.W.hasDictIn K a_BadText = true)
    (I_ha : PySem.W.findIn K (.ref a_BadText) "__class__" = some (some (.builtin "object.__class__")))
    (I_hn : PySem.W.specialIn K (.builtin "object.__class__") "__get__" = some (some (.builtin "getset_descriptor.__get__")))
    (I_ht : PySem.W.takesIn K (.builtin "object.__class__") = some true)
    (I_hm : PySem.W.mroIn K a_BadText (.type "object") = some true)
    (I_v : PySem.W.kitOne K (.ref a_BadText) (.type "ValueError") = some true)
    (I_d : PySem.W.kitOne K (.ref a_BadText) (.ref a_BadDeal) = some false)
    (I_t : PySem.W.kitOne K (.ref a_BadText) (.ref a_BadTree) = some false)
    (I_h : PySem.W.kitOne K (.ref a_BadText) (.ref a_HedgeError) = some true)
    : ∃ fd : FuncData, (∀ (s : Shared) (u : Value), BindsTo s fd ⟨[u], []⟩ [("_law_script", u)]) ∧ ∀ base : Heap, K.In base → base.Ns mainGlobals mg → RunAt callerA [] P w K mg base CX0 fa fd ["_law_script"] (sp_law K) := by
  have e := hfa.symm.trans (PySem.W.mg_of X G n_law)
  cases e
  refine ⟨_, fun s u => .of_eq rfl, fun base _ _ => ok_all (A := ⟨a_PAIRS, a_SIGNS, a_MARKS, a_FORMS, a_NUMBERS, a_Reading, a_HedgeError, a_BadTree, a_BadDeal, a_BadText⟩) ⟨?T, ?R, ?C, ?D, ?FI, ?m0, ?m1, ?m2, ?m3, ?m4, ?m5, ?m6, ?m7, ?m8, ?m9, ?m10, ?m11⟩ (fun_mk l_law c_law k_law)⟩
  case T =>
    exact {
      z_ValueError := PySem.W.mg_none_of X G z_ValueError,
      z_abs := PySem.W.mg_none_of X G z_abs,
      z_any := PySem.W.mg_none_of X G z_any,
      z_bool := PySem.W.mg_none_of X G z_bool,
      z_int := PySem.W.mg_none_of X G z_int,
      z_isinstance := PySem.W.mg_none_of X G z_isinstance,
      z_len := PySem.W.mg_none_of X G z_len,
      z_list := PySem.W.mg_none_of X G z_list,
      z_max := PySem.W.mg_none_of X G z_max,
      z_min := PySem.W.mg_none_of X G z_min,
      z_range := PySem.W.mg_none_of X G z_range,
      z_repr := PySem.W.mg_none_of X G z_repr,
      z_str := PySem.W.mg_none_of X G z_str,
      z_sum := PySem.W.mg_none_of X G z_sum,
      z_tuple := PySem.W.mg_none_of X G z_tuple,
      c_MOST_FIGURES := ⟨_, PySem.W.mg_of X G i_MOST_FIGURES, ⟨_, rfl⟩⟩,
      c_FIGURES := ⟨_, PySem.W.mg_of X G i_FIGURES, ⟨_, rfl⟩⟩,
      c_MOST_NUMBER := ⟨_, PySem.W.mg_of X G i_MOST_NUMBER, ⟨_, rfl⟩⟩,
      c_MOST_PARTS := ⟨_, PySem.W.mg_of X G i_MOST_PARTS, ⟨_, rfl⟩⟩,
      c_MOST_DEAL := ⟨_, PySem.W.mg_of X G i_MOST_DEAL, ⟨_, rfl⟩⟩,
      c_MOST_DEEP := ⟨_, PySem.W.mg_of X G i_MOST_DEEP, ⟨_, rfl⟩⟩,
      c_MOST_SCALES := ⟨_, PySem.W.mg_of X G i_MOST_SCALES, ⟨_, rfl⟩⟩,
      c_MOST_CHOOSERS := ⟨_, PySem.W.mg_of X G i_MOST_CHOOSERS, ⟨_, rfl⟩⟩,
      c_MOST_ANYS := ⟨_, PySem.W.mg_of X G i_MOST_ANYS, ⟨_, rfl⟩⟩,
      c_MOST_LATER := ⟨_, PySem.W.mg_of X G i_MOST_LATER, ⟨_, rfl⟩⟩,
      c_GREAT := ⟨_, PySem.W.mg_of X G i_GREAT, by rw [GR_eq]; exact ⟨_, rfl⟩⟩,
      c_MOST_SIGNS := ⟨_, PySem.W.mg_of X G i_MOST_SIGNS, ⟨_, rfl⟩⟩,
      c_PAIRS := ⟨_, PySem.W.mg_of X G n_PAIRS, rfl⟩,
      c_SIGNS := ⟨_, PySem.W.mg_of X G n_SIGNS, rfl⟩,
      c_MARKS := ⟨_, PySem.W.mg_of X G n_MARKS, rfl⟩,
      c_FORMS := ⟨_, PySem.W.mg_of X G n_FORMS, rfl⟩,
      c_NUMBERS := ⟨_, PySem.W.mg_of X G n_NUMBERS, rfl⟩,
      c_Reading := ⟨_, PySem.W.mg_of X G n_Reading, rfl⟩,
      c_HedgeError := ⟨_, PySem.W.mg_of X G n_HedgeError, rfl⟩,
      c_BadTree := ⟨_, PySem.W.mg_of X G n_BadTree, rfl⟩,
      c_BadDeal := ⟨_, PySem.W.mg_of X G n_BadDeal, rfl⟩,
      c_BadText := ⟨_, PySem.W.mg_of X G n_BadText, rfl⟩,
      k_PAIRS := ⟨_, _, _, lt_PAIRS, rfl, rfl, zt_PAIRS, vt_PAIRS⟩,
      k_SIGNS := ⟨_, _, _, lt_SIGNS, rfl, rfl, zt_SIGNS, vt_SIGNS⟩,
      f_is_whole := fct_mk X G n_is_whole l_is_whole c_is_whole k_is_whole (fun _ _ _ _ _ _ us hl => match us, hl with | [_], _ => rfl),
      f_is_among := fct_mk X G n_is_among l_is_among c_is_among k_is_among (fun _ _ _ _ _ _ us hl => match us, hl with | [_, _, _], _ => rfl),
      f_common := fct_mk X G n_common l_common c_common k_common (fun _ _ _ _ _ _ us hl => match us, hl with | [_, _], _ => rfl),
      f_is_share := fct_mk X G n_is_share l_is_share c_is_share k_is_share (fun _ _ _ _ _ _ us hl => match us, hl with | [_], _ => rfl),
      f_number_of := fct_mk X G n_number_of l_number_of c_number_of k_number_of (fun _ _ _ _ _ _ us hl => match us, hl with | [_], _ => rfl),
      f_share_of := fct_mk X G n_share_of l_share_of c_share_of k_share_of (fun _ _ _ _ _ _ us hl => match us, hl with | [_], _ => rfl),
      f_has_kind := fct_mk X G n_has_kind l_has_kind c_has_kind k_has_kind (fun _ _ _ _ _ _ us hl => match us, hl with | [_, _, _], _ => rfl),
      f_amount_parts := fct_mk X G n_amount_parts l_amount_parts c_amount_parts k_amount_parts (fun _ _ _ _ _ _ us hl => match us, hl with | [_, _], _ => rfl),
      f_sign_parts := fct_mk X G n_sign_parts l_sign_parts c_sign_parts k_sign_parts (fun _ _ _ _ _ _ us hl => match us, hl with | [_], _ => rfl),
      f_refuse := fct_mk X G n_refuse l_refuse c_refuse k_refuse (fun _ _ _ _ _ _ us hl => match us, hl with | [], _ => rfl),
      f_need_parts := fct_mk X G n_need_parts l_need_parts c_need_parts k_need_parts (fun _ _ _ _ _ _ us hl => match us, hl with | [_], _ => rfl),
      f_is_small := fct_mk X G n_is_small l_is_small c_is_small k_is_small (fun _ _ _ _ _ _ us hl => match us, hl with | [_], _ => rfl),
      f_own_parts := fct_mk X G n_own_parts l_own_parts c_own_parts k_own_parts (fun _ _ _ _ _ _ us hl => match us, hl with | [_], _ => rfl),
      f_need_within := fct_mk X G n_need_within l_need_within c_need_within k_need_within (fun _ _ _ _ _ _ us hl => match us, hl with | [_, _, _], _ => rfl),
      f_count_of := fct_mk X G n_count_of l_count_of c_count_of k_count_of (fun _ _ _ _ _ _ us hl => match us, hl with | [_, _], _ => rfl),
      f_choosers := fct_mk X G n_choosers l_choosers c_choosers k_choosers (fun _ _ _ _ _ _ us hl => match us, hl with | [_], _ => rfl),
      f_need_deal := fct_mk X G n_need_deal l_need_deal c_need_deal k_need_deal (fun _ _ _ _ _ _ us hl => match us, hl with | [_], _ => rfl),
      f_is_text := fct_mk X G n_is_text l_is_text c_is_text k_is_text (fun _ _ _ _ _ _ us hl => match us, hl with | [_], _ => rfl),
      f_read_deal := fct_mk X G n_read_deal l_read_deal c_read_deal k_read_deal (fun _ _ _ _ _ _ us hl => match us, hl with | [_], _ => rfl),
      f__law_cell := fct_mk X G n__law_cell l__law_cell c__law_cell k__law_cell (fun _ _ _ _ _ _ us hl => match us, hl with | [_, _], _ => rfl),
      f__law_amount := fct_mk X G n__law_amount l__law_amount c__law_amount k__law_amount (fun _ _ _ _ _ _ us hl => match us, hl with | [_, _, _], _ => rfl),
      f__law_sign := fct_mk X G n__law_sign l__law_sign c__law_sign k__law_sign (fun _ _ _ _ _ _ us hl => match us, hl with | [_, _], _ => rfl),
      f__law_share := fct_mk X G n__law_share l__law_share c__law_share k__law_share (fun _ _ _ _ _ _ us hl => match us, hl with | [_], _ => rfl),
      f__law_deal := fct_mk X G n__law_deal l__law_deal c__law_deal k__law_deal (fun _ _ _ _ _ _ us hl => match us, hl with | [_, _, _, _, _], _ => rfl),
      f__law_parts := fct_mk X G n__law_parts l__law_parts c__law_parts k__law_parts (fun _ _ _ _ _ _ us hl => match us, hl with | [_], _ => rfl),
      f__law_amount_parts := fct_mk X G n__law_amount_parts l__law_amount_parts c__law_amount_parts k__law_amount_parts (fun _ _ _ _ _ _ us hl => match us, hl with | [_], _ => rfl),
      f__law_head := fct_mk X G n__law_head l__law_head c__law_head k__law_head (fun _ _ _ _ _ _ us hl => match us, hl with | [_], _ => rfl),
      f__law_long := fct_mk X G n__law_long l__law_long c__law_long k__law_long (fun _ _ _ _ _ _ us hl => match us, hl with | [_], _ => rfl),
      f__law_is_small := fct_mk X G n__law_is_small l__law_is_small c__law_is_small k__law_is_small (fun _ _ _ _ _ _ us hl => match us, hl with | [_], _ => rfl),
      f__law_good := fct_mk X G n__law_good l__law_good c__law_good k__law_good (fun _ _ _ _ _ _ us hl => match us, hl with | [_], _ => rfl),
      f__law_amount_text := fct_mk X G n__law_amount_text l__law_amount_text c__law_amount_text k__law_amount_text (fun _ _ _ _ _ _ us hl => match us, hl with | [_], _ => rfl),
      f__law_deal_text := fct_mk X G n__law_deal_text l__law_deal_text c__law_deal_text k__law_deal_text (fun _ _ _ _ _ _ us hl => match us, hl with | [_], _ => rfl),
      f__law_next := fct_mk X G n__law_next l__law_next c__law_next k__law_next (fun _ _ _ _ _ _ us hl => match us, hl with | [_], _ => rfl),
      f__law_figures := fct_mk X G n__law_figures l__law_figures c__law_figures k__law_figures (fun _ _ _ _ _ _ us hl => match us, hl with | [_, _, _], _ => rfl),
      f__law_share_end := fct_mk X G n__law_share_end l__law_share_end c__law_share_end k__law_share_end (fun _ _ _ _ _ _ us hl => match us, hl with | [_, _], _ => rfl),
      f__law_word := fct_mk X G n__law_word l__law_word c__law_word k__law_word (fun _ _ _ _ _ _ us hl => match us, hl with | [_, _, _], _ => rfl),
      f__law_wrong := fct_mk X G n__law_wrong l__law_wrong c__law_wrong k__law_wrong (fun _ _ _ _ _ _ us hl => match us, hl with | [_], _ => rfl),
      f__law_deep := fct_mk X G n__law_deep l__law_deep c__law_deep k__law_deep (fun _ _ _ _ _ _ us hl => match us, hl with | [_, _], _ => rfl),
      f__law_text := fct_mk X G n__law_text l__law_text c__law_text k__law_text (fun _ _ _ _ _ _ us hl => match us, hl with | [_, _], _ => rfl),
      f__law_split := fct_mk X G n__law_split l__law_split c__law_split k__law_split (fun _ _ _ _ _ _ us hl => match us, hl with | [_, _], _ => rfl),
      f__law_amount_of := fct_mk X G n__law_amount_of l__law_amount_of c__law_amount_of k__law_amount_of (fun _ _ _ _ _ _ us hl => match us, hl with | [_], _ => rfl),
      f__law_share_of := fct_mk X G n__law_share_of l__law_share_of c__law_share_of k__law_share_of (fun _ _ _ _ _ _ us hl => match us, hl with | [_], _ => rfl),
      f__law_deal_of := fct_mk X G n__law_deal_of l__law_deal_of c__law_deal_of k__law_deal_of (fun _ _ _ _ _ _ us hl => match us, hl with | [_], _ => rfl),
      f__law_found := fct_mk X G n__law_found l__law_found c__law_found k__law_found (fun _ _ _ _ _ _ us hl => match us, hl with | [_], _ => rfl),
      f_law := fct_mk X G n_law l_law c_law k_law (fun _ _ _ _ _ _ us hl => match us, hl with | [_], _ => rfl) }
  case R => exact ⟨PySem.W.mg_of X G n_BadDeal, PySem.W.mg_of X G n_BadText, ⟨D_k, D_ex, D_bs, D_ty, D_self, D_cl⟩, ⟨⟨⟨_, _, _, _, _, _, _, _, _, _, _, _, _, _, _, B_x, B_bmv⟩, B_sa, B_bs1, B_ty, B_k⟩, ⟨_, _, B_i, B_it, fun_mk l_BI c_BI k_BI, (fun_mk l_BI c_BI k_BI).binds (fun _ _ _ _ _ _ us hl => match us, hl with | [_, _], _ => rfl)⟩, B_no, B_self, B_cl, ⟨B_ga, B_gg, B_bs1, B_hd⟩⟩⟩
  case C => exact ⟨⟨R_pg, R_hd, R_po, R_sa⟩, R_no_signs, R_no_at, R_no_wanted, R_no_made⟩
  case FI => exact ⟨PySem.W.mg_of X G n_BadTree, PySem.W.mg_of X G n_HedgeError, ⟨⟨B_ga, B_gg, B_bs1, B_hd⟩, B_cl, I_ha, I_hn, I_ht, I_hm⟩, I_v, I_d, I_t, I_h⟩
  case m0 => exact ⟨_, _, ⟨R_makes, n_R___init__, fn_R___init__, R_keep⟩, fun_mk l_R___init__ c_R___init__ k_R___init__, (fun_mk l_R___init__ c_R___init__ k_R___init__).binds (fun _ _ _ _ _ _ us hl => match us, hl with | [_, _], _ => rfl)⟩
  case m1 => exact mf_mk n_R_refuse_sign fn_R_refuse_sign l_R_refuse_sign c_R_refuse_sign k_R_refuse_sign (fun _ _ _ _ _ _ us hl => match us, hl with | [_], _ => rfl)
  case m2 => exact mf_mk n_R_next_sign fn_R_next_sign l_R_next_sign c_R_next_sign k_R_next_sign (fun _ _ _ _ _ _ us hl => match us, hl with | [_], _ => rfl)
  case m3 => exact mf_mk n_R_take_text fn_R_take_text l_R_take_text c_R_take_text k_R_take_text (fun _ _ _ _ _ _ us hl => match us, hl with | [_, _], _ => rfl)
  case m4 => exact mf_mk n_R_take_figures fn_R_take_figures l_R_take_figures c_R_take_figures k_R_take_figures (fun _ _ _ _ _ _ us hl => match us, hl with | [_, _], _ => rfl)
  case m5 => exact mf_mk n_R_take_word fn_R_take_word l_R_take_word c_R_take_word k_R_take_word (fun _ _ _ _ _ _ us hl => match us, hl with | [_, _], _ => rfl)
  case m6 => exact mf_mk n_R_want_form fn_R_want_form l_R_want_form c_R_want_form k_R_want_form (fun _ _ _ _ _ _ us hl => match us, hl with | [_, _, _], _ => rfl)
  case m7 => exact mf_mk n_R_read_amount fn_R_read_amount l_R_read_amount c_R_read_amount k_R_read_amount (fun _ _ _ _ _ _ us hl => match us, hl with | [_], _ => rfl)
  case m8 => exact mf_mk n_R_read_share fn_R_read_share l_R_read_share c_R_read_share k_R_read_share (fun _ _ _ _ _ _ us hl => match us, hl with | [_], _ => rfl)
  case m9 => exact mf_mk n_R_read_part fn_R_read_part l_R_read_part c_R_read_part k_R_read_part (fun _ _ _ _ _ _ us hl => match us, hl with | [_, _], _ => rfl)
  case m10 => exact mf_mk n_R_read_mark fn_R_read_mark l_R_read_mark c_R_read_mark k_R_read_mark (fun _ _ _ _ _ _ us hl => match us, hl with | [_, _], _ => rfl)
  case m11 => exact mf_mk n_R_read_next fn_R_read_next l_R_read_next c_R_read_next k_R_read_next (fun _ _ _ _ _ _ us hl => match us, hl with | [_], _ => rfl)
  case D =>
    refine ⟨⟨_, _, ld_FORMS, ne_FORMS, by rw [forms_strs]; exact vk_FORMS, by decide⟩, ⟨_, _, ld_NUMBERS, ne_NUMBERS, by rw [numbers_strs]; exact vk_NUMBERS, by decide⟩, fun wd hm => ?_, fun wd hm => ?_, fun m => ?_⟩
    · cases wd with
      | none => exact ⟨k_w_none, kd_mk ld_FORMS kl_FORMS g_w_none rfl (by decide +kernel), ⟨_, _, _, lt_w_none, rfl, rfl, zt_w_none, vt_w_none⟩⟩
      | coin => exact ⟨k_w_coin, kd_mk ld_FORMS kl_FORMS g_w_coin rfl (by decide +kernel), ⟨_, _, _, lt_w_coin, rfl, rfl, zt_w_coin, vt_w_coin⟩⟩
      | give => exact ⟨k_w_give, kd_mk ld_FORMS kl_FORMS g_w_give rfl (by decide +kernel), ⟨_, _, _, lt_w_give, rfl, rfl, zt_w_give, vt_w_give⟩⟩
      | both => exact ⟨k_w_both, kd_mk ld_FORMS kl_FORMS g_w_both rfl (by decide +kernel), ⟨_, _, _, lt_w_both, rfl, rfl, zt_w_both, vt_w_both⟩⟩
      | either => exact ⟨k_w_either, kd_mk ld_FORMS kl_FORMS g_w_either rfl (by decide +kernel), ⟨_, _, _, lt_w_either, rfl, rfl, zt_w_either, vt_w_either⟩⟩
      | later => exact ⟨k_w_later, kd_mk ld_FORMS kl_FORMS g_w_later rfl (by decide +kernel), ⟨_, _, _, lt_w_later, rfl, rfl, zt_w_later, vt_w_later⟩⟩
      | once => exact ⟨k_w_once, kd_mk ld_FORMS kl_FORMS g_w_once rfl (by decide +kernel), ⟨_, _, _, lt_w_once, rfl, rfl, zt_w_once, vt_w_once⟩⟩
      | «until» => exact ⟨k_w_until, kd_mk ld_FORMS kl_FORMS g_w_until rfl (by decide +kernel), ⟨_, _, _, lt_w_until, rfl, rfl, zt_w_until, vt_w_until⟩⟩
      | any => exact ⟨k_w_any, kd_mk ld_FORMS kl_FORMS g_w_any rfl (by decide +kernel), ⟨_, _, _, lt_w_any, rfl, rfl, zt_w_any, vt_w_any⟩⟩
      | scale => exact ⟨k_w_scale, kd_mk ld_FORMS kl_FORMS g_w_scale rfl (by decide +kernel), ⟨_, _, _, lt_w_scale, rfl, rfl, zt_w_scale, vt_w_scale⟩⟩
      | «by» => exact ⟨k_w_by, kd_mk ld_FORMS kl_FORMS g_w_by rfl (by decide +kernel), ⟨_, _, _, lt_w_by, rfl, rfl, zt_w_by, vt_w_by⟩⟩
      | _ => exact absurd hm (by decide)
    · cases wd with
      | price => exact ⟨k_w_price, kd_mk ld_NUMBERS kl_NUMBERS g_w_price rfl (by decide +kernel), ⟨_, _, _, lt_w_price, rfl, rfl, zt_w_price, vt_w_price⟩⟩
      | time => exact ⟨k_w_time, kd_mk ld_NUMBERS kl_NUMBERS g_w_time rfl (by decide +kernel), ⟨_, _, _, lt_w_time, rfl, rfl, zt_w_time, vt_w_time⟩⟩
      | most => exact ⟨k_w_most, kd_mk ld_NUMBERS kl_NUMBERS g_w_most rfl (by decide +kernel), ⟨_, _, _, lt_w_most, rfl, rfl, zt_w_most, vt_w_most⟩⟩
      | least => exact ⟨k_w_least, kd_mk ld_NUMBERS kl_NUMBERS g_w_least rfl (by decide +kernel), ⟨_, _, _, lt_w_least, rfl, rfl, zt_w_least, vt_w_least⟩⟩
      | _ => exact absurd hm (by decide)
    · cases m with
      | plus => exact kd_mk ld_MARKS kl_MARKS g_m_plus ⟨_, congrArg (fun z => Value.str z _) (by decide +kernel)⟩ (by decide +kernel)
      | minus => exact kd_mk ld_MARKS kl_MARKS g_m_minus ⟨_, congrArg (fun z => Value.str z _) (by decide +kernel)⟩ (by decide +kernel)
      | times => exact kd_mk ld_MARKS kl_MARKS g_m_times ⟨_, congrArg (fun z => Value.str z _) (by decide +kernel)⟩ (by decide +kernel)
      | below => exact kd_mk ld_MARKS kl_MARKS g_m_below ⟨_, congrArg (fun z => Value.str z _) (by decide +kernel)⟩ (by decide +kernel)
      | upto => exact kd_mk ld_MARKS kl_MARKS g_m_upto ⟨_, congrArg (fun z => Value.str z _) (by decide +kernel)⟩ (by decide +kernel)
end K06
end Sec_E2
section Sec_Head1
set_option Elab.async false
open PySem PySem.W PyProof.Rows
namespace K06
set_option maxRecDepth 100000 in
set_option maxHeartbeats 0 in
open_top head for PySem.Challenge.rw_hedgewright_k06_whole_any_text
end K06
end Sec_Head1
section Sec_End
set_option Elab.async false
set_option linter.all false
set_option maxRecDepth 100000

open PySem PySem.W PyProof.Rows L2
namespace K06
set_option maxHeartbeats 0 in
theorem theLaw : PySem.Challenge.rw_hedgewright_k06_whole_any_text.Holds := by
  refine head ?_
  k_fill
  refine walk_at (n := 63) (x := "_law_script") (sp := sp_law) rfl (by decide) rfl (fun w h Y => PySem.W.kIn_of Y) ?F ?S
  case F =>
    intro w mg fa h KX G hmg
    refine' all_mk (w := w) KX G hmg ?z_ValueError ?z_abs ?z_any ?z_bool ?z_int ?z_isinstance ?z_len ?z_list ?z_max ?z_min ?z_range ?z_repr ?z_str ?z_sum ?z_tuple ?i_MOST_FIGURES ?i_FIGURES ?i_MOST_NUMBER ?i_MOST_PARTS ?i_MOST_DEAL ?i_MOST_DEEP ?i_MOST_SCALES ?i_MOST_CHOOSERS ?i_MOST_ANYS ?i_MOST_LATER ?i_GREAT ?i_MOST_SIGNS ?n_PAIRS ?n_SIGNS ?n_MARKS ?n_FORMS ?n_NUMBERS ?n_Reading ?n_HedgeError ?n_BadTree ?n_BadDeal ?n_BadText ?lt_PAIRS ?vt_PAIRS ?zt_PAIRS ?lt_SIGNS ?vt_SIGNS ?zt_SIGNS ?ld_FORMS ?kl_FORMS ?ne_FORMS ?vk_FORMS ?ld_NUMBERS ?kl_NUMBERS ?ne_NUMBERS ?vk_NUMBERS ?ld_MARKS ?kl_MARKS ?ne_MARKS ?vk_MARKS ?g_w_none ?lt_w_none ?vt_w_none ?zt_w_none ?g_w_coin ?lt_w_coin ?vt_w_coin ?zt_w_coin ?g_w_give ?lt_w_give ?vt_w_give ?zt_w_give ?g_w_both ?lt_w_both ?vt_w_both ?zt_w_both ?g_w_either ?lt_w_either ?vt_w_either ?zt_w_either ?g_w_later ?lt_w_later ?vt_w_later ?zt_w_later ?g_w_once ?lt_w_once ?vt_w_once ?zt_w_once ?g_w_until ?lt_w_until ?vt_w_until ?zt_w_until ?g_w_any ?lt_w_any ?vt_w_any ?zt_w_any ?g_w_scale ?lt_w_scale ?vt_w_scale ?zt_w_scale ?g_w_by ?lt_w_by ?vt_w_by ?zt_w_by ?g_w_price ?lt_w_price ?vt_w_price ?zt_w_price ?g_w_time ?lt_w_time ?vt_w_time ?zt_w_time ?g_w_most ?lt_w_most ?vt_w_most ?zt_w_most ?g_w_least ?lt_w_least ?vt_w_least ?zt_w_least ?g_m_plus ?g_m_minus ?g_m_times ?g_m_below ?g_m_upto ?n_is_whole ?l_is_whole ?c_is_whole ?k_is_whole ?n_is_among ?l_is_among ?c_is_among ?k_is_among ?n_common ?l_common ?c_common ?k_common ?n_is_share ?l_is_share ?c_is_share ?k_is_share ?n_number_of ?l_number_of ?c_number_of ?k_number_of ?n_share_of ?l_share_of ?c_share_of ?k_share_of ?n_has_kind ?l_has_kind ?c_has_kind ?k_has_kind ?n_amount_parts ?l_amount_parts ?c_amount_parts ?k_amount_parts ?n_sign_parts ?l_sign_parts ?c_sign_parts ?k_sign_parts ?n_refuse ?l_refuse ?c_refuse ?k_refuse ?n_need_parts ?l_need_parts ?c_need_parts ?k_need_parts ?n_is_small ?l_is_small ?c_is_small ?k_is_small ?n_own_parts ?l_own_parts ?c_own_parts ?k_own_parts ?n_need_within ?l_need_within ?c_need_within ?k_need_within ?n_count_of ?l_count_of ?c_count_of ?k_count_of ?n_choosers ?l_choosers ?c_choosers ?k_choosers ?n_need_deal ?l_need_deal ?c_need_deal ?k_need_deal ?n_is_text ?l_is_text ?c_is_text ?k_is_text ?n_read_deal ?l_read_deal ?c_read_deal ?k_read_deal ?n__law_cell ?l__law_cell ?c__law_cell ?k__law_cell ?n__law_amount ?l__law_amount ?c__law_amount ?k__law_amount ?n__law_sign ?l__law_sign ?c__law_sign ?k__law_sign ?n__law_share ?l__law_share ?c__law_share ?k__law_share ?n__law_deal ?l__law_deal ?c__law_deal ?k__law_deal ?n__law_parts ?l__law_parts ?c__law_parts ?k__law_parts ?n__law_amount_parts ?l__law_amount_parts ?c__law_amount_parts ?k__law_amount_parts ?n__law_head ?l__law_head ?c__law_head ?k__law_head ?n__law_long ?l__law_long ?c__law_long ?k__law_long ?n__law_is_small ?l__law_is_small ?c__law_is_small ?k__law_is_small ?n__law_good ?l__law_good ?c__law_good ?k__law_good ?n__law_amount_text ?l__law_amount_text ?c__law_amount_text ?k__law_amount_text ?n__law_deal_text ?l__law_deal_text ?c__law_deal_text ?k__law_deal_text ?n__law_next ?l__law_next ?c__law_next ?k__law_next ?n__law_figures ?l__law_figures ?c__law_figures ?k__law_figures ?n__law_share_end ?l__law_share_end ?c__law_share_end ?k__law_share_end ?n__law_word ?l__law_word ?c__law_word ?k__law_word ?n__law_wrong ?l__law_wrong ?c__law_wrong ?k__law_wrong ?n__law_deep ?l__law_deep ?c__law_deep ?k__law_deep ?n__law_text ?l__law_text ?c__law_text ?k__law_text ?n__law_split ?l__law_split ?c__law_split ?k__law_split ?n__law_amount_of ?l__law_amount_of ?c__law_amount_of ?k__law_amount_of ?n__law_share_of ?l__law_share_of ?c__law_share_of ?k__law_share_of ?n__law_deal_of ?l__law_deal_of ?c__law_deal_of ?k__law_deal_of ?n__law_found ?l__law_found ?c__law_found ?k__law_found ?n_law ?l_law ?c_law ?k_law ?n_R_refuse_sign ?fn_R_refuse_sign ?l_R_refuse_sign ?c_R_refuse_sign ?k_R_refuse_sign ?n_R_next_sign ?fn_R_next_sign ?l_R_next_sign ?c_R_next_sign ?k_R_next_sign ?n_R_take_text ?fn_R_take_text ?l_R_take_text ?c_R_take_text ?k_R_take_text ?n_R_take_figures ?fn_R_take_figures ?l_R_take_figures ?c_R_take_figures ?k_R_take_figures ?n_R_take_word ?fn_R_take_word ?l_R_take_word ?c_R_take_word ?k_R_take_word ?n_R_want_form ?fn_R_want_form ?l_R_want_form ?c_R_want_form ?k_R_want_form ?n_R_read_amount ?fn_R_read_amount ?l_R_read_amount ?c_R_read_amount ?k_R_read_amount ?n_R_read_share ?fn_R_read_share ?l_R_read_share ?c_R_read_share ?k_R_read_share ?n_R_read_part ?fn_R_read_part ?l_R_read_part ?c_R_read_part ?k_R_read_part ?n_R_read_mark ?fn_R_read_mark ?l_R_read_mark ?c_R_read_mark ?k_R_read_mark ?n_R_read_next ?fn_R_read_next ?l_R_read_next ?c_R_read_next ?k_R_read_next ?n_R___init__ ?fn_R___init__ ?l_R___init__ ?c_R___init__ ?k_R___init__ ?R_makes ?R_keep ?R_pg ?R_hd ?R_po ?R_sa ?R_no_signs ?R_no_at ?R_no_wanted ?R_no_made ?D_k ?D_ex ?D_bs ?D_ty ?D_self ?D_cl ?B_x ?B_bmv ?B_sa ?B_bs1 ?B_ty ?B_k ?B_i ?B_it ?l_BI ?c_BI ?k_BI ?B_no ?B_self ?B_cl ?B_ga ?B_gg ?B_hd ?I_ha ?I_hn ?I_ht ?I_hm ?I_v ?I_d ?I_t ?I_h
    (case z_ValueError => k_is)
    (case z_abs => k_is)
    (case z_any => k_is)
    (case z_bool => k_is)
    (case z_int => k_is)
    (case z_isinstance => k_is)
    (case z_len => k_is)
    (case z_list => k_is)
    (case z_max => k_is)
    (case z_min => k_is)
    (case z_range => k_is)
    (case z_repr => k_is)
    (case z_str => k_is)
    (case z_sum => k_is)
    (case z_tuple => k_is)
    (case i_MOST_FIGURES => k_is)
    (case i_FIGURES => k_is)
    (case i_MOST_NUMBER => k_is)
    (case i_MOST_PARTS => k_is)
    (case i_MOST_DEAL => k_is)
    (case i_MOST_DEEP => k_is)
    (case i_MOST_SCALES => k_is)
    (case i_MOST_CHOOSERS => k_is)
    (case i_MOST_ANYS => k_is)
    (case i_MOST_LATER => k_is)
    (case i_GREAT => k_is)
    (case i_MOST_SIGNS => k_is)
    (case n_PAIRS => k_is)
    (case n_SIGNS => k_is)
    (case n_MARKS => k_is)
    (case n_FORMS => k_is)
    (case n_NUMBERS => k_is)
    (case n_Reading => k_is)
    (case n_HedgeError => k_is)
    (case n_BadTree => k_is)
    (case n_BadDeal => k_is)
    (case n_BadText => k_is)
    (case lt_PAIRS => k_is)
    (case vt_PAIRS => exact .cons ⟨_, rfl⟩ (.cons ⟨_, rfl⟩ (.cons ⟨_, rfl⟩ (.cons ⟨_, rfl⟩ (.cons ⟨_, rfl⟩ (.nil))))))
    (case zt_PAIRS => decide)
    (case lt_SIGNS => k_is)
    (case vt_SIGNS => exact .cons ⟨_, rfl⟩ (.cons ⟨_, rfl⟩ (.nil)))
    (case zt_SIGNS => decide)
    (case ld_FORMS => k_is)
    (case kl_FORMS => exact ⟨⟨_, _, rfl, rfl⟩, ⟨_, _, rfl, rfl⟩, ⟨_, _, rfl, rfl⟩, ⟨_, _, rfl, rfl⟩, ⟨_, _, rfl, rfl⟩, ⟨_, _, rfl, rfl⟩, ⟨_, _, rfl, rfl⟩, ⟨_, _, rfl, rfl⟩, ⟨_, _, rfl, rfl⟩, ⟨_, _, rfl, rfl⟩, ⟨_, _, rfl, rfl⟩, trivial⟩)
    (case ne_FORMS => rfl)
    (case vk_FORMS => exact .cons ⟨_, rfl⟩ (.cons ⟨_, rfl⟩ (.cons ⟨_, rfl⟩ (.cons ⟨_, rfl⟩ (.cons ⟨_, rfl⟩ (.cons ⟨_, rfl⟩ (.cons ⟨_, rfl⟩ (.cons ⟨_, rfl⟩ (.cons ⟨_, rfl⟩ (.cons ⟨_, rfl⟩ (.cons ⟨_, rfl⟩ (.nil))))))))))))
    (case ld_NUMBERS => k_is)
    (case kl_NUMBERS => exact ⟨⟨_, _, rfl, rfl⟩, ⟨_, _, rfl, rfl⟩, ⟨_, _, rfl, rfl⟩, ⟨_, _, rfl, rfl⟩, trivial⟩)
    (case ne_NUMBERS => rfl)
    (case vk_NUMBERS => exact .cons ⟨_, rfl⟩ (.cons ⟨_, rfl⟩ (.cons ⟨_, rfl⟩ (.cons ⟨_, rfl⟩ (.nil)))))
    (case ld_MARKS => k_is)
    (case kl_MARKS => exact ⟨⟨_, _, rfl, rfl⟩, ⟨_, _, rfl, rfl⟩, ⟨_, _, rfl, rfl⟩, ⟨_, _, rfl, rfl⟩, ⟨_, _, rfl, rfl⟩, trivial⟩)
    (case ne_MARKS => rfl)
    (case vk_MARKS => exact .cons ⟨_, rfl⟩ (.cons ⟨_, rfl⟩ (.cons ⟨_, rfl⟩ (.cons ⟨_, rfl⟩ (.cons ⟨_, rfl⟩ (.nil))))))
    (case g_w_none => k_is)
    (case lt_w_none => k_is)
    (case vt_w_none => exact .nil)
    (case zt_w_none => decide)
    (case g_w_coin => k_is)
    (case lt_w_coin => k_is)
    (case vt_w_coin => exact .cons ⟨_, rfl⟩ (.nil))
    (case zt_w_coin => decide)
    (case g_w_give => k_is)
    (case lt_w_give => k_is)
    (case vt_w_give => exact .cons ⟨_, rfl⟩ (.nil))
    (case zt_w_give => decide)
    (case g_w_both => k_is)
    (case lt_w_both => k_is)
    (case vt_w_both => exact .cons ⟨_, rfl⟩ (.cons ⟨_, rfl⟩ (.nil)))
    (case zt_w_both => decide)
    (case g_w_either => k_is)
    (case lt_w_either => k_is)
    (case vt_w_either => exact .cons ⟨_, rfl⟩ (.cons ⟨_, rfl⟩ (.nil)))
    (case zt_w_either => decide)
    (case g_w_later => k_is)
    (case lt_w_later => k_is)
    (case vt_w_later => exact .cons ⟨_, rfl⟩ (.cons ⟨_, rfl⟩ (.nil)))
    (case zt_w_later => decide)
    (case g_w_once => k_is)
    (case lt_w_once => k_is)
    (case vt_w_once => exact .cons ⟨_, rfl⟩ (.cons ⟨_, rfl⟩ (.nil)))
    (case zt_w_once => decide)
    (case g_w_until => k_is)
    (case lt_w_until => k_is)
    (case vt_w_until => exact .cons ⟨_, rfl⟩ (.cons ⟨_, rfl⟩ (.nil)))
    (case zt_w_until => decide)
    (case g_w_any => k_is)
    (case lt_w_any => k_is)
    (case vt_w_any => exact .cons ⟨_, rfl⟩ (.nil))
    (case zt_w_any => decide)
    (case g_w_scale => k_is)
    (case lt_w_scale => k_is)
    (case vt_w_scale => exact .cons ⟨_, rfl⟩ (.cons ⟨_, rfl⟩ (.nil)))
    (case zt_w_scale => decide)
    (case g_w_by => k_is)
    (case lt_w_by => k_is)
    (case vt_w_by => exact .cons ⟨_, rfl⟩ (.cons ⟨_, rfl⟩ (.nil)))
    (case zt_w_by => decide)
    (case g_w_price => k_is)
    (case lt_w_price => k_is)
    (case vt_w_price => exact .nil)
    (case zt_w_price => decide)
    (case g_w_time => k_is)
    (case lt_w_time => k_is)
    (case vt_w_time => exact .nil)
    (case zt_w_time => decide)
    (case g_w_most => k_is)
    (case lt_w_most => k_is)
    (case vt_w_most => exact .cons ⟨_, rfl⟩ (.cons ⟨_, rfl⟩ (.nil)))
    (case zt_w_most => decide)
    (case g_w_least => k_is)
    (case lt_w_least => k_is)
    (case vt_w_least => exact .cons ⟨_, rfl⟩ (.cons ⟨_, rfl⟩ (.nil)))
    (case zt_w_least => decide)
    (case g_m_plus => k_is)
    (case g_m_minus => k_is)
    (case g_m_times => k_is)
    (case g_m_below => k_is)
    (case g_m_upto => k_is)
    (case n_is_whole => k_is)
    (case l_is_whole => k_is)
    (case c_is_whole => k_is)
    (case k_is_whole => k_is)
    (case n_is_among => k_is)
    (case l_is_among => k_is)
    (case c_is_among => k_is)
    (case k_is_among => k_is)
    (case n_common => k_is)
    (case l_common => k_is)
    (case c_common => k_is)
    (case k_common => k_is)
    (case n_is_share => k_is)
    (case l_is_share => k_is)
    (case c_is_share => k_is)
    (case k_is_share => k_is)
    (case n_number_of => k_is)
    (case l_number_of => k_is)
    (case c_number_of => k_is)
    (case k_number_of => k_is)
    (case n_share_of => k_is)
    (case l_share_of => k_is)
    (case c_share_of => k_is)
    (case k_share_of => k_is)
    (case n_has_kind => k_is)
    (case l_has_kind => k_is)
    (case c_has_kind => k_is)
    (case k_has_kind => k_is)
    (case n_amount_parts => k_is)
    (case l_amount_parts => k_is)
    (case c_amount_parts => k_is)
    (case k_amount_parts => k_is)
    (case n_sign_parts => k_is)
    (case l_sign_parts => k_is)
    (case c_sign_parts => k_is)
    (case k_sign_parts => k_is)
    (case n_refuse => k_is)
    (case l_refuse => k_is)
    (case c_refuse => k_is)
    (case k_refuse => k_is)
    (case n_need_parts => k_is)
    (case l_need_parts => k_is)
    (case c_need_parts => k_is)
    (case k_need_parts => k_is)
    (case n_is_small => k_is)
    (case l_is_small => k_is)
    (case c_is_small => k_is)
    (case k_is_small => k_is)
    (case n_own_parts => k_is)
    (case l_own_parts => k_is)
    (case c_own_parts => k_is)
    (case k_own_parts => k_is)
    (case n_need_within => k_is)
    (case l_need_within => k_is)
    (case c_need_within => k_is)
    (case k_need_within => k_is)
    (case n_count_of => k_is)
    (case l_count_of => k_is)
    (case c_count_of => k_is)
    (case k_count_of => k_is)
    (case n_choosers => k_is)
    (case l_choosers => k_is)
    (case c_choosers => k_is)
    (case k_choosers => k_is)
    (case n_need_deal => k_is)
    (case l_need_deal => k_is)
    (case c_need_deal => k_is)
    (case k_need_deal => k_is)
    (case n_is_text => k_is)
    (case l_is_text => k_is)
    (case c_is_text => k_is)
    (case k_is_text => k_is)
    (case n_read_deal => k_is)
    (case l_read_deal => k_is)
    (case c_read_deal => k_is)
    (case k_read_deal => k_is)
    (case n__law_cell => k_is)
    (case l__law_cell => k_is)
    (case c__law_cell => k_is)
    (case k__law_cell => k_is)
    (case n__law_amount => k_is)
    (case l__law_amount => k_is)
    (case c__law_amount => k_is)
    (case k__law_amount => k_is)
    (case n__law_sign => k_is)
    (case l__law_sign => k_is)
    (case c__law_sign => k_is)
    (case k__law_sign => k_is)
    (case n__law_share => k_is)
    (case l__law_share => k_is)
    (case c__law_share => k_is)
    (case k__law_share => k_is)
    (case n__law_deal => k_is)
    (case l__law_deal => k_is)
    (case c__law_deal => k_is)
    (case k__law_deal => k_is)
    (case n__law_parts => k_is)
    (case l__law_parts => k_is)
    (case c__law_parts => k_is)
    (case k__law_parts => k_is)
    (case n__law_amount_parts => k_is)
    (case l__law_amount_parts => k_is)
    (case c__law_amount_parts => k_is)
    (case k__law_amount_parts => k_is)
    (case n__law_head => k_is)
    (case l__law_head => k_is)
    (case c__law_head => k_is)
    (case k__law_head => k_is)
    (case n__law_long => k_is)
    (case l__law_long => k_is)
    (case c__law_long => k_is)
    (case k__law_long => k_is)
    (case n__law_is_small => k_is)
    (case l__law_is_small => k_is)
    (case c__law_is_small => k_is)
    (case k__law_is_small => k_is)
    (case n__law_good => k_is)
    (case l__law_good => k_is)
    (case c__law_good => k_is)
    (case k__law_good => k_is)
    (case n__law_amount_text => k_is)
    (case l__law_amount_text => k_is)
    (case c__law_amount_text => k_is)
    (case k__law_amount_text => k_is)
    (case n__law_deal_text => k_is)
    (case l__law_deal_text => k_is)
    (case c__law_deal_text => k_is)
    (case k__law_deal_text => k_is)
    (case n__law_next => k_is)
    (case l__law_next => k_is)
    (case c__law_next => k_is)
    (case k__law_next => k_is)
    (case n__law_figures => k_is)
    (case l__law_figures => k_is)
    (case c__law_figures => k_is)
    (case k__law_figures => k_is)
    (case n__law_share_end => k_is)
    (case l__law_share_end => k_is)
    (case c__law_share_end => k_is)
    (case k__law_share_end => k_is)
    (case n__law_word => k_is)
    (case l__law_word => k_is)
    (case c__law_word => k_is)
    (case k__law_word => k_is)
    (case n__law_wrong => k_is)
    (case l__law_wrong => k_is)
    (case c__law_wrong => k_is)
    (case k__law_wrong => k_is)
    (case n__law_deep => k_is)
    (case l__law_deep => k_is)
    (case c__law_deep => k_is)
    (case k__law_deep => k_is)
    (case n__law_text => k_is)
    (case l__law_text => k_is)
    (case c__law_text => k_is)
    (case k__law_text => k_is)
    (case n__law_split => k_is)
    (case l__law_split => k_is)
    (case c__law_split => k_is)
    (case k__law_split => k_is)
    (case n__law_amount_of => k_is)
    (case l__law_amount_of => k_is)
    (case c__law_amount_of => k_is)
    (case k__law_amount_of => k_is)
    (case n__law_share_of => k_is)
    (case l__law_share_of => k_is)
    (case c__law_share_of => k_is)
    (case k__law_share_of => k_is)
    (case n__law_deal_of => k_is)
    (case l__law_deal_of => k_is)
    (case c__law_deal_of => k_is)
    (case k__law_deal_of => k_is)
    (case n__law_found => k_is)
    (case l__law_found => k_is)
    (case c__law_found => k_is)
    (case k__law_found => k_is)
    (case n_law => k_is)
    (case l_law => k_is)
    (case c_law => k_is)
    (case k_law => k_is)
    (case n_R_refuse_sign => k_is)
    (case fn_R_refuse_sign => k_is)
    (case l_R_refuse_sign => k_is)
    (case c_R_refuse_sign => k_is)
    (case k_R_refuse_sign => k_is)
    (case n_R_next_sign => k_is)
    (case fn_R_next_sign => k_is)
    (case l_R_next_sign => k_is)
    (case c_R_next_sign => k_is)
    (case k_R_next_sign => k_is)
    (case n_R_take_text => k_is)
    (case fn_R_take_text => k_is)
    (case l_R_take_text => k_is)
    (case c_R_take_text => k_is)
    (case k_R_take_text => k_is)
    (case n_R_take_figures => k_is)
    (case fn_R_take_figures => k_is)
    (case l_R_take_figures => k_is)
    (case c_R_take_figures => k_is)
    (case k_R_take_figures => k_is)
    (case n_R_take_word => k_is)
    (case fn_R_take_word => k_is)
    (case l_R_take_word => k_is)
    (case c_R_take_word => k_is)
    (case k_R_take_word => k_is)
    (case n_R_want_form => k_is)
    (case fn_R_want_form => k_is)
    (case l_R_want_form => k_is)
    (case c_R_want_form => k_is)
    (case k_R_want_form => k_is)
    (case n_R_read_amount => k_is)
    (case fn_R_read_amount => k_is)
    (case l_R_read_amount => k_is)
    (case c_R_read_amount => k_is)
    (case k_R_read_amount => k_is)
    (case n_R_read_share => k_is)
    (case fn_R_read_share => k_is)
    (case l_R_read_share => k_is)
    (case c_R_read_share => k_is)
    (case k_R_read_share => k_is)
    (case n_R_read_part => k_is)
    (case fn_R_read_part => k_is)
    (case l_R_read_part => k_is)
    (case c_R_read_part => k_is)
    (case k_R_read_part => k_is)
    (case n_R_read_mark => k_is)
    (case fn_R_read_mark => k_is)
    (case l_R_read_mark => k_is)
    (case c_R_read_mark => k_is)
    (case k_R_read_mark => k_is)
    (case n_R_read_next => k_is)
    (case fn_R_read_next => k_is)
    (case l_R_read_next => k_is)
    (case c_R_read_next => k_is)
    (case k_R_read_next => k_is)
    (case n_R___init__ => k_is)
    (case fn_R___init__ => k_is)
    (case l_R___init__ => k_is)
    (case c_R___init__ => k_is)
    (case k_R___init__ => k_is)
    (case R_makes => k_is)
    (case R_keep => k_is)
    (case R_pg => k_is)
    (case R_hd => k_is)
    (case R_po => k_is)
    (case R_sa => k_is)
    (case R_no_signs => k_is)
    (case R_no_at => k_is)
    (case R_no_wanted => k_is)
    (case R_no_made => k_is)
    (case D_k => k_is)
    (case D_ex => k_exc)
    (case D_bs => k_is)
    (case D_ty => k_is)
    (case D_self => first | rfl | k_is)
    (case D_cl => k_is)
    (case B_x => k_is)
    (case B_bmv => decide +kernel)
    (case B_sa => k_is)
    (case B_bs1 => k_is)
    (case B_ty => k_is)
    (case B_k => k_is)
    (case B_i => k_is)
    (case B_it => k_is)
    (case l_BI => k_is)
    (case c_BI => k_is)
    (case k_BI => k_is)
    (case B_no => k_is)
    (case B_self => first | rfl | k_is)
    (case B_cl => k_is)
    (case B_ga => k_is)
    (case B_gg => k_is)
    (case B_hd => k_is)
    (case I_ha => k_is)
    (case I_hn => k_is)
    (case I_ht => k_is)
    (case I_hm => k_is)
    (case I_v => kit_is)
    (case I_d => kit_is)
    (case I_t => kit_is)
    (case I_h => kit_is)
  case S =>
    intro w H a ns hn hb hO hS
    exact ⟨a, ns, rfl, ⟨hn, hb⟩, hS, fun _ => rfl⟩
end K06
end Sec_End
theorem PySem.Challenge.cw_hedgewright_k06_whole_any_text_holds : PySem.Challenge.rw_hedgewright_k06_whole_any_text.Holds := by
  exact K06.theLaw
