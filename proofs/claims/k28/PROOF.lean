import PyProof.Rows.All
import Wide.All
import OpenK.AllK
import Wide.FinOn
import HandS.ForMost
import HandS.ForExc
import HandS.HotCalls
import HandS.ExcIs
import HandS.TupAny
import HandS.Deep
import HandS.Flow
import HandS.TupMul
import HandS.IsInst
import HandS.Conv
import HandS.Style
import PyProof.ListRange
import PyProof.Rows.Range3
import KE.GoesEnum
import HandS.Zip
import KE.GoesZip
import KE.GoesMore
import HandS.SortInts
import HandS.SetFor
import KE.SortData
import KE.KDictSum
import KE.KDictCopyH
import HandS.HeadHook1
import KE.KIsAll
import KE.KDictKeyed
import KE.KeyNested
import HandS.Dict
import HandS.Iter
import PyProof.WalksMore
import PyProof.AutoSeq1
import HandS.TupSets
import PyProof.WalkInts
import HandS.DictSubView
import HandS.SortKw
import HandS.More
import KE.DataMinMax
import HandS.Wide
import HandS.Text
import HandS.TryOnly
import HandS.Call
import HandS.Codes
import PySem.Challenge.RW_slipcurve_k28_whole_listeners_taken_back
import KE.KStateDown
import HandS.Words
import HandS.WordsExc
import HandS.Defaults
import HandS.Head0
import HandS.Head1
import HandS.Head2
import HandS.HeadEnd
set_option Elab.async false
set_option linter.all false
set_option maxRecDepth 100000
set_option maxHeartbeats 0
/-! What a program of plain data does, as a function of data: results, operations, loops. -/
namespace DL
open PySem
abbrev D := PyData
inductive Res (α : Type) where
  | ok (a : α) | exc (n : Str) | stuck
def Res.bd {α β : Type} : Res α → (α → Res β) → Res β
  | .ok a, f => f a
  | .exc n, _ => .exc n
  | .stuck, _ => .stuck
@[simp] theorem bd_ok {α β : Type} (a : α) (f : α → Res β) : (Res.ok a).bd f = f a := id rfl
@[simp] theorem bd_exc {α β : Type} (n : Str) (f : α → Res β) : (Res.exc n).bd f = .exc n := id rfl
@[simp] theorem bd_stuck {α β : Type} (f : α → Res β) : (Res.stuck).bd f = .stuck := id rfl
theorem bd_bd {α β γ : Type} (r : Res α) (f : α → Res β) (g : β → Res γ) : (r.bd f).bd g = r.bd fun a => (f a).bd g := by cases r <;> rfl
@[simp] theorem bd_ret {α : Type} (r : Res α) : (r.bd fun a => .ok a) = r := by cases r <;> rfl
inductive Ctl (S : Type) where
  | next (s : S) | ret (d : D)
/-- what follows behind a loop that may return -/
def Res.thenC {S T : Type} (r : Res (Ctl S)) (mk : D → T) (f : S → Res T) : Res T := r.bd fun | .next s => f s | .ret d => .ok (mk d)
@[simp] theorem thenC_next {S T : Type} (s : S) (mk : D → T) (f : S → Res T) : (Res.ok (Ctl.next s)).thenC mk f = f s := id rfl
@[simp] theorem thenC_ret {S T : Type} (d : D) (mk : D → T) (f : S → Res T) : (Res.ok (Ctl.ret d : Ctl S)).thenC mk f = .ok (mk d) := id rfl
/-! ### loops -/
def forN {S : Type} (body : D → S → Res S) : List D → S → Res S
  | [], s => .ok s
  | d :: ds, s => (body d s).bd fun s' => forN body ds s'
def forC {S : Type} (body : D → S → Res (Ctl S)) : List D → S → Res (Ctl S)
  | [], s => .ok (.next s)
  | d :: ds, s => (body d s).bd fun | .next s' => forC body ds s' | .ret r => .ok (.ret r)
def whileF {S : Type} (test : S → Res Bool) (body : S → Res S) : Nat → S → Res S
  | 0, _ => .stuck
  | n + 1, s => (test s).bd fun b => if b then (body s).bd fun s' => whileF test body n s' else .ok s
theorem whileF_mono {S : Type} {test : S → Res Bool} {body : S → Res S} : ∀ {n : Nat} {s : S}, whileF test body n s ≠ .stuck → ∀ {m : Nat}, n ≤ m → whileF test body m s = whileF test body n s
  | 0, _, h, _, _ => absurd rfl h
  | n + 1, s, h, 0, e => absurd e (by omega)
  | n + 1, s, h, m + 1, e => by
    unfold whileF at h ⊢
    cases ht : test s with
    | stuck => rfl
    | exc n => rfl
    | ok b =>
      rw [ht] at h
      cases b with
      | false => rfl
      | true =>
        cases hb : body s with
        | stuck => simp [hb]
        | exc n => simp [hb]
        | ok s' =>
          simp only [bd_ok, if_true, hb] at h ⊢
          exact whileF_mono h (by omega)
open Classical in
noncomputable def whileD {S : Type} (test : S → Res Bool) (body : S → Res S) (s : S) : Res S :=
  if h : ∃ n, whileF test body n s ≠ .stuck then whileF test body (Classical.choose h) s else .stuck
theorem whileD_of {S : Type} {test : S → Res Bool} {body : S → Res S} {n : Nat} {s : S} {r : Res S} (e : whileF test body n s = r) (h : r ≠ .stuck) : whileD test body s = r := by
  have hx : ∃ n, whileF test body n s ≠ .stuck := ⟨n, by rw [e]; exact h⟩
  have e1 : whileD test body s = whileF test body (Classical.choose hx) s := dif_pos hx
  have h1 := Classical.choose_spec hx
  rw [e1]
  rcases Nat.le_total n (Classical.choose hx) with l | l
  · rw [whileF_mono (by rw [e]; exact h) l, e]
  · rw [← whileF_mono h1 l, e]
theorem whileD_ex {S : Type} {test : S → Res Bool} {body : S → Res S} {s : S} (h : whileD test body s ≠ .stuck) : ∃ n, whileF test body n s = whileD test body s := by
  by_cases hx : ∃ n, whileF test body n s ≠ .stuck
  · exact ⟨Classical.choose hx, by unfold whileD; rw [dif_pos hx]⟩
  · exact absurd (by unfold whileD; rw [dif_neg hx]) h
theorem whileD_unf {S : Type} (test : S → Res Bool) (body : S → Res S) (s : S) : whileD test body s = (test s).bd fun b => if b then (body s).bd fun s' => whileD test body s' else .ok s := by
  by_cases hx : whileD test body s = .stuck
  · rw [hx]
    cases ht : test s with
    | stuck => rfl
    | exc n => have : whileD test body s = .exc n := whileD_of (n := 1) (by unfold whileF; rw [ht]; rfl) (by intro z; cases z)
               rw [hx] at this; cases this
    | ok b =>
      cases b with
      | false => have : whileD test body s = .ok s := whileD_of (n := 1) (by unfold whileF; rw [ht]; rfl) (by intro z; cases z)
                 rw [hx] at this; cases this
      | true =>
        cases hb : body s with
        | stuck => simp [hb]
        | exc n => have : whileD test body s = .exc n := whileD_of (n := 1) (by unfold whileF; rw [ht]; simp [hb]) (by intro z; cases z)
                   rw [hx] at this; cases this
        | ok s' =>
          simp only [bd_ok, if_true, hb]
          by_cases hy : whileD test body s' = .stuck
          · exact hy.symm
          · obtain ⟨n, e⟩ := whileD_ex hy
            have : whileD test body s = whileD test body s' := whileD_of (n := n + 1) (by unfold whileF; rw [ht]; simp [hb, e]) hy
            rw [hx] at this
            exact this
  · obtain ⟨n, e⟩ := whileD_ex hx
    cases n with
    | zero => rw [← e] at hx; exact absurd rfl hx
    | succ n =>
      rw [← e] at hx ⊢
      unfold whileF at hx ⊢
      cases ht : test s with
      | stuck => rfl
      | exc n => rfl
      | ok b =>
        cases b with
        | false => rfl
        | true =>
          cases hb : body s with
          | stuck => simp [hb]
          | exc n => simp [hb]
          | ok s' =>
            simp only [ht, bd_ok, if_true, hb] at hx ⊢
            exact (whileD_of rfl hx).symm
/-! ### operations -/
def bd2 {α β γ : Type} (a : Res α) (b : Res β) (f : α → β → Res γ) : Res γ := a.bd fun x => b.bd fun y => f x y
@[simp] theorem bd2_ok {α β γ : Type} (a : α) (b : β) (f : α → β → Res γ) : bd2 (.ok a) (.ok b) f = f a b := id rfl
def fits (n : Nat) : Bool := decide (n ≤ 16777216)
def addV : D → D → Res D
  | .int i, .int j => .ok (.int (i + j))
  | .str x, .str y => if fits (x.length + y.length) then .ok (.str (x ++ y)) else .stuck
  | .tuple xs, .tuple ys => if fits (xs.length + ys.length) then .ok (.tuple (xs ++ ys)) else .stuck
  | .list xs, .list ys => if fits (xs.length + ys.length) then .ok (.list (xs ++ ys)) else .stuck
  | _, _ => .stuck
def subV : D → D → Res D
  | .int i, .int j => .ok (.int (i - j))
  | _, _ => .stuck
def small (i : Int) : Bool := decide (-(2 ^ 64) < i ∧ i < 2 ^ 64)
def mulV : D → D → Res D
  | .int i, .int j => if small i || small j then .ok (.int (i * j)) else .stuck
  | .list xs, .int k => if decide (-(2 ^ 63) ≤ k ∧ k < 2 ^ 63) && fits (xs.length * k.toNat) then .ok (.list (List.replicate k.toNat xs).flatten) else .stuck
  | .tuple xs, .int k => if decide (-(2 ^ 63) ≤ k ∧ k < 2 ^ 63) && fits (xs.length * k.toNat) then .ok (.tuple (List.replicate k.toNat xs).flatten) else .stuck
  | _, _ => .stuck
def fdivV : D → D → Res D
  | .int i, .int j => if decide (0 < j ∧ j < 1073741824) then .ok (.int (i / j)) else .stuck
  | _, _ => .stuck
def modV : D → D → Res D
  | .int i, .int j => if decide (0 < j) then .ok (.int (i % j)) else .stuck
  | _, _ => .stuck
def powV : D → D → Res D
  | .int i, .int j => if decide (0 ≤ j ∧ j ≤ 1000000) && small i then .ok (.int (i ^ j.toNat)) else .stuck
  | _, _ => .stuck
def negV : D → Res D
  | .int i => .ok (.int (-i))
  | _ => .stuck
def ltV : D → D → Res D
  | .int i, .int j => .ok (.bool (decide (i < j)))
  | _, _ => .stuck
def leV : D → D → Res D
  | .int i, .int j => .ok (.bool (decide (i ≤ j)))
  | _, _ => .stuck
def gtV : D → D → Res D
  | .int i, .int j => .ok (.bool (decide (j < i)))
  | _, _ => .stuck
def geV : D → D → Res D
  | .int i, .int j => .ok (.bool (decide (j ≤ i)))
  | _, _ => .stuck
def eqV (d e : D) : Res D := if SeqAt.shaped d && SeqAt.shaped e then .ok (.bool (PyData.eqv d e)) else .stuck
def neV (d e : D) : Res D := if SeqAt.shaped d && SeqAt.shaped e then .ok (.bool (!PyData.eqv d e)) else .stuck
def inV : D → D → Res D
  | d, .list ds => if SeqAt.shaped d && SeqAt.shaped (.list ds) then .ok (.bool (ds.any fun z => PyData.eqv z d)) else .stuck
  | _, _ => .stuck
def notInV : D → D → Res D
  | d, .list ds => if SeqAt.shaped d && SeqAt.shaped (.list ds) then .ok (.bool (!ds.any fun z => PyData.eqv z d)) else .stuck
  | _, _ => .stuck
def isN : D → Bool
  | .none => true
  | _ => false
def isNoneV (d : D) : Res D := .ok (.bool (isN d))
def notNoneV (d : D) : Res D := .ok (.bool (!isN d))
/-- as a test -/
def bl : D → Res Bool
  | .bool b => .ok b
  | _ => .stuck
@[simp] theorem bl_bool (b : Bool) : bl (.bool b) = .ok b := id rfl
def ixV : D → D → Res D
  | .list xs, .int i => match L2.atI xs i with | some d => .ok d | none => .stuck
  | .tuple xs, .int i => match L2.atI xs i with | some d => .ok d | none => .stuck
  | .str z, .int i => if fits z.length then (match L2.atI z.cps.toList i with | some c => .ok (.str ⟨#[c]⟩) | none => .stuck) else .stuck
  | _, _ => .stuck
def lenV : D → Res D
  | .list xs => .ok (.int xs.length)
  | .tuple xs => .ok (.int xs.length)
  | .str z => if fits z.length then .ok (.int z.length) else .stuck
  | _ => .stuck
def tupR (xs : List D) : Res D := if fits xs.length then .ok (.tuple xs) else .stuck
def lstR (xs : List D) : Res D := if fits xs.length then .ok (.list xs) else .stuck
/-- an argument list, from the left -/
def consR (a : Res D) (r : Res (List D)) : Res (List D) := a.bd fun x => r.bd fun xs => .ok (x :: xs)
@[simp] theorem consR_ok (x : D) (xs : List D) : consR (.ok x) (.ok xs) = .ok (x :: xs) := id rfl
/-- the items of a list or a tuple, as a loop takes them -/
def itemsV : D → Res (List D)
  | .list xs => .ok xs
  | .tuple xs => .ok xs
  | _ => .stuck
def rangeL (a : Int) (n : Nat) : List D := (List.range n).map fun (i : Nat) => .int (a + i)
def in62 (i : Int) : Bool := decide (-(2 ^ 62) ≤ i ∧ i < 2 ^ 62)
def range1 : D → Res (List D)
  | .int n => if in62 n then .ok (rangeL 0 n.toNat) else .stuck
  | _ => .stuck
def range2 : D → D → Res (List D)
  | .int a, .int b => if in62 a && in62 b then .ok (rangeL a (b - a).toNat) else .stuck
  | _, _ => .stuck
/-- a target of several names -/
def untup (n : Nat) : D → Res (List D)
  | .tuple xs => if decide (xs.length = n) then .ok xs else .stuck
  | _ => .stuck
/-- what raises within a comprehension is not told -/
def Res.nx {α : Type} : Res α → Res α
  | .ok a => .ok a
  | _ => .stuck
@[simp] theorem nx_ok {α : Type} (a : α) : (Res.ok a).nx = .ok a := id rfl
theorem nx_ns {α : Type} {r : Res α} (h : r.nx ≠ .stuck) : ∃ a, r = .ok a := by
  cases r with
  | ok a => exact ⟨a, rfl⟩
  | exc n => exact absurd rfl h
  | stuck => exact absurd rfl h
/-- a comprehension -/
def lcR (cond : D → Res Bool) (elt : D → Res D) : List D → Res (List D)
  | [] => .ok []
  | d :: ds => (cond d).nx.bd fun b => if b then consR (elt d).nx (lcR cond elt ds) else lcR cond elt ds
/-- a pair, a triple -/
def un2 {α : Type} (d : D) (f : D → D → Res α) : Res α := match d with
  | .tuple [a, b] => f a b
  | _ => .stuck
def un3 {α : Type} (d : D) (f : D → D → D → Res α) : Res α := match d with
  | .tuple [a, b, c] => f a b c
  | _ => .stuck
@[simp] theorem un2_tup {α : Type} (a b : D) (f : D → D → Res α) : un2 (.tuple [a, b]) f = f a b := id rfl
@[simp] theorem un3_tup {α : Type} (a b c : D) (f : D → D → D → Res α) : un3 (.tuple [a, b, c]) f = f a b c := id rfl
def appendV : D → D → Res D
  | .list xs, d => if decide (xs.length < 16777216) then .ok (.list (xs ++ [d])) else .stuck
  | _, _ => .stuck
def isIntV : D → Bool
  | .int _ => true
  | .bool _ => true
  | _ => false
def isBoolV : D → Bool
  | .bool _ => true
  | _ => false
def isListV : D → Bool
  | .list _ => true
  | _ => false
def isTupV : D → Bool
  | .tuple _ => true
  | _ => false
def isStrV : D → Bool
  | .str _ => true
  | _ => false
end DL
/-! Judgements over the hand layer: what stands frozen (F) in the heap (H), slots, expressions, statements. -/
namespace DL
open PySem L2
end DL
namespace L2
open PySem
open DL (D)
/-! ### frozen parts -/
structure Ex (F H F' H' : Hp) : Prop where
  ff : Same F F'
  hh : Same H H'
  eq : ∀ a, H a ≠ none → F' a = F a
theorem Ex.refl (F H : Hp) : Ex F H F H := ⟨Same.refl _, Same.refl _, fun _ _ => rfl⟩
theorem Ex.trans {F H F1 H1 F2 H2 : Hp} (a : Ex F H F1 H1) (b : Ex F1 H1 F2 H2) : Ex F H F2 H2 := by
  refine ⟨a.ff.trans b.ff, a.hh.trans b.hh, fun p hp => ?_⟩
  have h1 : H1 p ≠ none := fun z => by
    cases q : H p with
    | none => exact hp q
    | some o => rw [a.hh p o q] at z; cases z
  rw [b.eq p h1, a.eq p hp]
theorem Same.ne {H H' : Hp} (s : Same H H') {a : Addr} (h : H a ≠ none) : H' a = H a := by
  cases q : H a with
  | none => exact absurd q h
  | some o => rw [s a o q]
theorem Same.ne' {H H' : Hp} (s : Same H H') {a : Addr} (h : H a ≠ none) : H' a ≠ none := by rw [Same.ne s h]; exact h
theorem same_upd {H : Hp} {p : Addr} {o : HO} (h : H p = none) : Same H (upd H p o) := fun a u e => by rw [upd_ne (ne_of_none e h)]; exact e
/-- a new object, frozen at once -/
theorem Ex.new {F H : Hp} {p : Addr} {o : HO} (fh : Same F H) (h : H p = none) : Ex F H (upd F p o) (upd H p o) := by
  have hf : F p = none := Same.free fh h
  refine ⟨same_upd hf, same_upd h, fun a ha => ?_⟩
  have : a ≠ p := fun z => ha (z ▸ h)
  rw [upd_ne this]
/-- .. not frozen -/
theorem Ex.newO {F H : Hp} {p : Addr} {o : HO} (h : H p = none) : Ex F H F (upd H p o) := ⟨Same.refl _, same_upd h, fun _ _ => rfl⟩
theorem same_both {F H : Hp} {p : Addr} {o : HO} (fh : Same F H) : Same (upd F p o) (upd H p o) := fun a u e => by
  by_cases ha : a = p
  · subst ha; rw [upd_same] at e ⊢; exact e
  · rw [upd_ne ha] at e ⊢; exact fh a u e
theorem Same.updO {F H : Hp} {p : Addr} {o : HO} (fh : Same F H) (h : F p = none) : Same F (upd H p o) := fun a u e => by
  rw [upd_ne (ne_of_none e h)]; exact fh a u e
theorem Same.rd {H H' : Hp} (e : Same H H') {a : Addr} {u : HO} (h : Rd H a u) : Rd H' a u := by
  rcases h with h | ⟨o, h⟩
  · exact .inl (e a _ h)
  · exact .inr ⟨o, e a _ h⟩
theorem Same.tup {K : PySem.W.Frag} {H H' : Hp} {a : Addr} {xs : List V} (e : Same H H') (h : SqT K H a xs) : SqT K H' a xs := by
  rcases h with h | h
  · exact .inl (Same.rd e h)
  · exact .inr h
mutual
theorem Dp.mono {K : PySem.W.Frag} {F F' : Hp} (s : Same F F') : ∀ (d : PyData) (v : V), Dp K F v d → Dp K F' v d
  | .none, _, h => by cases h; exact .non
  | .bool b, _, h => by cases h; exact .bl b
  | .int i, _, h => by cases h; exact .int i
  | .str x, _, h => by cases h; exact .str x
  | .list ds, _, h => by cases h with | lst a b => exact .lst (Same.seq s a) (DpAll.mono s ds _ b)
  | .tuple ds, _, h => by cases h with | tup a b => exact .tup (Same.tup s a) (DpAll.mono s ds _ b)
  | .dict _, _, h => by cases h
theorem DpAll.mono {K : PySem.W.Frag} {F F' : Hp} (s : Same F F') : ∀ (ds : List PyData) (vs : List V), DpAll K F vs ds → DpAll K F' vs ds
  | [], _, h => by cases h; exact .nil
  | d :: ds, _, h => by cases h with | cons a b => exact .cons (Dp.mono s d _ a) (DpAll.mono s ds _ b)
end
theorem DpAll.length {K : PySem.W.Frag} {F : Hp} : ∀ {vs : List V} {ds : List PyData}, DpAll K F vs ds → vs.length = ds.length
  | _, _, .nil => rfl
  | _, _, .cons _ t => by simp [DpAll.length t]
theorem DpAll.append {K : PySem.W.Frag} {F : Hp} : ∀ {vs ws : List V} {ds es : List PyData}, DpAll K F vs ds → DpAll K F ws es → DpAll K F (vs ++ ws) (ds ++ es)
  | _, _, _, _, .nil, h => h
  | _, _, _, _, .cons a t, h => .cons a (DpAll.append t h)
theorem DpAll.get {K : PySem.W.Frag} {F : Hp} : ∀ {vs : List V} {ds : List PyData} {i : Nat} {d : PyData}, DpAll K F vs ds → ds[i]? = some d → ∃ v, vs[i]? = some v ∧ Dp K F v d
  | _, _, _, _, .nil, e => by simp at e
  | _, _, 0, _, .cons a _, e => by simp at e; subst e; exact ⟨_, by simp, a⟩
  | _, _, i + 1, d, .cons _ t, e => by
    obtain ⟨v, h1, h2⟩ := DpAll.get (i := i) (d := d) t (by simpa using e)
    exact ⟨v, by simpa using h1, h2⟩
theorem DpAll.getV {K : PySem.W.Frag} {F : Hp} : ∀ {vs : List V} {ds : List PyData} {i : Nat} {v : V}, DpAll K F vs ds → vs[i]? = some v → ∃ d, ds[i]? = some d ∧ Dp K F v d
  | _, _, _, _, .nil, e => by simp at e
  | _, _, 0, _, .cons a _, e => by simp at e; subst e; exact ⟨_, by simp, a⟩
  | _, _, i + 1, d, .cons _ t, e => by
    obtain ⟨v, h1, h2⟩ := DpAll.getV (i := i) (v := d) t (by simpa using e)
    exact ⟨v, by simpa using h1, h2⟩
theorem DpAll.take {K : PySem.W.Frag} {F : Hp} : ∀ {vs : List V} {ds : List PyData} (n : Nat), DpAll K F vs ds → DpAll K F (vs.take n) (ds.take n)
  | _, _, 0, _ => by simpa using DpAll.nil
  | _, _, n + 1, .nil => by simpa using DpAll.nil
  | _, _, n + 1, .cons a t => by simpa using DpAll.cons a (DpAll.take n t)
theorem DpAll.drop {K : PySem.W.Frag} {F : Hp} : ∀ {vs : List V} {ds : List PyData} (n : Nat), DpAll K F vs ds → DpAll K F (vs.drop n) (ds.drop n)
  | _, _, 0, h => by simpa using h
  | _, _, n + 1, .nil => by simpa using DpAll.nil
  | _, _, n + 1, .cons _ t => by simpa using DpAll.drop n t
theorem DpAll.reverse {K : PySem.W.Frag} {F : Hp} : ∀ {vs : List V} {ds : List PyData}, DpAll K F vs ds → DpAll K F vs.reverse ds.reverse
  | _, _, .nil => by simpa using DpAll.nil
  | _, _, .cons a t => by simpa using DpAll.append (DpAll.reverse t) (.cons a .nil)
theorem DpAll.set {K : PySem.W.Frag} {F : Hp} {v : V} {d : PyData} (h : Dp K F v d) : ∀ {vs : List V} {ds : List PyData} (i : Nat), DpAll K F vs ds → DpAll K F (vs.set i v) (ds.set i d)
  | _, _, _, .nil => by simpa using DpAll.nil
  | _, _, 0, .cons _ t => by simpa using DpAll.cons h t
  | _, _, i + 1, .cons a t => by simpa using DpAll.cons a (DpAll.set h i t)
theorem DpAll.rep {K : PySem.W.Frag} {F : Hp} {vs : List V} {ds : List PyData} (h : DpAll K F vs ds) : ∀ n : Nat, DpAll K F (List.replicate n vs).flatten (List.replicate n ds).flatten
  | 0 => by simpa using DpAll.nil
  | n + 1 => by simpa [List.replicate_succ] using DpAll.append h (DpAll.rep h n)
theorem DpAll.atI {K : PySem.W.Frag} {F : Hp} {vs : List V} {ds : List PyData} {i : Int} {d : PyData} (h : DpAll K F vs ds) (e : L2.atI ds i = some d) : ∃ v, L2.atI vs i = some v ∧ Dp K F v d := by
  unfold L2.atI at e ⊢
  rw [h.length]
  cases q : ixN ds.length i with
  | none => rw [q] at e; cases e
  | some j => rw [q] at e; exact h.get e
end L2
namespace DL
open PySem L2
/-! ### slots -/
structure Cell (K : PySem.W.Frag) where
  P : Hp → Hp → Option V → List Addr → Prop
  mono : ∀ {F F' H H' : Hp} {v : Option V} {as : List Addr}, Same F F' → (∀ a ∈ as, H' a = H a) → P F H v as → P F' H' v as
  there : ∀ {F H : Hp} {v : Option V} {as : List Addr}, P F H v as → ∀ a ∈ as, H a ≠ none
def cAny {K : PySem.W.Frag} : Cell K := ⟨fun _ _ _ as => as = [], fun _ _ h => h, fun h a ha => by subst h; cases ha⟩
def cVal {K : PySem.W.Frag} (d : D) : Cell K := ⟨fun F _ v as => as = [] ∧ ∃ x, v = some x ∧ Dp K F x d, fun s _ ⟨h, x, e, p⟩ => ⟨h, x, e, Dp.mono s _ _ p⟩, fun ⟨h, _⟩ a ha => by subst h; cases ha⟩
/-- a list of one's own -/
def Own (K : PySem.W.Frag) (F H : Hp) (x : V) (as : List Addr) (ds : List D) : Prop := ∃ a xs, x = .ref a ∧ as = [a] ∧ H a = some (.lst xs) ∧ DpAll K F xs ds
theorem Own.mono {K : PySem.W.Frag} {F F' H H' : Hp} {x : V} {as : List Addr} {ds : List D} (s : Same F F') (e : ∀ a ∈ as, H' a = H a) (h : Own K F H x as ds) : Own K F' H' x as ds := by
  obtain ⟨a, xs, rfl, rfl, h1, h2⟩ := h
  exact ⟨a, xs, rfl, rfl, by rw [e a (by simp)]; exact h1, DpAll.mono s _ _ h2⟩
/-- a value; if it is a list, one's own -/
def Res1 (K : PySem.W.Frag) (F H : Hp) (x : V) (as : List Addr) (d : D) : Prop := (∃ ds, d = .list ds ∧ Own K F H x as ds) ∨ (isListV d = false ∧ as = [] ∧ Dp K F x d)
theorem Res1.mono {K : PySem.W.Frag} {F F' H H' : Hp} {x : V} {as : List Addr} {d : D} (s : Same F F') (e : ∀ a ∈ as, H' a = H a) (h : Res1 K F H x as d) : Res1 K F' H' x as d := by
  rcases h with ⟨ds, h1, h2⟩ | ⟨h1, h2, h3⟩
  · exact .inl ⟨ds, h1, h2.mono s e⟩
  · exact .inr ⟨h1, h2, Dp.mono s _ _ h3⟩
theorem Res1.there {K : PySem.W.Frag} {F H : Hp} {x : V} {as : List Addr} {d : D} (h : Res1 K F H x as d) : ∀ a ∈ as, H a ≠ none := fun a ha => by
  rcases h with ⟨ds, _, p, xs, _, h2, h3, _⟩ | ⟨_, h2, _⟩
  · subst h2
    rw [List.mem_singleton.mp ha, h3]
    exact fun z => nomatch z
  · subst h2; cases ha
def cRes {K : PySem.W.Frag} (d : D) : Cell K := ⟨fun F H v as => ∃ x, v = some x ∧ Res1 K F H x as d, fun s e ⟨x, h1, h2⟩ => ⟨x, h1, h2.mono s e⟩, fun ⟨x, _, h2⟩ => h2.there⟩
abbrev Env (K : PySem.W.Frag) := List (Cell K)
def Slots {K : PySem.W.Frag} (F H : Hp) : Env K → St → List (List Addr) → Prop
  | [], [], [] => True
  | c :: ρ, v :: σ, as :: ass => c.P F H v as ∧ Slots F H ρ σ ass
  | _, _, _ => False
structure Good {K : PySem.W.Frag} (B H0 F H : Hp) (ρ : Env K) (σ : St) : Prop where
  ex : Ex B H0 F H
  fh : Same F H
  sl : ∃ ass, Slots F H ρ σ ass ∧ ass.flatten.Nodup ∧ ∀ a ∈ ass.flatten, F a = none ∧ H0 a = none
section
variable {K : PySem.W.Frag} {B H0 F H F' H' : Hp} {ρ : Env K} {σ : St}
theorem Slots.mono : ∀ {ρ : Env K} {σ : St} {ass : List (List Addr)}, Same F F' → (∀ a ∈ ass.flatten, H' a = H a) → Slots F H ρ σ ass → Slots F' H' ρ σ ass
  | [], [], [], _, _, _ => trivial
  | c :: ρ, v :: σ, as :: ass, s, e, h => ⟨c.mono s (fun a ha => e a (by simp [ha])) h.1, Slots.mono s (fun a ha => e a (by
      rw [List.flatten_cons]; exact List.mem_append_right _ ha)) h.2⟩
  | [], _ :: _, _, _, _, h => by cases h
  | [], [], _ :: _, _, _, h => by cases h
  | _ :: _, [], _, _, _, h => by cases h
  | _ :: _, _ :: _, [], _, _, h => by cases h
theorem Slots.there : ∀ {ρ : Env K} {σ : St} {ass : List (List Addr)}, Slots F H ρ σ ass → ∀ a ∈ ass.flatten, H a ≠ none
  | [], [], [], _, a, ha => by cases ha
  | c :: ρ, v :: σ, as :: ass, h, a, ha => by
    rw [List.flatten_cons] at ha
    rcases List.mem_append.mp ha with ha | ha
    · exact c.there h.1 a ha
    · exact Slots.there h.2 a ha
  | [], _ :: _, _, h, _, _ => by cases h
  | [], [], _ :: _, h, _, _ => by cases h
  | _ :: _, [], _, h, _, _ => by cases h
  | _ :: _, _ :: _, [], h, _, _ => by cases h
theorem Slots.len : ∀ {ρ : Env K} {σ : St} {ass : List (List Addr)}, Slots F H ρ σ ass → ρ.length = σ.length ∧ σ.length = ass.length
  | [], [], [], _ => ⟨rfl, rfl⟩
  | c :: ρ, v :: σ, as :: ass, h => by
    obtain ⟨h1, h2⟩ := Slots.len h.2
    exact ⟨by simp [h1], by simp [h2]⟩
  | [], _ :: _, _, h => by cases h
  | [], [], _ :: _, h => by cases h
  | _ :: _, [], _, h => by cases h
  | _ :: _, _ :: _, [], h => by cases h
theorem Slots.get : ∀ {ρ : Env K} {σ : St} {ass : List (List Addr)} {i : Nat} {c : Cell K}, Slots F H ρ σ ass → ρ[i]? = some c → ∃ v as, σ[i]? = some v ∧ ass[i]? = some as ∧ c.P F H v as
  | c :: ρ, v :: σ, as :: ass, 0, d, h, e => by simp at e; subst e; exact ⟨v, as, rfl, rfl, h.1⟩
  | c :: ρ, v :: σ, as :: ass, i + 1, d, h, e => by
    obtain ⟨v', as', h1, h2, h3⟩ := Slots.get (i := i) (c := d) h.2 (by simpa using e)
    exact ⟨v', as', by simpa using h1, by simpa using h2, h3⟩
  | [], [], [], _, _, _, e => by simp at e
  | [], _ :: _, _, _, _, h, _ => by cases h
  | [], [], _ :: _, _, _, h, _ => by cases h
  | _ :: _, [], _, _, _, h, _ => by cases h
  | _ :: _, _ :: _, [], _, _, h, _ => by cases h
theorem Slots.set {c : Cell K} {v : Option V} {as : List Addr} : ∀ {ρ : Env K} {σ : St} {ass : List (List Addr)} {i : Nat}, Slots F H ρ σ ass → c.P F H v as → Slots F H (ρ.set i c) (σ.set i v) (ass.set i as)
  | d :: ρ, w :: σ, bs :: ass, 0, h, q => ⟨q, h.2⟩
  | d :: ρ, w :: σ, bs :: ass, i + 1, h, q => ⟨h.1, Slots.set h.2 q⟩
  | [], [], [], _, _, _ => trivial
  | [], _ :: _, _, _, h, _ => by cases h
  | [], [], _ :: _, _, h, _ => by cases h
  | _ :: _, [], _, _, h, _ => by cases h
  | _ :: _, _ :: _, [], _, h, _ => by cases h
theorem mem_flatten_set {a : Addr} : ∀ {ass : List (List Addr)} {i : Nat} {bs : List Addr}, a ∈ (ass.set i bs).flatten → a ∈ ass.flatten ∨ a ∈ bs
  | [], _, _, h => .inl h
  | cs :: ass, 0, bs, h => by
    simp only [List.set_cons_zero, List.flatten_cons, List.mem_append] at h ⊢
    rcases h with h | h
    · exact .inr h
    · exact .inl (.inr h)
  | cs :: ass, i + 1, bs, h => by
    simp only [List.set_cons_succ, List.flatten_cons, List.mem_append] at h ⊢
    rcases h with h | h
    · exact .inl (.inl h)
    · rcases mem_flatten_set h with h | h
      · exact .inl (.inr h)
      · exact .inr h
theorem nodup_flatten_set : ∀ {ass : List (List Addr)} {i : Nat} {bs : List Addr}, ass.flatten.Nodup → bs.Nodup → (∀ b ∈ bs, b ∉ ass.flatten) → (ass.set i bs).flatten.Nodup
  | [], _, _, h, _, _ => h
  | cs :: ass, 0, bs, h, hb, hn => by
    simp only [List.set_cons_zero, List.flatten_cons] at h hn ⊢
    refine List.nodup_append.mpr ⟨hb, (List.nodup_append.mp h).2.1, fun a ha b hb' e => ?_⟩
    subst e
    exact hn a ha (List.mem_append_right _ hb')
  | cs :: ass, i + 1, bs, h, hb, hn => by
    simp only [List.set_cons_succ, List.flatten_cons] at h hn ⊢
    obtain ⟨h1, h2, h3⟩ := List.nodup_append.mp h
    refine List.nodup_append.mpr ⟨h1, nodup_flatten_set h2 hb fun b hb' hm => hn b hb' (List.mem_append_right _ hm), fun a ha b hb' e => ?_⟩
    subst e
    rcases mem_flatten_set hb' with z | z
    · exact h3 a ha a z rfl
    · exact hn a z (List.mem_append_left _ ha)
/-- smaller: what slot i owned is let go -/
theorem nodup_flatten_set' : ∀ {ass : List (List Addr)} {i : Nat} {cs bs : List Addr}, ass.flatten.Nodup → ass[i]? = some cs → bs.Nodup → (∀ b ∈ bs, b ∈ cs ∨ b ∉ ass.flatten) → (ass.set i bs).flatten.Nodup
  | [], _, _, _, _, e, _, _ => by simp at e
  | cs :: ass, 0, cs', bs, h, e, hb, hn => by
    simp only [List.set_cons_zero, List.flatten_cons] at h hn ⊢
    simp at e; subst e
    refine List.nodup_append.mpr ⟨hb, (List.nodup_append.mp h).2.1, fun a ha b hb' e => ?_⟩
    subst e
    rcases hn a ha with z | z
    · exact (List.nodup_append.mp h).2.2 a z a hb' rfl
    · exact z (List.mem_append_right _ hb')
  | cs :: ass, i + 1, cs', bs, h, e, hb, hn => by
    simp only [List.set_cons_succ, List.flatten_cons] at h hn ⊢
    obtain ⟨h1, h2, h3⟩ := List.nodup_append.mp h
    have e' : ass[i]? = some cs' := by simpa using e
    refine List.nodup_append.mpr ⟨h1, nodup_flatten_set' h2 e' hb fun b hb' => ?_, fun a ha b hb' e => ?_⟩
    · rcases hn b hb' with z | z
      · exact .inl z
      · exact .inr fun hm => z (List.mem_append_right _ hm)
    · subst e
      rcases mem_flatten_set hb' with z | z
      · exact h3 a ha a z rfl
      · rcases hn a z with z | z
        · exact h3 a ha a (List.mem_flatten.mpr ⟨cs', List.mem_of_getElem? e', z⟩) rfl
        · exact z (List.mem_append_left _ ha)
/-- .. and what it owned is owned by no other slot -/
theorem not_in_set : ∀ {ass : List (List Addr)} {i : Nat} {cs bs : List Addr} {a : Addr}, ass.flatten.Nodup → ass[i]? = some cs → a ∈ cs → a ∉ bs → a ∉ (ass.set i bs).flatten
  | [], _, _, _, _, _, e, _, _ => by simp at e
  | cs :: ass, 0, cs', bs, a, h, e, ha, hb => by
    simp only [List.set_cons_zero, List.flatten_cons] at h ⊢
    simp at e; subst e
    intro hm
    rcases List.mem_append.mp hm with z | z
    · exact hb z
    · exact (List.nodup_append.mp h).2.2 a ha a z rfl
  | cs :: ass, i + 1, cs', bs, a, h, e, ha, hb => by
    simp only [List.set_cons_succ, List.flatten_cons] at h ⊢
    obtain ⟨h1, h2, h3⟩ := List.nodup_append.mp h
    have e' : ass[i]? = some cs' := by simpa using e
    intro hm
    rcases List.mem_append.mp hm with z | z
    · exact h3 a z a (List.mem_flatten.mpr ⟨cs', List.mem_of_getElem? e', ha⟩) rfl
    · exact not_in_set h2 e' ha hb z
theorem Good.go (g : Good B H0 F H ρ σ) (e : Ex F H F' H') (fh : Same F' H') : Good B H0 F' H' ρ σ := by
  obtain ⟨x, f, ass, h1, h2, h3⟩ := g
  have th := h1.there
  refine ⟨x.trans e, fh, ass, h1.mono e.ff fun a ha => Same.ne e.hh (th a ha), h2, fun a ha => ⟨?_, (h3 a ha).2⟩⟩
  rw [e.eq a (th a ha)]; exact (h3 a ha).1
/-- the same slots from another base -/
theorem Good.base (g : Good B H0 F H ρ σ) {B' H0' : Hp} (e : Ex B' H0' F H) (hn : ∀ a, H0' a ≠ none → H0 a ≠ none ∨ F a ≠ none) : Good B' H0' F H ρ σ := by
  obtain ⟨x, f, ass, h1, h2, h3⟩ := g
  refine ⟨e, f, ass, h1, h2, fun a ha => ⟨(h3 a ha).1, ?_⟩⟩
  cases q : H0' a with
  | none => rfl
  | some o =>
    rcases hn a (by rw [q]; exact fun z => nomatch z) with z | z
    · exact absurd (h3 a ha).2 z
    · exact absurd (h3 a ha).1 z
/-- slot i gets a value -/
theorem Good.set (g : Good B H0 F H ρ σ) {c : Cell K} {x : V} {as : List Addr} {i : Nat} (h : c.P F H (some x) as) (hn : as.Nodup) (ho : ∀ a ∈ as, F a = none ∧ H0 a = none ∧ ∀ ass, Slots F H ρ σ ass → a ∉ ass.flatten) : Good B H0 F H (ρ.set i c) (σ.set i (some x)) := by
  obtain ⟨e, f, ass, h1, h2, h3⟩ := g
  refine ⟨e, f, ass.set i as, h1.set h, nodup_flatten_set h2 hn fun b hb => (ho b hb).2.2 ass h1, fun a ha => ?_⟩
  rcases mem_flatten_set ha with z | z
  · exact h3 a z
  · exact ⟨(ho a z).1, (ho a z).2.1⟩
theorem Good.setV (g : Good B H0 F H ρ σ) {d : D} {x : V} {i : Nat} (h : Dp K F x d) : Good B H0 F H (ρ.set i (cVal d)) (σ.set i (some x)) :=
  g.set (as := []) (c := cVal d) ⟨rfl, x, rfl, h⟩ List.nodup_nil fun _ ha => nomatch ha
end
end DL
/-! Judgements: what an expression, a test, an argument list, a block gives, in data. -/
namespace DL
open PySem L2
/-- what every block's context keeps (calm or within an except suite) -/
class CtxB (X : Cx) (W : outParam WX) : Prop where
  tk : L2N.Takes X W
  po : PassesOwn (model X.prog X.w) X.A X.env X.xe
  nd : X.N.Nodup
  hu : X.A.units + 90 < cLine
class Ctx (X : Cx) (W : outParam WX) : Prop extends CtxB X W where
  calm : X.calm = true
/-! ### how a value stands for data -/
inductive Md where
  | V | T | O | P
class Md.NP (m : Md) : Prop where
  np : m ≠ .P
instance : Md.NP .V := ⟨nofun⟩
instance : Md.NP .T := ⟨nofun⟩
instance : Md.NP .O := ⟨nofun⟩
/-- a pair whose second one is a list -/
def isPair : D → Bool
  | .tuple [_, .list _] => true
  | _ => false
/-- a pair whose second one is a list of one's own; or another thing -/
def TupL (K : PySem.W.Frag) (F H : Hp) (x : V) (as : List Addr) (d : D) : Prop :=
  (∃ a b v1 d1 ys ds, d = .tuple [d1, .list ds] ∧ x = .ref a ∧ as = [a, b] ∧ a ≠ b ∧ H a = some (.tup [v1, .ref b]) ∧ Dp K F v1 d1 ∧ H b = some (.lst ys) ∧ DpAll K F ys ds) ∨ (isPair d = false ∧ as = [] ∧ Dp K F x d)
/-- a list's spine in H, all else frozen -/
def Tp (K : PySem.W.Frag) (F H : Hp) (v : V) (d : D) : Prop :=
  (∃ ds a xs, d = .list ds ∧ v = .ref a ∧ SqL K H a xs ∧ DpAll K F xs ds) ∨ (isListV d = false ∧ Dp K F v d)
def Acc (K : PySem.W.Frag) (m : Md) (H F' H' : Hp) (d : D) (v : V) : Prop := match m with
  | .V => Dp K F' v d
  | .T => Tp K F' H' v d
  | .O => ∃ as, Res1 K F' H' v as d ∧ ∀ a ∈ as, H a = none ∧ F' a = none
  | .P => ∃ as, TupL K F' H' v as d ∧ ∀ a ∈ as, H a = none ∧ F' a = none
section
variable {K : PySem.W.Frag} {H H1 F F' H' : Hp} {v : V} {d : D}
theorem Acc.base {m : Md} (s : Same H H1) (h : Acc K m H1 F' H' d v) : Acc K m H F' H' d v := by
  cases m with
  | V => exact h
  | T => exact h
  | O => obtain ⟨as, h1, h2⟩ := h; exact ⟨as, h1, fun a ha => ⟨Same.free s (h2 a ha).1, (h2 a ha).2⟩⟩
  | P => obtain ⟨as, h1, h2⟩ := h; exact ⟨as, h1, fun a ha => ⟨Same.free s (h2 a ha).1, (h2 a ha).2⟩⟩
theorem Dp.tp (s : Same F H) (h : Dp K F v d) : Tp K F H v d := by
  cases h with
  | lst a b => exact .inl ⟨_, _, _, rfl, rfl, Same.seq s a, b⟩
  | tup a b => exact .inr ⟨rfl, .tup a b⟩
  | non => exact .inr ⟨rfl, .non⟩
  | bl b => exact .inr ⟨rfl, .bl b⟩
  | int i => exact .inr ⟨rfl, .int i⟩
  | str x => exact .inr ⟨rfl, .str x⟩
theorem Tp.dp (s : Same F H) (h : Tp K F H v d) : Dp K H v d := by
  rcases h with ⟨ds, a, xs, rfl, rfl, h1, h2⟩ | ⟨_, h⟩
  · exact .lst h1 (DpAll.mono s _ _ h2)
  · exact Dp.mono s _ _ h
theorem Tp.go (e : Ex F H F' H') (h : Tp K F H v d) : Tp K F' H' v d := by
  rcases h with ⟨ds, a, xs, rfl, rfl, h1, h2⟩ | ⟨h0, h⟩
  · exact .inl ⟨ds, a, xs, rfl, rfl, Same.seq e.hh h1, DpAll.mono e.ff _ _ h2⟩
  · exact .inr ⟨h0, Dp.mono e.ff _ _ h⟩
theorem Res1.tp {as : List Addr} (h : Res1 K F H v as d) : Tp K F H v d := by
  rcases h with ⟨ds, rfl, a, xs, rfl, _, h1, h2⟩ | ⟨h0, _, h⟩
  · exact .inl ⟨ds, a, xs, rfl, rfl, SqL.of h1, h2⟩
  · exact .inr ⟨h0, h⟩
/-- what is owned is frozen -/
def fz (as : List Addr) (F H : Hp) : Hp := fun b => if b ∈ as then H b else F b
theorem fz_in {as : List Addr} {a : Addr} (h : a ∈ as) : fz as F H a = H a := by unfold fz; rw [if_pos h]
theorem fz_out {as : List Addr} {a : Addr} (h : a ∉ as) : fz as F H a = F a := by unfold fz; rw [if_neg h]
theorem fz_ff {as : List Addr} (hn : ∀ a ∈ as, F a = none) : Same F (fz as F H) := fun b o e => by
  rw [fz_out fun hb => by rw [hn b hb] at e; cases e]; exact e
theorem fz_fh {as : List Addr} (fh : Same F H) : Same (fz as F H) H := fun b o e => by
  by_cases hb : b ∈ as
  · rwa [fz_in hb] at e
  · rw [fz_out hb] at e; exact fh b o e
theorem Res1.fz {as : List Addr} (hn : ∀ a ∈ as, F a = none) (h : Res1 K F H v as d) : Dp K (fz as F H) v d := by
  rcases h with ⟨ds, rfl, a, xs, rfl, rfl, h1, h2⟩ | ⟨h0, rfl, h⟩
  · exact .lst (SqL.of (by rw [fz_in (by simp)]; exact h1)) (DpAll.mono (fz_ff hn) _ _ h2)
  · exact Dp.mono (fz_ff hn) _ _ h
end
/-! ### what is known behind an evaluation -/
structure Kn {α β : Type} (X : Cx) (W : WX) (F H : Hp) (σ : St) (r : Res α) (A : Hp → Hp → Hp → α → β → Prop) (Q : β → Hp → Prop) : Prop where
  ns : r ≠ .stuck
  ok : ∀ a, r = .ok a → ∀ b F' H', Ex F H F' H' → Same F' H' → A H F' H' a b → Q b H'
  xc : ∀ n, r = .exc n → ∀ H' C, X.mg n = some C → Same H H' → W C none σ H'
section
variable {X : Cx} {W : WX} {F H : Hp} {σ : St} {α β α' β' : Type}
theorem Kn.bd {r : Res α'} {f : α' → Res α} {A : Hp → Hp → Hp → α → β → Prop} {Q : β → Hp → Prop} {A1 : Hp → Hp → Hp → α' → β' → Prop} {Q1 : β' → Hp → Prop} (h : Kn X W F H σ (r.bd f) A Q)
    (hA : ∀ H H1 F' H' a b, Same H H1 → A H1 F' H' a b → A H F' H' a b)
    (hk : ∀ a b F1 H1, r = .ok a → Ex F H F1 H1 → Same F1 H1 → A1 H F1 H1 a b → Kn X W F1 H1 σ (f a) A Q → Q1 b H1) : Kn X W F H σ r A1 Q1 := by
  refine ⟨fun z => h.ns (by rw [z]; rfl), fun a e b F1 H1 x s q => hk a b F1 H1 e x s q ?_, fun n e => h.xc n (by rw [e]; rfl)⟩
  subst e
  exact ⟨h.ns, fun c e d F2 H2 y s2 q2 => h.ok c e d F2 H2 (x.trans y) s2 (hA _ _ _ _ _ _ x.hh q2), fun n e H2 C m s2 => h.xc n e H2 C m (x.hh.trans s2)⟩
theorem Kn.ret {a : α} {A : Hp → Hp → Hp → α → β → Prop} {Q : β → Hp → Prop} {b : β} {F' H' : Hp} (h : Kn X W F H σ (.ok a) A Q) (e : Ex F H F' H') (s : Same F' H') (q : A H F' H' a b) : Q b H' := h.ok a rfl b F' H' e s q
theorem Kn.of_eq {r r' : Res α} {A : Hp → Hp → Hp → α → β → Prop} {Q : β → Hp → Prop} (h : Kn X W F H σ r A Q) (e : r = r') : Kn X W F H σ r' A Q := e ▸ h
end
def aB : Hp → Hp → Hp → Bool → Bool → Prop := fun _ _ _ a b => a = b
def aL (K : PySem.W.Frag) : Hp → Hp → Hp → List D → List V → Prop := fun _ F _ ds vs => DpAll K F vs ds
structure EG (X : Cx) (W : WX) (ρ : Env X.K) (m : Md) (e : Expr) (r : Res D) : Prop where
  ex : ∃ t, PE X e t ∧ ∀ B H0 F H σ Q, Good B H0 F H ρ σ → Kn X W F H σ r (Acc X.K m) Q → t σ H Q
structure TG' (X : Cx) (W : WX) (ρ : Env X.K) (e : Expr) (r : Res Bool) : Prop where
  ex : ∃ t, PT X e t ∧ ∀ B H0 F H σ Q, Good B H0 F H ρ σ → Kn X W F H σ r aB Q → t σ H Q
structure AG (X : Cx) (W : WX) (ρ : Env X.K) (es : List Expr) (r : Res (List D)) : Prop where
  len : ∀ ds, r = .ok ds → ds.length = es.length
  ex : ∃ t, PA X es t ∧ ∀ B H0 F H σ Q, Good B H0 F H ρ σ → Kn X W F H σ r (aL X.K) Q → t σ H Q
section
variable {X : Cx} {W : WX} {ρ : Env X.K} {m : Md} {e a b : Expr} {r ra rb : Res D} {pos : Pos}
theorem aB_base (H H1 F' H' : Hp) (x y : Bool) (_ : Same H H1) (h : aB H1 F' H' x y) : aB H F' H' x y := h
theorem aL_base {K : PySem.W.Frag} (H H1 F' H' : Hp) (x : List D) (y : List V) (_ : Same H H1) (h : aL K H1 F' H' x y) : aL K H F' H' x y := h
theorem acc_base {K : PySem.W.Frag} {m : Md} (H H1 F' H' : Hp) (x : D) (y : V) (s : Same H H1) (h : Acc K m H1 F' H' x y) : Acc K m H F' H' x y := h.base s
/-! ### from one way of standing to another -/
theorem EG.vt (h : EG X W ρ .V e r) : EG X W ρ .T e r := by
  obtain ⟨t, h1, h2⟩ := h
  exact ⟨t, h1, fun B H0 F H σ Q g k => h2 B H0 F H σ Q g ⟨k.ns, fun d ed v F' H' x s q => k.ok d ed v F' H' x s (Dp.tp s q), k.xc⟩⟩
theorem EG.ot (h : EG X W ρ .O e r) : EG X W ρ .T e r := by
  obtain ⟨t, h1, h2⟩ := h
  exact ⟨t, h1, fun B H0 F H σ Q g k => h2 B H0 F H σ Q g ⟨k.ns, fun d ed v F' H' x s ⟨as, q, _⟩ => k.ok d ed v F' H' x s q.tp, k.xc⟩⟩
theorem EG.ov (h : EG X W ρ .O e r) : EG X W ρ .V e r := by
  obtain ⟨t, h1, h2⟩ := h
  refine ⟨t, h1, fun B H0 F H σ Q g k => h2 B H0 F H σ Q g ⟨k.ns, fun d ed v F' H' x s ⟨as, q, hn⟩ => ?_, k.xc⟩⟩
  have hf : ∀ a ∈ as, F' a = none := fun a ha => (hn a ha).2
  refine k.ok d ed v (fz as F' H') H' ⟨x.ff.trans (fz_ff hf), x.hh, fun a ha => ?_⟩ (fz_fh s) (q.fz hf)
  rw [fz_out fun z => ha (hn a z).1, x.eq a ha]
theorem EG.vo (hl : ∀ d, r = .ok d → isListV d = false) (h : EG X W ρ .V e r) : EG X W ρ .O e r := by
  obtain ⟨t, h1, h2⟩ := h
  exact ⟨t, h1, fun B H0 F H σ Q g k => h2 B H0 F H σ Q g ⟨k.ns, fun d ed v F' H' x s q => k.ok d ed v F' H' x s ⟨[], .inr ⟨hl d ed, rfl, q⟩, fun _ z => nomatch z⟩, k.xc⟩⟩
/-! ### names, constants -/
theorem eg_var (i : Nat) {x : Str} {pos : Pos} {d : D} (hρ : ρ[i]? = some (cVal d)) (hN : X.N[i]? = some x := by rfl) (hv : Vis X.env.scope x := by first | exact Or.inl rfl | exact Or.inr (Or.inl rfl) | exact Or.inr (Or.inr rfl)) (hd : (x == ("__debug__" : Str)) = false := by decide)
    (hcd : (x == ("__classdict__" : Str)) = false := by decide) : EG X W ρ .V (.Name x pos) (.ok d) := by
  refine ⟨_, pe_var hN hv hd hcd, fun B H0 F H σ Q g k => ?_⟩
  obtain ⟨_, fh, ass, sl, _⟩ := g
  obtain ⟨v, as, h1, _, _, y, h3, h4⟩ := sl.get hρ
  subst h3
  exact ⟨y, h1, k.ret (Ex.refl _ _) fh h4⟩
/-- a slot that owns its list, looked at -/
theorem eg_peek (i : Nat) {x : Str} {pos : Pos} {d : D} (hρ : ρ[i]? = some (cRes d)) (hN : X.N[i]? = some x := by rfl) (hv : Vis X.env.scope x := by first | exact Or.inl rfl | exact Or.inr (Or.inl rfl) | exact Or.inr (Or.inr rfl)) (hd : (x == ("__debug__" : Str)) = false := by decide)
    (hcd : (x == ("__classdict__" : Str)) = false := by decide) : EG X W ρ .T (.Name x pos) (.ok d) := by
  refine ⟨_, pe_var hN hv hd hcd, fun B H0 F H σ Q g k => ?_⟩
  obtain ⟨_, fh, ass, sl, _⟩ := g
  obtain ⟨v, as, h1, _, y, h3, h4⟩ := sl.get hρ
  subst h3
  exact ⟨y, h1, k.ret (Ex.refl _ _) fh h4.tp⟩
theorem eg_const {v : V} {d : D} (h : PE X e (tC v)) (hd : ∀ F, Dp X.K F v d) : EG X W ρ .V e (.ok d) := by
  refine ⟨_, h, fun B H0 F H σ Q g k => ?_⟩
  obtain ⟨_, fh, _⟩ := g
  exact k.ret (Ex.refl _ _) fh (hd _)
theorem eg_int {i j pos} : EG X W ρ .V (.Constant (.int i) j pos) (.ok (.int i)) := eg_const pe_int fun _ => .int i
theorem eg_bl {i j pos} : EG X W ρ .V (.Constant (.bool i) j pos) (.ok (.bool i)) := eg_const pe_bl fun _ => .bl i
theorem eg_non {j pos} : EG X W ρ .V (.Constant .none j pos) (.ok .none) := eg_const pe_non fun _ => .non
theorem eg_str {i j pos} : EG X W ρ .V (.Constant (.str i) j pos) (.ok (.str i)) := eg_const pe_str fun _ => .str i
theorem eg_globI {x : Str} {i : Int} {pos : Pos} (hm : ∃ t, X.mg x = some (.int i t)) (hg : Gl X x := by rfl) (hd : (x == ("__debug__" : Str)) = false := by decide) : EG X W ρ .V (.Name x pos) (.ok (.int i)) := by
  obtain ⟨t, hm⟩ := hm
  exact eg_const (pe_glob (v := .int i) hg hm ⟨t, rfl⟩ hd) fun _ => .int i
theorem eg_globS {x : Str} {i : Str} {pos : Pos} (hm : ∃ t, X.mg x = some (.str i t)) (hg : Gl X x := by rfl) (hd : (x == ("__debug__" : Str)) = false := by decide) : EG X W ρ .V (.Name x pos) (.ok (.str i)) := by
  obtain ⟨t, hm⟩ := hm
  exact eg_const (pe_glob (v := .str i) hg hm ⟨t, rfl⟩ hd) fun _ => .str i
/-! ### two operands -/
/-- an operation by values against one on data -/
def OpD (X : Cx) (W : WX) (m : Md) (rr : R2) (g : D → D → Res D) : Prop := ∀ F H σ x y d1 d2 Q, Same F H → Tp X.K F H x d1 → Tp X.K F H y d2 → Kn X W F H σ (g d1 d2) (Acc X.K m) Q → rr x y H Q
theorem two_eval {g : D → D → Res D} {rr : R2} {ta tb : TE} (hg : OpD X W m rr g)
    (ha : ∀ B H0 F H σ Q, Good B H0 F H ρ σ → Kn X W F H σ ra (Acc X.K .T) Q → ta σ H Q) (hb : ∀ B H0 F H σ Q, Good B H0 F H ρ σ → Kn X W F H σ rb (Acc X.K .T) Q → tb σ H Q) :
    ∀ B H0 F H σ Q, Good B H0 F H ρ σ → Kn X W F H σ (bd2 ra rb g) (Acc X.K m) Q → tOp rr ta tb σ H Q := fun B H0 F H σ Q gd k =>
  ha B H0 F H σ _ gd (Kn.bd k acc_base fun d1 x F1 H1 _ e1 s1 q1 k1 => hb B H0 F1 H1 σ _ (gd.go e1 s1) (Kn.bd k1 acc_base fun d2 y F2 H2 _ e2 s2 q2 k2 => hg F2 H2 σ x y d1 d2 Q s2 (Tp.go e2 q1) q2 k2))
theorem eg_op {op : Operator} {rr : R2} {g : D → D → Res D} (ho : OpR X (binaryOp op) rr) (hg : OpD X W m rr g) (ha : EG X W ρ .T a ra) (hb : EG X W ρ .T b rb) : EG X W ρ m (.BinOp a op b pos) (bd2 ra rb g) := by
  obtain ⟨ta, a1, a2⟩ := ha
  obtain ⟨tb, b1, b2⟩ := hb
  exact ⟨_, pe_op ho a1 b1, two_eval hg a2 b2⟩
theorem eg_cmp {op : CmpOp} {rr : R2} {g : D → D → Res D} (ho : OpR X (compareOp op) rr) (hg : OpD X W m rr g) (ha : EG X W ρ .T a ra) (hb : EG X W ρ .T b rb) (hm : behindInMarks op b = false) : EG X W ρ m (.Compare a [op] [b] pos) (bd2 ra rb g) := by
  obtain ⟨ta, a1, a2⟩ := ha
  obtain ⟨tb, b1, b2⟩ := hb
  exact ⟨_, pe_cmpR ho a1 b1 hm, two_eval hg a2 b2⟩
theorem tg_cmp {op : CmpOp} {rr : R2} {g : D → D → Res D} (ho : OpR X (compareOp op) rr) (hg : OpD X W .V rr g) (ha : EG X W ρ .T a ra) (hb : EG X W ρ .T b rb) (hm : behindInMarks op b = false) : TG' X W ρ (.Compare a [op] [b] pos) ((bd2 ra rb g).bd bl) := by
  obtain ⟨ta, a1, a2⟩ := ha
  obtain ⟨tb, b1, b2⟩ := hb
  refine ⟨_, pt_cmpR ho a1 b1 hm, fun B H0 F H σ Q gd k => ?_⟩
  refine two_eval hg a2 b2 B H0 F H σ _ gd (Kn.bd k aB_base fun d x F1 H1 _ e1 s1 q1 k1 => ?_)
  cases d with
  | bool c => cases q1; exact ⟨c, rfl, k1.ret (Ex.refl _ _) s1 rfl⟩
  | _ => exact absurd rfl k1.ns
/-- int, int -/
theorem opI0 {g : D → D → Res D} {f : Int → Int → V} {fd : Int → Int → D} (h1 : ∀ i j, g (.int i) (.int j) = .ok (fd i j)) (h2 : ∀ d e, (∀ i j, ¬ (d = .int i ∧ e = .int j)) → g d e = .stuck) (h3 : ∀ F i j, Dp X.K F (f i j) (fd i j)) : OpD X W .V (rI0 f) g := by
  intro F H σ x y d1 d2 Q s a b k
  cases d1 with
  | int i =>
    cases d2 with
    | int j =>
      rcases a with ⟨_, _, _, z, _⟩ | ⟨_, a⟩; cases z
      rcases b with ⟨_, _, _, z, _⟩ | ⟨_, b⟩; cases z
      cases a; cases b
      exact ⟨i, j, rfl, rfl, (k.of_eq (h1 i j)).ret (Ex.refl _ _) s (h3 _ i j)⟩
    | _ => exact absurd (h2 _ _ (by rintro i j ⟨_, z⟩; cases z)) k.ns
  | _ => exact absurd (h2 _ _ (by rintro i j ⟨z, _⟩; cases z)) k.ns
theorem opIC {C : Int → Int → Prop} {c : Int → Int → Bool} {g : D → D → Res D} {f : Int → Int → V} {fd : Int → Int → D} (hc : ∀ i j, c i j = true → C i j) (h1 : ∀ i j, g (.int i) (.int j) = if c i j then .ok (fd i j) else .stuck) (h2 : ∀ d e, (∀ i j, ¬ (d = .int i ∧ e = .int j)) → g d e = .stuck) (h3 : ∀ F i j, Dp X.K F (f i j) (fd i j)) : OpD X W .V (rI C f) g := by
  intro F H σ x y d1 d2 Q s a b k
  cases d1 with
  | int i =>
    cases d2 with
    | int j =>
      rcases a with ⟨_, _, _, z, _⟩ | ⟨_, a⟩; cases z
      rcases b with ⟨_, _, _, z, _⟩ | ⟨_, b⟩; cases z
      cases a; cases b
      cases e : c i j with
      | true => exact ⟨i, j, rfl, rfl, hc i j e, (k.of_eq ((h1 i j).trans (by rw [e]; rfl))).ret (Ex.refl _ _) s (h3 _ i j)⟩
      | false => exact absurd ((h1 i j).trans (by rw [e]; rfl)) k.ns
    | _ => exact absurd (h2 _ _ (by rintro i j ⟨_, z⟩; cases z)) k.ns
  | _ => exact absurd (h2 _ _ (by rintro i j ⟨z, _⟩; cases z)) k.ns
theorem od_sub : OpD X W .V (rI0 fun i j => .int (i - j)) subV := opI0 (fun _ _ => rfl) (fun d e h => by cases d <;> first | rfl | (cases e <;> first | rfl | exact absurd ⟨rfl, rfl⟩ (h _ _))) fun _ _ _ => .int _
theorem od_lt : OpD X W .V (rI0 fun i j => .bl (decide (i < j))) ltV := opI0 (fun _ _ => rfl) (fun d e h => by cases d <;> first | rfl | (cases e <;> first | rfl | exact absurd ⟨rfl, rfl⟩ (h _ _))) fun _ _ _ => .bl _
theorem od_le : OpD X W .V (rI0 fun i j => .bl (decide (i ≤ j))) leV := opI0 (fun _ _ => rfl) (fun d e h => by cases d <;> first | rfl | (cases e <;> first | rfl | exact absurd ⟨rfl, rfl⟩ (h _ _))) fun _ _ _ => .bl _
theorem od_gt : OpD X W .V (rI0 fun i j => .bl (decide (j < i))) gtV := opI0 (fun _ _ => rfl) (fun d e h => by cases d <;> first | rfl | (cases e <;> first | rfl | exact absurd ⟨rfl, rfl⟩ (h _ _))) fun _ _ _ => .bl _
theorem od_ge : OpD X W .V (rI0 fun i j => .bl (decide (j ≤ i))) geV := opI0 (fun _ _ => rfl) (fun d e h => by cases d <;> first | rfl | (cases e <;> first | rfl | exact absurd ⟨rfl, rfl⟩ (h _ _))) fun _ _ _ => .bl _
theorem od_fdiv : OpD X W .V (rI CDiv fun i j => .int (i / j)) fdivV := opIC (c := fun _ j => decide (0 < j ∧ j < 1073741824)) (fun _ _ h => by unfold CDiv; exact of_decide_eq_true h) (fun _ _ => rfl) (fun d e h => by cases d <;> first | rfl | (cases e <;> first | rfl | exact absurd ⟨rfl, rfl⟩ (h _ _))) fun _ _ _ => .int _
theorem od_mod : OpD X W .V (rI (fun _ j => 0 < j) fun i j => .int (i % j)) modV := opIC (c := fun _ j => decide (0 < j)) (fun _ _ h => of_decide_eq_true h) (fun _ _ => rfl) (fun d e h => by cases d <;> first | rfl | (cases e <;> first | rfl | exact absurd ⟨rfl, rfl⟩ (h _ _))) fun _ _ _ => .int _
theorem od_pow : OpD X W .V (rI CPow fun i j => .int (i ^ j.toNat)) powV := opIC (c := fun i j => decide (0 ≤ j ∧ j ≤ 1000000) && small i) (fun i j h => by
    simp only [Bool.and_eq_true, decide_eq_true_eq, small] at h
    refine ⟨h.1.1, h.1.2, ?_⟩
    have h2 := h.2
    have e : ((2 ^ 64 : Nat) : Int) = 2 ^ 64 := by decide
    omega) (fun _ _ => rfl) (fun d e h => by cases d <;> first | rfl | (cases e <;> first | rfl | exact absurd ⟨rfl, rfl⟩ (h _ _))) fun _ _ _ => .int _
theorem od_mulI : OpD X W .V (rI CMul fun i j => .int (i * j)) (fun d e => match d, e with | .int i, .int j => mulV (.int i) (.int j) | _, _ => .stuck) := opIC (c := fun i j => small i || small j) (fun i j h => by
    rcases Bool.or_eq_true _ _ ▸ h with h | h
    · exact .inl (of_decide_eq_true h)
    · exact .inr (of_decide_eq_true h)) (fun _ _ => rfl) (fun d e h => by cases d <;> first | rfl | (cases e <;> first | rfl | exact absurd ⟨rfl, rfl⟩ (h _ _))) fun _ _ _ => .int _
end
end DL
/-! Rules: operators, displays, items, calls of built-ins, tests. -/
namespace DL
open PySem L2
section
variable {X : Cx} {W : WX} {ρ : Env X.K} {m : Md} {e a b c : Expr} {r ra rb rc : Res D} {pos : Pos}
theorem fits_le {n : Nat} (h : fits n = true) : n ≤ sizeLine := by rw [PySem.sizeLine_eq]; exact of_decide_eq_true h
/-- two lists -/
def rCatL (K : PySem.W.Frag) : R2 := fun x y H Q => ∃ a b xs ys, x = .ref a ∧ y = .ref b ∧ SqL K H a xs ∧ SqL K H b ys ∧ xs.length + ys.length ≤ sizeLine ∧ ∀ p, H p = none → Q (.ref p) (upd H p (.lst (xs ++ ys)))
theorem op_catL : OpR X (binaryOp .Add) (rCatL X.K) := by
  intro pins s σ H x y v u Q I rx ry h
  obtain ⟨l, r, xs, ys, rfl, rfl, hx, hy, hz, q⟩ := h
  cases rx
  cases ry
  obtain ⟨us, r1, p1, _⟩ := I.list hx
  obtain ⟨ws, r2, p2, _⟩ := I.list hy
  obtain ⟨⟨c1, d1, t1, s1⟩, o1, k1, n1, g1⟩ := p1.isList
  obtain ⟨⟨c2, d2, t2, s2⟩, o2, k2, n2, g2⟩ := p2.isList
  simp only at k1 g1 k2 g2
  subst k1 g1 k2 g2
  have hz' : us.toArray.size + ws.toArray.size ≤ sizeLine := by
    rw [List.size_toArray, List.size_toArray, ← r1.length, ← r2.length]; exact hz
  have new : us.toArray ++ ws.toArray = (us ++ ws).toArray := by simp
  have meet := PyProof.Rows.list_addW l r us.toArray ws.toArray n1 n2 d1 d2 s1 s2 hz'
  rw [new] at meet
  exact concat_meets ⟨_, o1, rfl⟩ ⟨_, o2, rfl⟩ noFill_list_add seq_list_add
    PySem.F.slot_list_add PySem.F.entry_list_add (PySem.F.args_list_add_2 _ _) meet
    ⟨o1, o2, ⟨.ref _, _, I.lnew (t' := s.toks) (r1.append r2) (by rw [List.length_append]; exact hz), rfl, q _ I.fresh⟩⟩
theorem tp_list {K : PySem.W.Frag} {F H : Hp} {x : V} {ds : List D} (h : Tp K F H x (.list ds)) : ∃ a xs, x = .ref a ∧ SqL K H a xs ∧ DpAll K F xs ds := by
  rcases h with ⟨ds', a, xs, e, h1, h2, h3⟩ | ⟨h0, _⟩
  · cases e; exact ⟨a, xs, h1, h2, h3⟩
  · cases h0
theorem tp_tup {K : PySem.W.Frag} {F H : Hp} {x : V} {ds : List D} (h : Tp K F H x (.tuple ds)) : ∃ a xs, x = .ref a ∧ SqT K F a xs ∧ DpAll K F xs ds := by
  rcases h with ⟨ds', a, xs, e, h1, h2, h3⟩ | ⟨_, h⟩
  · cases e
  · cases h with | tup h1 h2 => exact ⟨_, _, rfl, h1, h2⟩
theorem tp_int {K : PySem.W.Frag} {F H : Hp} {x : V} {i : Int} (h : Tp K F H x (.int i)) : x = .int i := by
  rcases h with ⟨ds', a, xs, e, _⟩ | ⟨_, h⟩
  · cases e
  · cases h; rfl
theorem tp_str {K : PySem.W.Frag} {F H : Hp} {x : V} {i : Str} (h : Tp K F H x (.str i)) : x = .str i := by
  rcases h with ⟨ds', a, xs, e, _⟩ | ⟨_, h⟩
  · cases e
  · cases h; rfl
theorem tp_bool {K : PySem.W.Frag} {F H : Hp} {x : V} {i : Bool} (h : Tp K F H x (.bool i)) : x = .bl i := by
  rcases h with ⟨ds', a, xs, e, _⟩ | ⟨_, h⟩
  · cases e
  · cases h; rfl
theorem tp_none {K : PySem.W.Frag} {F H : Hp} {x : V} (h : Tp K F H x .none) : x = .non := by
  rcases h with ⟨ds', a, xs, e, _⟩ | ⟨_, h⟩
  · cases e
  · cases h; rfl
theorem tp_dict {K : PySem.W.Frag} {F H : Hp} {x : V} {kvs} (h : Tp K F H x (.dict kvs)) : False := by
  rcases h with ⟨ds', a, xs, e, _⟩ | ⟨_, h⟩
  · cases e
  · cases h
/-- a new list made is one's own -/
theorem acc_newL {K : PySem.W.Frag} {F H : Hp} {p : Addr} {xs : List V} {ds : List D} (s : Same F H) (h : H p = none) (q : DpAll K F xs ds) : Acc K .O H F (upd H p (.lst xs)) (.list ds) (.ref p) :=
  ⟨[p], .inl ⟨ds, rfl, p, xs, rfl, rfl, upd_same, q⟩, fun a ha => by rw [List.mem_singleton.mp ha]; exact ⟨h, Same.free s h⟩⟩
theorem kn_newL {F H : Hp} {σ : St} {ds : List D} {Q : V → Hp → Prop} {p : Addr} {xs : List V} (k : Kn X W F H σ (.ok (.list ds)) (Acc X.K .O) Q) (s : Same F H) (h : H p = none) (q : DpAll X.K F xs ds) : Q (.ref p) (upd H p (.lst xs)) :=
  k.ret (Ex.newO h) (Same.updO s (Same.free s h)) (acc_newL s h q)
theorem kn_newT [N : m.NP] {F H : Hp} {σ : St} {ds : List D} {Q : V → Hp → Prop} {p : Addr} {xs : List V} (k : Kn X W F H σ (.ok (.tuple ds)) (Acc X.K m) Q) (s : Same F H) (h : H p = none) (q : DpAll X.K F xs ds) : Q (.ref p) (upd H p (.tup xs)) := by
  have d : Dp X.K (upd F p (.tup xs)) (.ref p) (.tuple ds) := .tup (SqT.of upd_same) (DpAll.mono (same_upd (Same.free s h)) _ _ q)
  refine k.ret (Ex.new s h) (same_both s) ?_
  cases m with
  | V => exact d
  | T => exact .inr ⟨rfl, d⟩
  | O => exact ⟨[], .inr ⟨rfl, rfl, d⟩, fun _ z => nomatch z⟩
  | P => exact absurd rfl N.np
/-- a value that is no list -/
theorem acc_flat [N : m.NP] {K : PySem.W.Frag} {H F' H' : Hp} {d : D} {v : V} (h : isListV d = false) (q : Dp K F' v d) : Acc K m H F' H' d v := by
  cases m with
  | V => exact q
  | T => exact .inr ⟨h, q⟩
  | O => exact ⟨[], .inr ⟨h, rfl, q⟩, fun _ z => nomatch z⟩
  | P => exact absurd rfl N.np
theorem acc_flat' {K : PySem.W.Frag} {H F' H' : Hp} {d : D} {v : V} (h : isListV d = false) (hp : isPair d = false) (q : Dp K F' v d) : Acc K m H F' H' d v := by
  cases m with
  | V => exact q
  | T => exact .inr ⟨h, q⟩
  | O => exact ⟨[], .inr ⟨h, rfl, q⟩, fun _ z => nomatch z⟩
  | P => exact ⟨[], .inr ⟨hp, rfl, q⟩, fun _ z => nomatch z⟩
theorem kn_flat [N : m.NP] {F H : Hp} {σ : St} {d : D} {Q : V → Hp → Prop} {v : V} (k : Kn X W F H σ (.ok d) (Acc X.K m) Q) (s : Same F H) (h : isListV d = false) (q : Dp X.K F v d) : Q v H := k.ret (Ex.refl _ _) s (acc_flat h q)
theorem od_add : OpD X W .O (fun x y H Q => rI0 (fun i j => .int (i + j)) x y H Q ∨ (∃ i j, x = .str i ∧ y = .str j ∧ i.length + j.length ≤ sizeLine ∧ Q (.str (i ++ j)) H) ∨ rCatA X.K x y H Q ∨ rCatL X.K x y H Q) addV := by
  intro F H σ x y d1 d2 Q s h1 h2 k
  cases d1 <;> cases d2 <;> first | exact absurd rfl k.ns | skip
  · cases tp_int h1; cases tp_int h2
    exact .inl ⟨_, _, rfl, rfl, kn_flat k s rfl (.int _)⟩
  · cases tp_str h1; cases tp_str h2
    rename_i i j
    cases e : fits (i.length + j.length) with
    | false => exact absurd (by simp [addV, e]) k.ns
    | true => exact .inr (.inl ⟨_, _, rfl, rfl, fits_le e, kn_flat (k.of_eq (r' := .ok (.str (i ++ j))) (by simp [addV, e])) s rfl (.str _)⟩)
  · rename_i ds es
    obtain ⟨a, xs, rfl, q1, q2⟩ := tp_list h1
    obtain ⟨b, ys, rfl, q3, q4⟩ := tp_list h2
    cases e : fits (ds.length + es.length) with
    | false => exact absurd (by simp [addV, e]) k.ns
    | true => exact .inr (.inr (.inr ⟨_, _, _, _, rfl, rfl, q1, q3, by rw [DpAll.length q2, DpAll.length q4]; exact fits_le e, fun p hp => kn_newL (k.of_eq (r' := .ok (.list (ds ++ es))) (by simp [addV, e])) s hp (DpAll.append q2 q4)⟩))
  · rename_i ds es
    obtain ⟨a, xs, rfl, q1, q2⟩ := tp_tup h1
    obtain ⟨b, ys, rfl, q3, q4⟩ := tp_tup h2
    cases e : fits (ds.length + es.length) with
    | false => exact absurd (by simp [addV, e]) k.ns
    | true =>
      have k' := k.of_eq (r' := .ok (.tuple (ds ++ es))) (by simp [addV, e])
      have l1 := DpAll.length q2
      have l2 := DpAll.length q4
      refine .inr (.inr (.inl ⟨_, _, _, _, rfl, rfl, Same.tup s q1, Same.tup s q3, by rw [l1, l2]; exact fits_le e, fun z => ?_, fun _ z => ?_, fun _ _ p hp => kn_newT k' s hp (DpAll.append q2 q4)⟩))
      · subst z
        have : ds = [] := List.eq_nil_of_length_eq_zero l1.symm
        subst this
        exact kn_flat k' s rfl (.tup q3 q4)
      · subst z
        have : es = [] := List.eq_nil_of_length_eq_zero l2.symm
        subst this
        rw [List.append_nil] at k'
        exact kn_flat k' s rfl (.tup q1 q2)
theorem op_addAll : OpR X (binaryOp .Add) (fun x y H Q => rI0 (fun i j => .int (i + j)) x y H Q ∨ (∃ i j, x = .str i ∧ y = .str j ∧ i.length + j.length ≤ sizeLine ∧ Q (.str (i ++ j)) H) ∨ rCatA X.K x y H Q ∨ rCatL X.K x y H Q) := op_add.or (op_add_str.or (op_catA.or op_catL))
theorem eg_add (ha : EG X W ρ .T a ra) (hb : EG X W ρ .T b rb) : EG X W ρ .O (.BinOp a .Add b pos) (bd2 ra rb addV) := eg_op op_addAll od_add ha hb
theorem eg_sub (ha : EG X W ρ .T a ra) (hb : EG X W ρ .T b rb) : EG X W ρ .V (.BinOp a .Sub b pos) (bd2 ra rb subV) := eg_op op_sub od_sub ha hb
def mulI : D → D → Res D
  | .int i, .int j => if small i || small j then .ok (.int (i * j)) else .stuck
  | _, _ => .stuck
theorem od_mulI' : OpD X W .V (rI CMul fun i j => .int (i * j)) mulI := opIC (c := fun i j => small i || small j) (fun i j h => by
    rcases Bool.or_eq_true _ _ ▸ h with h | h
    · exact .inl (of_decide_eq_true h)
    · exact .inr (of_decide_eq_true h)) (fun _ _ => rfl) (fun d e h => by cases d <;> first | rfl | (cases e <;> first | rfl | exact absurd ⟨rfl, rfl⟩ (h _ _))) fun _ _ _ => .int _
theorem eg_mul (ha : EG X W ρ .T a ra) (hb : EG X W ρ .T b rb) : EG X W ρ .V (.BinOp a .Mult b pos) (bd2 ra rb mulI) := eg_op op_mul od_mulI' ha hb
theorem eg_fdiv (ha : EG X W ρ .T a ra) (hb : EG X W ρ .T b rb) : EG X W ρ .V (.BinOp a .FloorDiv b pos) (bd2 ra rb fdivV) := eg_op op_fdiv od_fdiv ha hb
theorem eg_mod (ha : EG X W ρ .T a ra) (hb : EG X W ρ .T b rb) : EG X W ρ .V (.BinOp a .Mod b pos) (bd2 ra rb modV) := eg_op op_mod od_mod ha hb
theorem eg_pow (ha : EG X W ρ .T a ra) (hb : EG X W ρ .T b rb) : EG X W ρ .V (.BinOp a .Pow b pos) (bd2 ra rb powV) := eg_op op_pow od_pow ha hb
theorem eg_neg (ha : EG X W ρ .T a ra) : EG X W ρ .V (.UnaryOp .USub a pos) (ra.bd negV) := by
  obtain ⟨ta, a1, a2⟩ := ha
  refine ⟨_, pe_un un_neg a1, fun B H0 F H σ Q gd k => a2 B H0 F H σ _ gd (Kn.bd k acc_base fun d x F1 H1 _ e1 s1 q1 k1 => ?_)⟩
  cases d <;> first | exact absurd rfl k1.ns | skip
  cases tp_int q1
  exact ⟨_, rfl, kn_flat k1 s1 rfl (.int _)⟩
/-- a list display times a number -/
def repV : D → D → Res D
  | .list xs, .int k => if decide (-(2 ^ 63) ≤ k ∧ k < 2 ^ 63) && fits (xs.length * k.toNat) then .ok (.list (List.replicate k.toNat xs).flatten) else .stuck
  | _, _ => .stuck
theorem eg_rep (ha : EG X W ρ .O a ra) (hb : EG X W ρ .T b rb) : EG X W ρ .O (.BinOp a .Mult b pos) (bd2 ra rb repV) := by
  obtain ⟨ta, a1, a2⟩ := ha
  obtain ⟨tb, b1, b2⟩ := hb
  refine ⟨_, pe_op op_rep a1 b1, fun B H0 F H σ Q gd k => a2 B H0 F H σ _ gd (Kn.bd k acc_base fun d1 x F1 H1 z1 e1 s1 q1 k1 => b2 B H0 F1 H1 σ _ (gd.go e1 s1) (Kn.bd k1 acc_base fun d2 y F2 H2 z2 e2 s2 q2 k2 => ?_))⟩
  clear z1 z2
  cases d1 <;> first | exact absurd rfl k2.ns | skip
  cases d2 <;> first | exact absurd rfl k2.ns | skip
  rename_i ds n
  cases tp_int q2
  obtain ⟨as, h1, h2⟩ := q1
  rcases h1 with ⟨_, z, p, xs, rfl, rfl, h3, h4⟩ | ⟨z, _⟩
  · cases z
    cases c : (decide (-(2 ^ 63) ≤ n ∧ n < 2 ^ 63) && fits (ds.length * n.toNat)) with
    | false => exact absurd (by simp only [repV]; rw [c]; rfl) k2.ns
    | true =>
      have k3 := k2.of_eq (r' := .ok (.list (List.replicate n.toNat ds).flatten)) (by simp only [repV]; rw [c]; rfl)
      simp only [Bool.and_eq_true, decide_eq_true_eq] at c
      refine ⟨p, n, xs, rfl, rfl, e2.hh _ _ h3, c.1.1, c.1.2, by rw [DpAll.length h4]; exact fits_le c.2, fun q hq => kn_newL k3 s2 hq (DpAll.rep (DpAll.mono e2.ff _ _ h4) _)⟩
  · cases z
/-! ### comparisons -/
theorem op_eqT [C : CtxB X W] : OpR X (compareOp .Eq) (rEqD X.K) := op_eqD (by have := C.hu; omega)
theorem od_eq : OpD X W .V (rEqD X.K) eqV := by
  intro F H σ x y d1 d2 Q s h1 h2 k
  cases c : (SeqAt.shaped d1 && SeqAt.shaped d2) with
  | false => exact absurd (by unfold eqV; rw [c]; rfl) k.ns
  | true =>
    have k3 := k.of_eq (r' := .ok (.bool (PyData.eqv d1 d2))) (by unfold eqV; rw [c]; rfl)
    rw [Bool.and_eq_true] at c
    exact ⟨d1, d2, Tp.dp s h1, Tp.dp s h2, c.1, c.2, kn_flat k3 s rfl (.bl _)⟩
theorem od_ne : OpD X W .V (rNeD X.K) neV := by
  intro F H σ x y d1 d2 Q s h1 h2 k
  cases c : (SeqAt.shaped d1 && SeqAt.shaped d2) with
  | false => exact absurd (by unfold neV; rw [c]; rfl) k.ns
  | true =>
    have k3 := k.of_eq (r' := .ok (.bool (!PyData.eqv d1 d2))) (by unfold neV; rw [c]; rfl)
    rw [Bool.and_eq_true] at c
    exact ⟨d1, d2, Tp.dp s h1, Tp.dp s h2, c.1, c.2, kn_flat k3 s rfl (.bl _)⟩
theorem op_neT [C : CtxB X W] : OpR X (compareOp .NotEq) (rNeD X.K) := op_neD (by have := C.hu; omega)
theorem op_inT [C : CtxB X W] : OpR X (compareOp .In) (rInD X.K) := op_inD (by have := C.hu; omega)
theorem op_ninT [C : CtxB X W] : OpR X (compareOp .NotIn) (rNotInD X.K) := op_notInD (by have := C.hu; omega)
theorem od_in : OpD X W .V (rInD X.K) inV := by
  intro F H σ x y d1 d2 Q s h1 h2 k
  have nl : isListV d2 = false → False := fun z => k.ns (by cases d2 <;> first | cases z; done | (cases d1 <;> rfl))
  cases d2 <;> first | exact (nl rfl).elim | skip
  rename_i ds
  cases c : (SeqAt.shaped d1 && SeqAt.shaped (.list ds)) with
  | false => exact absurd (by unfold inV; cases d1 <;> (simp only; rw [c]; rfl)) k.ns
  | true =>
    have k3 := k.of_eq (r' := .ok (.bool (ds.any fun z => PyData.eqv z d1))) (by unfold inV; cases d1 <;> (simp only; rw [c]; rfl))
    rw [Bool.and_eq_true] at c
    exact ⟨d1, ds, Tp.dp s h1, Tp.dp s h2, c.1, c.2, kn_flat k3 s rfl (.bl _)⟩
theorem od_notIn : OpD X W .V (rNotInD X.K) notInV := by
  intro F H σ x y d1 d2 Q s h1 h2 k
  have nl : isListV d2 = false → False := fun z => k.ns (by cases d2 <;> first | cases z; done | (cases d1 <;> rfl))
  cases d2 <;> first | exact (nl rfl).elim | skip
  rename_i ds
  cases c : (SeqAt.shaped d1 && SeqAt.shaped (.list ds)) with
  | false => exact absurd (by unfold notInV; cases d1 <;> (simp only; rw [c]; rfl)) k.ns
  | true =>
    have k3 := k.of_eq (r' := .ok (.bool (!ds.any fun z => PyData.eqv z d1))) (by unfold notInV; cases d1 <;> (simp only; rw [c]; rfl))
    rw [Bool.and_eq_true] at c
    exact ⟨d1, ds, Tp.dp s h1, Tp.dp s h2, c.1, c.2, kn_flat k3 s rfl (.bl _)⟩
/-- x is None -/
theorem od_isN {y0 : D} (hy : y0 = .none) : OpD X W .V (fun x y H Q => y = .non ∧ Q (.bl (decide (x = .non))) H) (fun d e => if isN e then isNoneV d else .stuck) := by
  intro F H σ x y d1 d2 Q s h1 h2 k
  cases d2 <;> first | exact absurd rfl k.ns | skip
  refine ⟨tp_none h2, kn_flat k s rfl ?_⟩
  have : decide (x = .non) = isN d1 := by
    cases d1 <;> first
      | (cases tp_none h1; rfl) | (cases tp_bool h1; rfl) | (cases tp_int h1; rfl) | (cases tp_str h1; rfl)
      | (obtain ⟨_, _, rfl, _⟩ := tp_list h1; rfl) | (obtain ⟨_, _, rfl, _⟩ := tp_tup h1; rfl) | exact (tp_dict h1).elim
  rw [this]; exact .bl _
theorem od_notN {y0 : D} (hy : y0 = .none) : OpD X W .V (fun x y H Q => y = .non ∧ Q (.bl (!decide (x = .non))) H) (fun d e => if isN e then notNoneV d else .stuck) := by
  intro F H σ x y d1 d2 Q s h1 h2 k
  cases d2 <;> first | exact absurd rfl k.ns | skip
  refine ⟨tp_none h2, kn_flat k s rfl ?_⟩
  have : decide (x = .non) = isN d1 := by
    cases d1 <;> first
      | (cases tp_none h1; rfl) | (cases tp_bool h1; rfl) | (cases tp_int h1; rfl) | (cases tp_str h1; rfl)
      | (obtain ⟨_, _, rfl, _⟩ := tp_list h1; rfl) | (obtain ⟨_, _, rfl, _⟩ := tp_tup h1; rfl) | exact (tp_dict h1).elim
  rw [this]; exact .bl _
/-- which comparison, by its sign: all in one -/
structure CmpD (X : Cx) (W : WX) (op : CmpOp) (g : D → D → Res D) : Prop where
  ex : ∃ rr, OpR X (compareOp op) rr ∧ OpD X W .V rr g
theorem c_lt : CmpD X W .Lt ltV := ⟨_, op_lt, od_lt⟩
theorem c_le : CmpD X W .LtE leV := ⟨_, op_le, od_le⟩
theorem c_gt : CmpD X W .Gt gtV := ⟨_, op_gt, od_gt⟩
theorem c_ge : CmpD X W .GtE geV := ⟨_, op_ge, od_ge⟩
theorem c_eq [CtxB X W] : CmpD X W .Eq eqV := ⟨_, op_eqT, od_eq⟩
theorem c_ne [CtxB X W] : CmpD X W .NotEq neV := ⟨_, op_neT, od_ne⟩
theorem c_in [CtxB X W] : CmpD X W .In inV := ⟨_, op_inT, od_in⟩
theorem c_nin [CtxB X W] : CmpD X W .NotIn notInV := ⟨_, op_ninT, od_notIn⟩
theorem c_isN : CmpD X W .Is (fun d e => if isN e then isNoneV d else .stuck) := ⟨_, op_isN, od_isN rfl⟩
theorem c_notN : CmpD X W .IsNot (fun d e => if isN e then notNoneV d else .stuck) := ⟨_, op_notN, od_notN rfl⟩
theorem eg_cp {op : CmpOp} {g : D → D → Res D} (h : CmpD X W op g) (ha : EG X W ρ .T a ra) (hb : EG X W ρ .T b rb) (hm : behindInMarks op b = false := by rfl) : EG X W ρ .V (.Compare a [op] [b] pos) (bd2 ra rb g) := by
  obtain ⟨rr, h1, h2⟩ := h
  exact eg_cmp h1 h2 ha hb hm
theorem tg_cp {op : CmpOp} {g : D → D → Res D} (h : CmpD X W op g) (ha : EG X W ρ .T a ra) (hb : EG X W ρ .T b rb) (hm : behindInMarks op b = false := by rfl) : TG' X W ρ (.Compare a [op] [b] pos) ((bd2 ra rb g).bd bl) := by
  obtain ⟨rr, h1, h2⟩ := h
  exact tg_cmp h1 h2 ha hb hm
/-- a op b op' c -/
def chV (g g' : D → D → Res D) (ra rb rc : Res D) : Res D := ra.bd fun x => rb.bd fun y => (g x y).bd fun z => (bl z).bd fun k => if k then rc.bd fun w => g' y w else .ok (.bool false)
theorem chain_eval {op op' : CmpOp} {rr rr' : R2} {g g' : D → D → Res D} {ta tb tc : TE} (h2 : OpD X W .V rr g) (h2' : OpD X W .V rr' g')
    (ha : ∀ B H0 F H σ Q, Good B H0 F H ρ σ → Kn X W F H σ ra (Acc X.K .T) Q → ta σ H Q) (hb : ∀ B H0 F H σ Q, Good B H0 F H ρ σ → Kn X W F H σ rb (Acc X.K .T) Q → tb σ H Q)
    (hc : ∀ B H0 F H σ Q, Good B H0 F H ρ σ → Kn X W F H σ rc (Acc X.K .T) Q → tc σ H Q) : ∀ B H0 F H σ Q, Good B H0 F H ρ σ → Kn X W F H σ (chV g g' ra rb rc) (Acc X.K .V) Q → tChain rr rr' ta tb tc σ H Q := fun B H0 F H σ Q gd k => by
  refine ha B H0 F H σ _ gd (Kn.bd k acc_base fun d1 x F1 H1 _ e1 s1 q1 k1 => hb B H0 F1 H1 σ _ (gd.go e1 s1) (Kn.bd k1 acc_base fun d2 y F2 H2 _ e2 s2 q2 k2 => ?_))
  refine h2 F2 H2 σ x y d1 d2 _ s2 (Tp.go e2 q1) q2 (Kn.bd k2 acc_base fun z v F3 H3 _ e3 s3 q3 k3 => ?_)
  cases z with
  | bool c =>
    cases q3
    refine ⟨c, rfl, ?_⟩
    have k4 := k3.of_eq (r' := if c then rc.bd fun w => g' d2 w else .ok (.bool false)) rfl
    cases c with
    | true =>
      rw [if_pos rfl] at k4 ⊢
      refine hc B H0 F3 H3 σ _ ((gd.go e1 s1).go (e2.trans e3) s3) (Kn.bd k4 acc_base fun d3 w F4 H4 _ e4 s4 q4 k5 => h2' F4 H4 σ y w d2 d3 _ s4 (Tp.go (e3.trans e4) q2) q4 k5)
    | false =>
      rw [if_neg Bool.false_ne_true] at k4 ⊢
      exact kn_flat k4 s3 rfl (.bl _)
  | _ => exact absurd rfl k3.ns
theorem eg_chain {op op' : CmpOp} {g g' : D → D → Res D} (h : CmpD X W op g) (h' : CmpD X W op' g') (ha : EG X W ρ .T a ra) (hb : EG X W ρ .T b rb) (hc : EG X W ρ .T c rc) (hm : lastMarks [op, op'] [b, c] = false := by with_unfolding_all rfl) :
    EG X W ρ .V (.Compare a [op, op'] [b, c] pos) (chV g g' ra rb rc) := by
  obtain ⟨rr, h1, h2⟩ := h
  obtain ⟨rr', h1', h2'⟩ := h'
  obtain ⟨ta, a1, a2⟩ := ha
  obtain ⟨tb, b1, b2⟩ := hb
  obtain ⟨tc, c1, c2⟩ := hc
  exact ⟨_, pe_chain h1 h1' a1 b1 c1 hm, chain_eval (op := op) (op' := op') h2 h2' a2 b2 c2⟩
theorem tg_chain {op op' : CmpOp} {g g' : D → D → Res D} (h : CmpD X W op g) (h' : CmpD X W op' g') (ha : EG X W ρ .T a ra) (hb : EG X W ρ .T b rb) (hc : EG X W ρ .T c rc) (hm : lastMarks [op, op'] [b, c] = false := by with_unfolding_all rfl) :
    TG' X W ρ (.Compare a [op, op'] [b, c] pos) ((chV g g' ra rb rc).bd bl) := by
  obtain ⟨rr, h1, h2⟩ := h
  obtain ⟨rr', h1', h2'⟩ := h'
  obtain ⟨ta, a1, a2⟩ := ha
  obtain ⟨tb, b1, b2⟩ := hb
  obtain ⟨tc, c1, c2⟩ := hc
  refine ⟨_, pt_chain h1 h1' a1 b1 c1 hm, fun B H0 F H σ Q gd k => ?_⟩
  refine chain_eval (op := op) (op' := op') h2 h2' a2 b2 c2 B H0 F H σ _ gd (Kn.bd k aB_base fun d x F1 H1 _ e1 s1 q1 k1 => ?_)
  cases d with
  | bool c => cases q1; exact ⟨c, rfl, k1.ret (Ex.refl _ _) s1 rfl⟩
  | _ => exact absurd rfl k1.ns
end
end DL
/-! Rules: arguments, displays, items, calls, truth, what is walked, comprehensions. -/
namespace DL
open PySem L2
section
variable {X : Cx} {W : WX} {ρ : Env X.K} {m : Md} {e a b c : Expr} {es : List Expr} {r ra rb rc : Res D} {rs : Res (List D)} {pos p : Pos}
/-! ### arguments, displays -/
theorem ag_nil : AG X W ρ [] (.ok []) := ⟨(fun ds e => by cases e; rfl), _, pa_nil, fun B H0 F H σ Q g k => k.ret (Ex.refl _ _) g.fh .nil⟩
theorem ag_cons (ha : EG X W ρ .V e r) (hr : AG X W ρ es rs) (hs : starEach (e :: es) X.env = (false, eval e X.env) :: starEach es X.env := by rfl) : AG X W ρ (e :: es) (consR r rs) := by
  obtain ⟨ta, a1, a2⟩ := ha
  obtain ⟨bl, tb, b1, b2⟩ := hr
  refine ⟨(fun ds e => by
    cases r with
    | ok x =>
      cases rs with
      | ok xs => cases e; simp [bl xs rfl]
      | exc n => cases e
      | stuck => cases e
    | exc n => cases e
    | stuck => cases e), _, pa_cons a1 b1 hs, fun B H0 F H σ Q gd k => a2 B H0 F H σ _ gd (Kn.bd k aL_base fun d1 x F1 H1 _ e1 s1 q1 k1 => b2 B H0 F1 H1 σ _ (gd.go e1 s1) (Kn.bd k1 aL_base fun d2 y F2 H2 _ e2 s2 q2 k2 => ?_))⟩
  exact k2.ret (Ex.refl _ _) s2 (.cons (Dp.mono e2.ff _ _ q1) q2)
theorem eg_tup [N : m.NP] {x1} (h : AG X W ρ es rs) : EG X W ρ m (.Tuple es x1 pos) (rs.bd tupR) := by
  obtain ⟨_, ta, a1, a2⟩ := h
  refine ⟨_, pe_tup a1, fun B H0 F H σ Q gd k => a2 B H0 F H σ _ gd (Kn.bd k acc_base fun ds vs F1 H1 _ e1 s1 q1 k1 => ?_)⟩
  cases c : fits ds.length with
  | false => exact absurd (by simp [tupR, c]) k1.ns
  | true =>
    have k2 := k1.of_eq (r' := .ok (.tuple ds)) (by simp [tupR, c])
    exact ⟨by rw [DpAll.length q1]; exact fits_le c, fun q hq => kn_newT k2 s1 hq q1⟩
theorem eg_lst (h : AG X W ρ es rs) : EG X W ρ .O (.List es pos) (rs.bd lstR) := by
  obtain ⟨_, ta, a1, a2⟩ := h
  refine ⟨_, pe_lst a1, fun B H0 F H σ Q gd k => a2 B H0 F H σ _ gd (Kn.bd k acc_base fun ds vs F1 H1 _ e1 s1 q1 k1 => ?_)⟩
  cases c : fits ds.length with
  | false => exact absurd (by simp [lstR, c]) k1.ns
  | true =>
    have k2 := k1.of_eq (r' := .ok (.list ds)) (by simp [lstR, c])
    exact ⟨by rw [DpAll.length q1]; exact fits_le c, fun q hq => kn_newL k2 s1 hq q1⟩
/-! ### items -/
theorem eg_ix (ha : EG X W ρ .T a ra) (hb : EG X W ρ .T b rb) (hs : PlainIx b := by exact fun _ _ => rfl) : EG X W ρ .V (.Subscript a b pos) (bd2 ra rb ixV) := by
  obtain ⟨ta, a1, a2⟩ := ha
  obtain ⟨tb, b1, b2⟩ := hb
  refine ⟨_, pe_ix ix_seq a1 b1 hs, two_eval (m := .V) ?_ a2 b2⟩
  intro F H σ x y d1 d2 Q s h1 h2 k
  cases d1 <;> cases d2 <;> first | exact absurd rfl k.ns | skip
  · cases tp_str h1; cases tp_int h2
    rename_i z i
    cases c : fits z.length with
    | false => exact absurd (by simp [ixV, c]) k.ns
    | true =>
      cases c2 : L2.atI z.cps.toList i with
      | none => exact absurd (by simp [ixV, c, c2]) k.ns
      | some ch => exact .inr (.inr ⟨_, _, ch, rfl, rfl, fits_le c, c2, kn_flat (k.of_eq (r' := .ok (.str ⟨#[ch]⟩)) (by simp [ixV, c, c2])) s rfl (.str _)⟩)
  · rename_i ds i
    obtain ⟨a, xs, rfl, q1, q2⟩ := tp_list h1
    cases tp_int h2
    cases c2 : L2.atI ds i with
    | none => exact absurd (by simp [ixV, c2]) k.ns
    | some d =>
      obtain ⟨v, h3, h4⟩ := DpAll.atI q2 c2
      exact .inl ⟨_, _, _, v, rfl, rfl, q1, h3, (k.of_eq (r' := .ok d) (by simp [ixV, c2])).ret (Ex.refl _ _) s h4⟩
  · rename_i ds i
    obtain ⟨a, xs, rfl, q1, q2⟩ := tp_tup h1
    cases tp_int h2
    cases c2 : L2.atI ds i with
    | none => exact absurd (by simp [ixV, c2]) k.ns
    | some d =>
      obtain ⟨v, h3, h4⟩ := DpAll.atI q2 c2
      exact .inr (.inl ⟨_, _, _, v, rfl, rfl, Same.tup s q1, h3, (k.of_eq (r' := .ok d) (by simp [ixV, c2])).ret (Ex.refl _ _) s h4⟩)
/-! ### calls of built-ins -/
/-- one argument, by values against data -/
structure C1D (X : Cx) (W : WX) (f : Value) (m : Md) (g : D → Res D) : Prop where
  ex : ∃ r, CallR X f r ∧ ∀ F H σ x d Q, Same F H → Tp X.K F H x d → Kn X W F H σ (g d) (Acc X.K m) Q → r [x] H Q
theorem eg_cB1 {x : Str} {id : String} {g : D → Res D} (h : C1D X W (.builtin id) m g) (ha : EG X W ρ .T a ra) (hm : X.mg x = none) (hv : bootBuiltins x = some (.builtin id)) (hg : Gl X x := by rfl) (hn : x ≠ "__name__" := by decide) (hdb : (x == ("__debug__" : Str)) = false := by decide)
    (he : starEach [a] X.env = (false, eval a X.env) :: starEach [] X.env := by rfl) (hpl : (backTo pos (starEach [] X.env)).any (·.1) = false := by rfl) : EG X W ρ m (.Call (.Name x p) [a] [] pos) (ra.bd g) := by
  obtain ⟨rr, h1, h2⟩ := h
  obtain ⟨ta, a1, a2⟩ := ha
  exact ⟨_, pe_callB h1 hg hm hv (pa_cons a1 pa_nil he) hn hdb he hpl, fun B H0 F H σ Q gd k => a2 B H0 F H σ _ gd (Kn.bd k acc_base fun d v F1 H1 _ e1 s1 q1 k1 => h2 F1 H1 σ v d Q s1 q1 k1)⟩
theorem eg_cT1 {x : Str} {id : String} {g : D → Res D} (h : C1D X W (.type id) m g) (ha : EG X W ρ .T a ra) (hm : X.mg x = none) (hv : bootBuiltins x = some (.type id)) (hg : Gl X x := by rfl) (hn : x ≠ "__name__" := by decide) (hdb : (x == ("__debug__" : Str)) = false := by decide)
    (he : starEach [a] X.env = (false, eval a X.env) :: starEach [] X.env := by rfl) (hpl : (backTo pos (starEach [] X.env)).any (·.1) = false := by rfl) : EG X W ρ m (.Call (.Name x p) [a] [] pos) (ra.bd g) := by
  obtain ⟨rr, h1, h2⟩ := h
  obtain ⟨ta, a1, a2⟩ := ha
  exact ⟨_, pe_callTy h1 hg hm hv (pa_cons a1 pa_nil he) hn hdb he hpl, fun B H0 F H σ Q gd k => a2 B H0 F H σ _ gd (Kn.bd k acc_base fun d v F1 H1 _ e1 s1 q1 k1 => h2 F1 H1 σ v d Q s1 q1 k1)⟩
/-- two arguments -/
structure C2D (X : Cx) (W : WX) (f : Value) (m : Md) (g : D → D → Res D) : Prop where
  ex : ∃ r, CallR X f r ∧ ∀ F H σ x y d e Q, Same F H → Tp X.K F H x d → Tp X.K F H y e → Kn X W F H σ (g d e) (Acc X.K m) Q → r [x, y] H Q
theorem eg_cB2 {x : Str} {id : String} {g : D → D → Res D} (h : C2D X W (.builtin id) m g) (ha : EG X W ρ .T a ra) (hb : EG X W ρ .T b rb) (hm : X.mg x = none) (hv : bootBuiltins x = some (.builtin id)) (hg : Gl X x := by rfl) (hn : x ≠ "__name__" := by decide) (hdb : (x == ("__debug__" : Str)) = false := by decide)
    (he : starEach [a, b] X.env = (false, eval a X.env) :: starEach [b] X.env := by rfl) (he2 : starEach [b] X.env = (false, eval b X.env) :: starEach [] X.env := by rfl) (hpl : (backTo pos (starEach [b] X.env)).any (·.1) = false := by rfl) : EG X W ρ m (.Call (.Name x p) [a, b] [] pos) (bd2 ra rb g) := by
  obtain ⟨rr, h1, h2⟩ := h
  obtain ⟨ta, a1, a2⟩ := ha
  obtain ⟨tb, b1, b2⟩ := hb
  exact ⟨_, pe_callB h1 hg hm hv (pa_cons a1 (pa_cons b1 pa_nil he2) he) hn hdb he hpl, fun B H0 F H σ Q gd k => a2 B H0 F H σ _ gd (Kn.bd k acc_base fun d v F1 H1 _ e1 s1 q1 k1 => b2 B H0 F1 H1 σ _ (gd.go e1 s1) (Kn.bd k1 acc_base fun d2 y F2 H2 _ e2 s2 q2 k2 => h2 F2 H2 σ v y d d2 Q s2 (Tp.go e2 q1) q2 k2))⟩
theorem b_len : C1D X W (.builtin "len") .V lenV := by
  refine ⟨_, call_len_seq.or call_len_str, fun F H σ x d Q s h k => ?_⟩
  cases d <;> first | exact absurd rfl k.ns | skip
  · cases tp_str h
    rename_i z
    cases c : fits z.length with
    | false => exact absurd (by simp [lenV, c]) k.ns
    | true => exact .inr ⟨z, rfl, fits_le c, kn_flat (k.of_eq (r' := .ok (.int z.length)) (by simp [lenV, c])) s rfl (.int _)⟩
  · obtain ⟨a, xs, rfl, q1, q2⟩ := tp_list h
    exact .inl ⟨a, xs, rfl, .inl q1, kn_flat k s rfl (by rw [DpAll.length q2]; exact .int _)⟩
  · obtain ⟨a, xs, rfl, q1, q2⟩ := tp_tup h
    exact .inl ⟨a, xs, rfl, .inr (Same.tup s q1), kn_flat k s rfl (by rw [DpAll.length q2]; exact .int _)⟩
def listV : D → Res D
  | .list xs => .ok (.list xs)
  | .tuple xs => .ok (.list xs)
  | _ => .stuck
theorem b_list : C1D X W (.type "list") .O listV := by
  refine ⟨_, call_list_of, fun F H σ x d Q s h k => ?_⟩
  cases d <;> first | exact absurd rfl k.ns | skip
  · obtain ⟨a, xs, rfl, q1, q2⟩ := tp_list h
    exact ⟨a, xs, rfl, .inl q1, fun l hl => kn_newL k s hl q2⟩
  · obtain ⟨a, xs, rfl, q1, q2⟩ := tp_tup h
    exact ⟨a, xs, rfl, .inr (Same.tup s q1), fun l hl => kn_newL k s hl q2⟩
def tupleV : D → Res D
  | .list xs => .ok (.tuple xs)
  | .tuple xs => .ok (.tuple xs)
  | _ => .stuck
theorem b_tuple : C1D X W (.type "tuple") .V tupleV := by
  refine ⟨_, call_tuple_of, fun F H σ x d Q s h k => ?_⟩
  cases d <;> first | exact absurd rfl k.ns | skip
  · obtain ⟨a, xs, rfl, q1, q2⟩ := tp_list h
    exact ⟨a, xs, rfl, .inl ⟨q1, fun l hl => kn_newT k s hl q2⟩⟩
  · obtain ⟨a, xs, rfl, q1, q2⟩ := tp_tup h
    exact ⟨a, xs, rfl, .inr ⟨Same.tup s q1, kn_flat k s rfl (.tup q1 q2)⟩⟩
def intV : D → Res D
  | .int i => .ok (.int i)
  | .bool b => .ok (.int (if b then 1 else 0))
  | _ => .stuck
theorem b_int : C1D X W (.type "int") .V intV := by
  refine ⟨_, call_int1, fun F H σ x d Q s h k => ?_⟩
  cases d <;> first | exact absurd rfl k.ns | skip
  · cases tp_bool h; exact .inr ⟨_, rfl, kn_flat k s rfl (.int _)⟩
  · cases tp_int h; exact .inl ⟨_, rfl, kn_flat k s rfl (.int _)⟩
def max2V : D → D → Res D
  | .int i, .int j => .ok (.int (if j > i then j else i))
  | _, _ => .stuck
def min2V : D → D → Res D
  | .int i, .int j => .ok (.int (if j < i then j else i))
  | _, _ => .stuck
theorem b_max2 [C : Ctx X W] : C2D X W (.builtin "max") .V max2V := by
  refine ⟨_, call_max2 C.calm, fun F H σ x y d e Q s h1 h2 k => ?_⟩
  cases d <;> cases e <;> first | exact absurd rfl k.ns | skip
  cases tp_int h1; cases tp_int h2
  exact ⟨_, _, rfl, kn_flat k s rfl (.int _)⟩
theorem b_min2 [C : Ctx X W] : C2D X W (.builtin "min") .V min2V := by
  refine ⟨_, call_min2 C.calm, fun F H σ x y d e Q s h1 h2 k => ?_⟩
  cases d <;> cases e <;> first | exact absurd rfl k.ns | skip
  cases tp_int h1; cases tp_int h2
  exact ⟨_, _, rfl, kn_flat k s rfl (.int _)⟩
/-- the ints of a list -/
def intsOf : List D → Option (List Int)
  | [] => some []
  | .int i :: ds => (intsOf ds).map (i :: ·)
  | _ => none
theorem intsOf_dp {K : PySem.W.Frag} {F : Hp} : ∀ {ds : List D} {ns : List Int} {vs : List V}, intsOf ds = some ns → DpAll K F vs ds → vs = ns.map V.int ∧ ds = ns.map .int
  | [], _, _, e, .nil => by cases e; exact ⟨rfl, rfl⟩
  | .int i :: ds, ns, _, e, .cons h t => by
    unfold intsOf at e
    cases q : intsOf ds with
    | none => rw [q] at e; cases e
    | some ms =>
      rw [q] at e
      cases e
      cases h
      obtain ⟨h1, h2⟩ := intsOf_dp q t
      exact ⟨by rw [h1]; rfl, by rw [h2]; rfl⟩
  | .none :: _, _, _, e, _ => by simp [intsOf] at e
  | .bool _ :: _, _, _, e, _ => by simp [intsOf] at e
  | .str _ :: _, _, _, e, _ => by simp [intsOf] at e
  | .list _ :: _, _, _, e, _ => by simp [intsOf] at e
  | .tuple _ :: _, _, _, e, _ => by simp [intsOf] at e
  | .dict _ :: _, _, _, e, _ => by simp [intsOf] at e
theorem intsOf_map : ∀ ns : List Int, intsOf (ns.map .int) = some ns
  | [] => rfl
  | n :: ns => by simp [intsOf, intsOf_map ns]
def greatest : List Int → Option Int
  | [] => none
  | x :: xs => some (xs.foldl max x)
def least : List Int → Option Int
  | [] => none
  | x :: xs => some (xs.foldl min x)
theorem foldl_max_mem : ∀ (xs : List Int) (x : Int), xs.foldl max x ∈ x :: xs ∧ ∀ y ∈ x :: xs, y ≤ xs.foldl max x
  | [], x => by simp
  | z :: xs, x => by
    obtain ⟨h1, h2⟩ := foldl_max_mem xs (max x z)
    rw [List.foldl_cons]
    refine ⟨?_, fun y hy => ?_⟩
    · rcases List.mem_cons.mp h1 with h | h
      · rw [h]
        rcases Int.le_total x z with l | l
        · rw [Int.max_eq_right l]; simp
        · rw [Int.max_eq_left l]; simp
      · simp [h]
    · have h3 := h2 (max x z) (by simp)
      rcases List.mem_cons.mp hy with rfl | hy
      · omega
      · rcases List.mem_cons.mp hy with rfl | hy
        · omega
        · exact h2 y (by simp [hy])
theorem foldl_min_mem : ∀ (xs : List Int) (x : Int), xs.foldl min x ∈ x :: xs ∧ ∀ y ∈ x :: xs, xs.foldl min x ≤ y
  | [], x => by simp
  | z :: xs, x => by
    obtain ⟨h1, h2⟩ := foldl_min_mem xs (min x z)
    rw [List.foldl_cons]
    refine ⟨?_, fun y hy => ?_⟩
    · rcases List.mem_cons.mp h1 with h | h
      · rw [h]
        rcases Int.le_total x z with l | l
        · rw [Int.min_eq_left l]; simp
        · rw [Int.min_eq_right l]; simp
      · simp [h]
    · have h3 := h2 (min x z) (by simp)
      rcases List.mem_cons.mp hy with rfl | hy
      · omega
      · rcases List.mem_cons.mp hy with rfl | hy
        · omega
        · exact h2 y (by simp [hy])
def optI : Option Int → Res D
  | some i => .ok (.int i)
  | none => .stuck
def maxV : D → Res D
  | .list xs => optI ((intsOf xs).bind greatest)
  | _ => .stuck
def minV : D → Res D
  | .list xs => optI ((intsOf xs).bind least)
  | _ => .stuck
def sumV : D → Res D
  | .list xs => optI ((intsOf xs).map List.sum)
  | _ => .stuck
theorem b_sum [C : Ctx X W] : C1D X W (.builtin "sum") .V sumV := by
  refine ⟨_, cr_sum C.calm, fun F H σ x d Q s h k => ?_⟩
  cases d <;> first | exact absurd rfl k.ns | skip
  obtain ⟨a, xs, rfl, q1, q2⟩ := tp_list h
  rename_i ds
  cases c : intsOf ds with
  | none => exact absurd (by simp [sumV, c, optI]) k.ns
  | some ns =>
    obtain ⟨h1, h2⟩ := intsOf_dp c q2
    subst h1
    exact ⟨a, ns, rfl, q1, kn_flat (k.of_eq (r' := .ok (.int ns.sum)) (by simp [sumV, c, optI])) s rfl (.int _)⟩
theorem b_max [C : Ctx X W] : C1D X W (.builtin "max") .V maxV := by
  refine ⟨_, cr_max C.calm, fun F H σ x d Q s h k => ?_⟩
  cases d <;> first | exact absurd rfl k.ns | skip
  obtain ⟨a, xs, rfl, q1, q2⟩ := tp_list h
  rename_i ds
  cases c : intsOf ds with
  | none => exact absurd (by simp [maxV, c, optI, greatest]) k.ns
  | some ns =>
    cases ns with
    | nil => exact absurd (by simp [maxV, c, optI, greatest]) k.ns
    | cons n ns =>
      obtain ⟨h1, h2⟩ := intsOf_dp c q2
      subst h1
      refine ⟨a, n :: ns, rfl, q1, by simp, fun w hw1 hw2 => ?_⟩
      obtain ⟨g1, g2⟩ := foldl_max_mem ns n
      have e : w = ns.foldl max n := Int.le_antisymm (g2 w hw1) (hw2 _ g1)
      exact kn_flat (k.of_eq (r' := .ok (.int w)) (by simp [maxV, c, e, optI, greatest])) s rfl (.int _)
theorem b_min [C : Ctx X W] : C1D X W (.builtin "min") .V minV := by
  refine ⟨_, cr_min C.calm, fun F H σ x d Q s h k => ?_⟩
  cases d <;> first | exact absurd rfl k.ns | skip
  obtain ⟨a, xs, rfl, q1, q2⟩ := tp_list h
  rename_i ds
  cases c : intsOf ds with
  | none => exact absurd (by simp [minV, c, optI, least]) k.ns
  | some ns =>
    cases ns with
    | nil => exact absurd (by simp [minV, c, optI, least]) k.ns
    | cons n ns =>
      obtain ⟨h1, h2⟩ := intsOf_dp c q2
      subst h1
      refine ⟨a, n :: ns, rfl, q1, by simp, fun w hw1 hw2 => ?_⟩
      obtain ⟨g1, g2⟩ := foldl_min_mem ns n
      have e : w = ns.foldl min n := Int.le_antisymm (hw2 _ g1) (g2 w hw1)
      exact kn_flat (k.of_eq (r' := .ok (.int w)) (by simp [minV, c, e, optI, least])) s rfl (.int _)
/-- the truths of a list -/
def blsOf : List D → Option (List Bool)
  | [] => some []
  | .bool i :: ds => (blsOf ds).map (i :: ·)
  | _ => none
theorem blsOf_dp {K : PySem.W.Frag} {F : Hp} : ∀ {ds : List D} {ns : List Bool} {vs : List V}, blsOf ds = some ns → DpAll K F vs ds → vs = ns.map V.bl ∧ ds = ns.map .bool
  | [], _, _, e, .nil => by cases e; exact ⟨rfl, rfl⟩
  | .bool i :: ds, ns, _, e, .cons h t => by
    unfold blsOf at e
    cases q : blsOf ds with
    | none => rw [q] at e; cases e
    | some ms =>
      rw [q] at e
      cases e
      cases h
      obtain ⟨h1, h2⟩ := blsOf_dp q t
      exact ⟨by rw [h1]; rfl, by rw [h2]; rfl⟩
  | .none :: _, _, _, e, _ => by simp [blsOf] at e
  | .int _ :: _, _, _, e, _ => by simp [blsOf] at e
  | .str _ :: _, _, _, e, _ => by simp [blsOf] at e
  | .list _ :: _, _, _, e, _ => by simp [blsOf] at e
  | .tuple _ :: _, _, _, e, _ => by simp [blsOf] at e
  | .dict _ :: _, _, _, e, _ => by simp [blsOf] at e
theorem blsOf_map : ∀ ns : List Bool, blsOf (ns.map .bool) = some ns
  | [] => rfl
  | n :: ns => by simp [blsOf, blsOf_map ns]
def optB : Option Bool → Res D
  | some i => .ok (.bool i)
  | none => .stuck
def allV : D → Res D
  | .list xs => optB ((blsOf xs).map (·.all id))
  | _ => .stuck
def anyV : D → Res D
  | .list xs => optB ((blsOf xs).map (·.any id))
  | _ => .stuck
theorem b_all [C : Ctx X W] : C1D X W (.builtin "all") .V allV := by
  refine ⟨_, cr_all C.calm, fun F H σ x d Q s h k => ?_⟩
  cases d <;> first | exact absurd rfl k.ns | skip
  obtain ⟨a, xs, rfl, q1, q2⟩ := tp_list h
  rename_i ds
  cases c : blsOf ds with
  | none => exact absurd (by simp [allV, c, optB]) k.ns
  | some ns =>
    obtain ⟨h1, h2⟩ := blsOf_dp c q2
    subst h1
    exact ⟨a, ns, rfl, q1, kn_flat (k.of_eq (r' := .ok (.bool (ns.all id))) (by simp [allV, c, optB])) s rfl (.bl _)⟩
theorem b_any [C : Ctx X W] : C1D X W (.builtin "any") .V anyV := by
  refine ⟨_, cr_any C.calm, fun F H σ x d Q s h k => ?_⟩
  cases d <;> first | exact absurd rfl k.ns | skip
  obtain ⟨a, xs, rfl, q1, q2⟩ := tp_list h
  rename_i ds
  cases c : blsOf ds with
  | none => exact absurd (by simp [anyV, c, optB]) k.ns
  | some ns =>
    obtain ⟨h1, h2⟩ := blsOf_dp c q2
    subst h1
    exact ⟨a, ns, rfl, q1, kn_flat (k.of_eq (r' := .ok (.bool (ns.any id))) (by simp [anyV, c, optB])) s rfl (.bl _)⟩
/-! ### isinstance(x, T) for a built-in class -/
def tyName : D → String
  | .none => "NoneType"
  | .bool _ => "bool"
  | .int _ => "int"
  | .str _ => "str"
  | .list _ => "list"
  | .tuple _ => "tuple"
  | .dict _ => "dict"
def isiN (T n : String) : Bool := T == n || (n == "bool" && T == "int")
def isiB (T : String) (d : D) : Bool := isiN T (tyName d)
theorem kitN : ∀ T ∈ ["int", "bool", "str", "list", "tuple"], ∀ n ∈ ["NoneType", "bool", "int", "str", "list", "tuple"], kitB n T = some (isiN T n) := by decide +kernel
def isiV (T : String) : D → Res D
  | .dict _ => .stuck
  | d => .ok (.bool (isiB T d))
theorem eg_isi {T : Str} {Tn : String} {p2 : Pos} (ha : EG X W ρ .T a ra) (hv : bootBuiltins T = some (.type Tn)) (hm : X.mg "isinstance" = none) (hm2 : X.mg T = none)
    (hk : Tn ∈ ["int", "bool", "str", "list", "tuple"]) (hg : Gl X "isinstance" := by rfl) (hg2 : Gl X T := by rfl) (hn2 : T ≠ "__name__" := by decide) (hd2 : (T == ("__debug__" : Str)) = false := by decide)
    (he : starEach [a, .Name T p2] X.env = (false, eval a X.env) :: starEach [.Name T p2] X.env := by rfl) (he2 : starEach [.Name T p2] X.env = (false, eval (.Name T p2) X.env) :: starEach [] X.env := by rfl) (hpl : (backTo pos (starEach [.Name T p2] X.env)).any (·.1) = false := by rfl) :
    EG X W ρ .V (.Call (.Name "isinstance" p) [a, .Name T p2] [] pos) (ra.bd (isiV Tn)) := by
  obtain ⟨ta, a1, a2⟩ := ha
  refine ⟨_, pe_callB call_isi hg hm (by decide +kernel) (pa_cons a1 (pa_cons (pe_bltn (v := .ty Tn) hg2 hm2 hv rfl hn2 hd2) pa_nil he2) he) (by decide) (by decide) he hpl, fun B H0 F H σ Q gd k => a2 B H0 F H σ _ gd (Kn.bd k acc_base fun d v F1 H1 _ e1 s1 q1 k1 => ?_)⟩
  have fin : ∀ (t : String) (y : V), d ≠ .dict [] → TyX X.K H1 v (.type t) → PySem.W.kitOne X.K (.type t) (.type Tn) = some (isiB Tn d) → (∀ kvs, d ≠ .dict kvs) → rIsi X.K ([v] ++ [V.ty Tn]) H1 Q := fun t y _ ht hk2 hd => by
    have k2 := k1.of_eq (r' := .ok (.bool (isiB Tn d))) (by cases d <;> first | rfl | exact absurd rfl (hd _))
    exact ⟨v, .ty Tn, .type t, .type Tn, _, rfl, by constructor, ht, hk2, kn_flat k2 s1 rfl (.bl _)⟩
  cases d with
  | none => cases tp_none q1; exact fin "NoneType" .non (by intro z; cases z) (.base .non) (kit_ty (kitN Tn hk _ (by decide))) (fun _ z => nomatch z)
  | bool b => cases tp_bool q1; exact fin "bool" .non (by intro z; cases z) (.base (.bl _)) (kit_ty (kitN Tn hk _ (by decide))) (fun _ z => nomatch z)
  | int b => cases tp_int q1; exact fin "int" .non (by intro z; cases z) (.base (.int _)) (kit_ty (kitN Tn hk _ (by decide))) (fun _ z => nomatch z)
  | str b => cases tp_str q1; exact fin "str" .non (by intro z; cases z) (.base (.str _)) (kit_ty (kitN Tn hk _ (by decide))) (fun _ z => nomatch z)
  | list ds =>
    obtain ⟨a, xs, rfl, q2, q3⟩ := tp_list q1
    refine fin "list" .non (by intro z; cases z) ?_ (kit_ty (kitN Tn hk _ (by decide))) (fun _ z => nomatch z)
    rcases q2 with (q2 | ⟨o, q2⟩) | ⟨o, its, n, q2, q4, _⟩
    · exact .base (.lst q2)
    · exact .base (.frz q2)
    · exact .kList q2 q4
  | tuple ds =>
    obtain ⟨a, xs, rfl, q2, q3⟩ := tp_tup q1
    refine fin "tuple" .non (by intro z; cases z) ?_ (kit_ty (kitN Tn hk _ (by decide))) (fun _ z => nomatch z)
    rcases Same.tup s1 q2 with (q2 | ⟨o, q2⟩) | ⟨o, its, n, q2, q4, _⟩
    · exact .base (.tup q2)
    · exact .fTuple q2
    · exact .kTuple q2 q4
  | dict kvs => exact (tp_dict q1).elim
end
end DL
/-! Rules: truth, and | or | not, one of two; what is walked; comprehensions; calls of defs. -/
namespace DL
open PySem L2
section
variable {X : Cx} {W : WX} {ρ : Env X.K} {m : Md} {e a b c : Expr} {es rest : List Expr} {r ra rb rc : Res D} {rs : Res (List D)} {rt ru : Res Bool} {pos p : Pos}
/-- an expression that gives a truth, as a test -/
theorem tg_val (ha : EG X W ρ .T a ra) (he : ∀ whole, isTrue a X.env whole = (do let v ← whole; standAt a.pos; holding [v] (truthy v)) := by intro _; rfl) : TG' X W ρ a (ra.bd bl) := by
  obtain ⟨ta, a1, a2⟩ := ha
  refine ⟨_, pt_val a1 he, fun B H0 F H σ Q gd k => a2 B H0 F H σ _ gd (Kn.bd k aB_base fun d x F1 H1 _ e1 s1 q1 k1 => ?_)⟩
  cases d <;> first | exact absurd rfl k1.ns | skip
  cases tp_bool q1
  exact ⟨_, rfl, k1.ret (Ex.refl _ _) s1 rfl⟩
/-- a value's truth -/
def truV : D → Res Bool
  | .none => .ok false
  | .bool b => .ok b
  | .int i => .ok (i != 0)
  | .str z => if fits z.length then .ok ((z.length : Int) != 0) else .stuck
  | .list xs => .ok (!xs.isEmpty)
  | .tuple xs => .ok (!xs.isEmpty)
  | .dict _ => .stuck
theorem tp_tru {K : PySem.W.Frag} {F H : Hp} {x : V} {d : D} {k : Bool} (s : Same F H) (h : Tp K F H x d) (e : truV d = .ok k) : TruV K x H k := by
  have emp : ∀ {xs : List V} {ds : List D}, DpAll K F xs ds → (!ds.isEmpty) = !xs.isEmpty := fun {xs ds} q => by cases q <;> rfl
  cases d <;> first | cases e; done | skip
  · cases tp_none h; cases e; rfl
  · cases tp_bool h; cases e; rfl
  · cases tp_int h; cases e; rfl
  · cases tp_str h
    rename_i z
    cases c : fits z.length with
    | false => simp [truV, c] at e
    | true => simp [truV, c] at e; subst e; exact ⟨fits_le c, rfl⟩
  · obtain ⟨a, xs, rfl, q1, q2⟩ := tp_list h
    cases e
    exact .inl ⟨xs, q1, emp q2⟩
  · obtain ⟨a, xs, rfl, q1, q2⟩ := tp_tup h
    cases e
    exact .inr (.inl ⟨xs, Same.tup s q1, emp q2⟩)
theorem tru_ns {d : D} (h : truV d ≠ .stuck) : ∃ k, truV d = .ok k := by
  cases e : truV d with
  | ok k => exact ⟨k, rfl⟩
  | stuck => exact absurd e h
  | exc n => cases d <;> first | cases e; done | (simp only [truV] at e; split at e <;> cases e)
theorem tg_truth (ha : EG X W ρ .T a ra) (he : ∀ whole, isTrue a X.env whole = (do let v ← whole; standAt a.pos; holding [v] (truthy v)) := by intro _; rfl) : TG' X W ρ a (ra.bd truV) := by
  obtain ⟨ta, a1, a2⟩ := ha
  refine ⟨_, pt_truth a1 he, fun B H0 F H σ Q gd k => a2 B H0 F H σ _ gd (Kn.bd k aB_base fun d x F1 H1 _ e1 s1 q1 k1 => ?_)⟩
  obtain ⟨c, ec⟩ := tru_ns k1.ns
  exact ⟨c, tp_tru s1 q1 ec, (k1.of_eq ec).ret (Ex.refl _ _) s1 rfl⟩
/-! and, or, not as tests -/
structure WG (X : Cx) (W : WX) (ρ : Env X.K) (e : Expr) (r : Res Bool) : Prop where
  ex : ∃ t, PW X e t ∧ ∀ B H0 F H σ Q, Good B H0 F H ρ σ → Kn X W F H σ r aB Q → t σ H Q
theorem tg_w (h : WG X W ρ e rt) : TG' X W ρ e rt := by
  obtain ⟨t, h1, h2⟩ := h
  exact ⟨t, h1.pt, h2⟩
def andR (a b : Res Bool) : Res Bool := a.bd fun x => if x then b else .ok false
def orR (a b : Res Bool) : Res Bool := a.bd fun x => if x then .ok true else b
def notR (a : Res Bool) : Res Bool := a.bd fun x => .ok (!x)
theorem wg_and1 (h : TG' X W ρ a rt) : WG X W ρ (.BoolOp .And [a] pos) rt := by
  obtain ⟨t, h1, h2⟩ := h
  exact ⟨t, pw_and1 h1, h2⟩
theorem wg_or1 (h : TG' X W ρ a rt) : WG X W ρ (.BoolOp .Or [a] pos) rt := by
  obtain ⟨t, h1, h2⟩ := h
  exact ⟨t, pw_or1 h1, h2⟩
theorem wg_and (h : TG' X W ρ a rt) (h' : WG X W ρ (.BoolOp .And (b :: rest) pos) ru) : WG X W ρ (.BoolOp .And (a :: b :: rest) pos) (andR rt ru) := by
  obtain ⟨t, h1, h2⟩ := h
  obtain ⟨u, g1, g2⟩ := h'
  refine ⟨_, pw_and h1 g1, fun B H0 F H σ Q gd k => h2 B H0 F H σ _ gd (Kn.bd k aB_base fun x y F1 H1 _ e1 s1 q1 k1 => ?_)⟩
  cases q1
  cases x with
  | true => rw [if_pos rfl]; exact g2 B H0 F1 H1 σ Q (gd.go e1 s1) (k1.of_eq (by rw [if_pos rfl]))
  | false => rw [if_neg Bool.false_ne_true]; exact (k1.of_eq (r' := .ok false) (by rw [if_neg Bool.false_ne_true])).ret (Ex.refl _ _) s1 rfl
theorem wg_or (h : TG' X W ρ a rt) (h' : WG X W ρ (.BoolOp .Or (b :: rest) pos) ru) : WG X W ρ (.BoolOp .Or (a :: b :: rest) pos) (orR rt ru) := by
  obtain ⟨t, h1, h2⟩ := h
  obtain ⟨u, g1, g2⟩ := h'
  refine ⟨_, pw_or h1 g1, fun B H0 F H σ Q gd k => h2 B H0 F H σ _ gd (Kn.bd k aB_base fun x y F1 H1 _ e1 s1 q1 k1 => ?_)⟩
  cases q1
  cases x with
  | true => rw [if_pos rfl]; exact (k1.of_eq (r' := .ok true) (by rw [if_pos rfl])).ret (Ex.refl _ _) s1 rfl
  | false => rw [if_neg Bool.false_ne_true]; exact g2 B H0 F1 H1 σ Q (gd.go e1 s1) (k1.of_eq (by rw [if_neg Bool.false_ne_true]))
theorem tg_not (h : TG' X W ρ a rt) : TG' X W ρ (.UnaryOp .Not a pos) (notR rt) := by
  obtain ⟨t, h1, h2⟩ := h
  refine ⟨_, pt_not h1, fun B H0 F H σ Q gd k => h2 B H0 F H σ _ gd (Kn.bd k aB_base fun x y F1 H1 _ e1 s1 q1 k1 => ?_)⟩
  cases q1
  exact k1.ret (Ex.refl _ _) s1 rfl
/-! .. as values: of truths -/
def andV (a b : Res D) : Res D := a.bd fun x => (bl x).bd fun k => if k then b else .ok (.bool false)
def orV (a b : Res D) : Res D := a.bd fun x => (bl x).bd fun k => if k then .ok (.bool true) else b
def notV (a : Res D) : Res D := a.bd fun x => (bl x).bd fun k => .ok (.bool (!k))
theorem eg_one {op} (h : EG X W ρ m a ra) : EG X W ρ m (.BoolOp op [a] pos) ra := by
  obtain ⟨t, h1, h2⟩ := h
  exact ⟨t, pe_one h1, h2⟩
theorem eg_and (h : EG X W ρ .V a ra) (h' : EG X W ρ .V (.BoolOp .And (b :: rest) pos) rb) : EG X W ρ .V (.BoolOp .And (a :: b :: rest) pos) (andV ra rb) := by
  obtain ⟨t, h1, h2⟩ := h
  obtain ⟨u, g1, g2⟩ := h'
  refine ⟨_, pe_and h1 g1, fun B H0 F H σ Q gd k => h2 B H0 F H σ _ gd (Kn.bd k acc_base fun x y F1 H1 _ e1 s1 q1 k1 => ?_)⟩
  cases x <;> first | exact absurd rfl k1.ns | skip
  cases q1
  rename_i x _
  cases x with
  | true => exact ⟨true, rfl, by rw [if_pos rfl]; exact g2 B H0 F1 H1 σ Q (gd.go e1 s1) (k1.of_eq (by simp))⟩
  | false => exact ⟨false, rfl, by rw [if_neg Bool.false_ne_true]; exact kn_flat (k1.of_eq (r' := .ok (.bool false)) (by simp)) s1 rfl (.bl _)⟩
theorem eg_or (h : EG X W ρ .V a ra) (h' : EG X W ρ .V (.BoolOp .Or (b :: rest) pos) rb) : EG X W ρ .V (.BoolOp .Or (a :: b :: rest) pos) (orV ra rb) := by
  obtain ⟨t, h1, h2⟩ := h
  obtain ⟨u, g1, g2⟩ := h'
  refine ⟨_, pe_or h1 g1, fun B H0 F H σ Q gd k => h2 B H0 F H σ _ gd (Kn.bd k acc_base fun x y F1 H1 _ e1 s1 q1 k1 => ?_)⟩
  cases x <;> first | exact absurd rfl k1.ns | skip
  cases q1
  rename_i x _
  cases x with
  | true => exact ⟨true, rfl, by rw [if_pos rfl]; exact kn_flat (k1.of_eq (r' := .ok (.bool true)) (by simp)) s1 rfl (.bl _)⟩
  | false => exact ⟨false, rfl, by rw [if_neg Bool.false_ne_true]; exact g2 B H0 F1 H1 σ Q (gd.go e1 s1) (k1.of_eq (by simp))⟩
theorem eg_not (h : EG X W ρ .V a ra) : EG X W ρ .V (.UnaryOp .Not a pos) (notV ra) := by
  obtain ⟨t, h1, h2⟩ := h
  refine ⟨_, pe_not h1, fun B H0 F H σ Q gd k => h2 B H0 F H σ _ gd (Kn.bd k acc_base fun x y F1 H1 _ e1 s1 q1 k1 => ?_)⟩
  cases x <;> first | exact absurd rfl k1.ns | skip
  cases q1
  exact ⟨_, rfl, kn_flat k1 s1 rfl (.bl _)⟩
/-- x or y, by truth -/
def orT (a b : Res D) : Res D := a.bd fun x => (truV x).bd fun k => if k then .ok x else b
theorem eg_orT (h : EG X W ρ .V a ra) (h' : EG X W ρ .V (.BoolOp .Or (b :: rest) pos) rb) : EG X W ρ .V (.BoolOp .Or (a :: b :: rest) pos) (orT ra rb) := by
  obtain ⟨t, h1, h2⟩ := h
  obtain ⟨u, g1, g2⟩ := h'
  refine ⟨_, pe_orT h1 g1, fun B H0 F H σ Q gd k => h2 B H0 F H σ _ gd (Kn.bd k acc_base fun d x F1 H1 _ e1 s1 q1 k1 => ?_)⟩
  obtain ⟨c, ec⟩ := tru_ns (d := d) (fun z => k1.ns (by rw [z]; rfl))
  refine ⟨c, tp_tru s1 (Dp.tp s1 q1) ec, ?_⟩
  cases c with
  | true => rw [if_pos rfl]; exact (k1.of_eq (r' := .ok d) (by rw [ec]; rfl)).ret (Ex.refl _ _) s1 q1
  | false => rw [if_neg Bool.false_ne_true]; exact g2 B H0 F1 H1 σ Q (gd.go e1 s1) (k1.of_eq (by rw [ec]; rfl))
/-- a if t else b -/
def ifR {α : Type} (t : Res Bool) (a b : Res α) : Res α := t.bd fun k => if k then a else b
theorem eg_if (hc : TG' X W ρ c rt) (ha : EG X W ρ m a ra) (hb : EG X W ρ m b rb) : EG X W ρ m (.IfExp c a b pos) (ifR rt ra rb) := by
  obtain ⟨t, h1, h2⟩ := hc
  obtain ⟨ta, a1, a2⟩ := ha
  obtain ⟨tb, b1, b2⟩ := hb
  refine ⟨_, pe_ifExp h1 a1 b1, fun B H0 F H σ Q gd k => h2 B H0 F H σ _ gd (Kn.bd k acc_base fun x y F1 H1 _ e1 s1 q1 k1 => ?_)⟩
  cases q1
  cases x with
  | true => rw [if_pos rfl]; exact a2 B H0 F1 H1 σ Q (gd.go e1 s1) (k1.of_eq (by rw [if_pos rfl]))
  | false => rw [if_neg Bool.false_ne_true]; exact b2 B H0 F1 H1 σ Q (gd.go e1 s1) (k1.of_eq (by rw [if_neg Bool.false_ne_true]))
/-! ### what is walked -/
/-- J walks ds, whatever grows -/
def WalkG (K : PySem.W.Frag) (F H : Hp) (ds : List D) (J : It) : Prop := ∀ F2 H2, Ex F H F2 H2 → Same F2 H2 →
  J.stop ds.length H2 ∧ ∀ i d, ds[i]? = some d → J.go i H2 ∧ ∀ x H3, J.yld i H2 x H3 → ∃ F3, Ex F2 H2 F3 H3 ∧ Same F3 H3 ∧ Dp K F3 x d
/-- J walks ds, whatever stands outside of the frozen part -/
def WalkF (K : PySem.W.Frag) (F : Hp) (ds : List D) (J : It) : Prop := ∀ F2 H2, Same F F2 → Same F2 H2 →
  J.stop ds.length H2 ∧ ∀ i d, ds[i]? = some d → J.go i H2 ∧ ∀ x H3, J.yld i H2 x H3 → ∃ F3, Ex F2 H2 F3 H3 ∧ Same F3 H3 ∧ Dp K F3 x d
theorem WalkF.g {K : PySem.W.Frag} {F H : Hp} {ds : List D} {J : It} (h : WalkF K F ds J) : WalkG K F H ds J := fun F2 H2 e s => h F2 H2 e.ff s
def aG (K : PySem.W.Frag) : Hp → Hp → Hp → List D → It → Prop := fun _ F H ds J => WalkG K F H ds J
def aF (K : PySem.W.Frag) : Hp → Hp → Hp → List D → It → Prop := fun _ F _ ds J => WalkF K F ds J
structure IG (X : Cx) (W : WX) (ρ : Env X.K) (tg e : Expr) (r : Res (List D)) : Prop where
  ex : ∃ t, PI X tg e t ∧ ∀ B H0 F H σ Q, Good B H0 F H ρ σ → Kn X W F H σ r (aG X.K) Q → t σ H Q
structure IF' (X : Cx) (W : WX) (ρ : Env X.K) (tg e : Expr) (r : Res (List D)) : Prop where
  ex : ∃ t, PI X tg e t ∧ ∀ B H0 F H σ Q, Good B H0 F H ρ σ → Kn X W F H σ r (aF X.K) Q → t σ H Q
theorem IF'.g {tg : Expr} (h : IF' X W ρ tg e rs) : IG X W ρ tg e rs := by
  obtain ⟨t, h1, h2⟩ := h
  exact ⟨t, h1, fun B H0 F H σ Q gd k => h2 B H0 F H σ Q gd ⟨k.ns, fun a ea b F' H' x s q => k.ok a ea b F' H' x s (WalkF.g q), k.xc⟩⟩
theorem aG_base {K : PySem.W.Frag} (H H1 F' H' : Hp) (x : List D) (y : It) (_ : Same H H1) (h : aG K H1 F' H' x y) : aG K H F' H' x y := h
theorem aF_base {K : PySem.W.Frag} (H H1 F' H' : Hp) (x : List D) (y : It) (_ : Same H H1) (h : aF K H1 F' H' x y) : aF K H F' H' x y := h
theorem walk_list {K : PySem.W.Frag} {F H : Hp} {a : Addr} {xs : List V} {ds : List D} (h : SqL K H a xs) (q : DpAll K F xs ds) (uni : ∀ ys, SqL K H a ys → ys = xs) : True := trivial
/-- only lists -/
def lstItems : D → Res (List D)
  | .list xs => .ok xs
  | _ => .stuck
def tupItems : D → Res (List D)
  | .tuple xs => .ok xs
  | _ => .stuck
theorem ig_list {tg : Expr} (ha : EG X W ρ .T a ra) : IG X W ρ tg a (ra.bd lstItems) := by
  obtain ⟨t, h1, h2⟩ := ha
  refine ⟨_, pi_list h1, fun B H0 F H σ Q gd k => h2 B H0 F H σ _ gd (Kn.bd k aG_base fun d x F1 H1 _ e1 s1 q1 k1 => ?_)⟩
  cases d <;> first | exact absurd rfl k1.ns | skip
  rename_i ds
  obtain ⟨l, xs, rfl, g1, g2⟩ := tp_list q1
  refine ⟨l, rfl, ⟨xs, g1⟩, k1.ret (Ex.refl _ _) s1 fun F2 H2 e s => ?_⟩
  have g1' := Same.seq e.hh g1
  refine ⟨⟨xs, g1', by rw [DpAll.length g2]; exact Nat.le_refl _⟩, fun i d hd => ?_⟩
  obtain ⟨v, v1, v2⟩ := DpAll.get g2 hd
  refine ⟨⟨xs, v, g1', v1⟩, fun x H3 ⟨y1, y2⟩ => ?_⟩
  subst y1
  have := y2 xs g1'
  rw [v1] at this
  cases this
  exact ⟨F2, Ex.refl _ _, s, Dp.mono e.ff _ _ v2⟩
theorem if_list {tg : Expr} (ha : EG X W ρ .V a ra) : IF' X W ρ tg a (ra.bd lstItems) := by
  obtain ⟨t, h1, h2⟩ := ha
  refine ⟨_, pi_list h1, fun B H0 F H σ Q gd k => h2 B H0 F H σ _ gd (Kn.bd k aF_base fun d x F1 H1 hq e1 s1 q1 k1 => ?_)⟩
  clear hq
  cases d <;> first | exact absurd rfl k1.ns | skip
  rename_i ds
  have q1 : Dp X.K F1 x (.list ds) := q1
  cases q1 with
  | @lst l xs _ g1 g2 =>
  refine ⟨l, rfl, ⟨xs, Same.seq s1 g1⟩, k1.ret (Ex.refl _ _) s1 fun F2 H2 e s => ?_⟩
  have g1' := Same.seq s (Same.seq e g1)
  refine ⟨⟨xs, g1', by rw [DpAll.length g2]; exact Nat.le_refl _⟩, fun i d hd => ?_⟩
  obtain ⟨v, v1, v2⟩ := DpAll.get g2 hd
  refine ⟨⟨xs, v, g1', v1⟩, fun x H3 ⟨y1, y2⟩ => ?_⟩
  subst y1
  have := y2 xs g1'
  rw [v1] at this
  cases this
  exact ⟨F2, Ex.refl _ _, s, Dp.mono e _ _ v2⟩
theorem if_tup {tg : Expr} (ha : EG X W ρ .T a ra) : IF' X W ρ tg a (ra.bd tupItems) := by
  obtain ⟨t, h1, h2⟩ := ha
  refine ⟨_, pi_tup h1, fun B H0 F H σ Q gd k => h2 B H0 F H σ _ gd (Kn.bd k aF_base fun d x F1 H1 _ e1 s1 q1 k1 => ?_)⟩
  cases d <;> first | exact absurd rfl k1.ns | skip
  rename_i ds
  obtain ⟨l, xs, rfl, g1, g2⟩ := tp_tup q1
  refine ⟨l, rfl, ⟨xs, Same.tup s1 g1⟩, k1.ret (Ex.refl _ _) s1 fun F2 H2 e s => ?_⟩
  have g1' := Same.tup s (Same.tup e g1)
  refine ⟨⟨xs, g1', by rw [DpAll.length g2]; exact Nat.le_refl _⟩, fun i d hd => ?_⟩
  obtain ⟨v, v1, v2⟩ := DpAll.get g2 hd
  refine ⟨⟨xs, v, g1', v1⟩, fun x H3 ⟨y1, y2⟩ => ?_⟩
  subst y1
  have := y2 xs g1'
  rw [v1] at this
  cases this
  exact ⟨F2, Ex.refl _ _, s, Dp.mono e _ _ v2⟩
theorem walk_range {K : PySem.W.Frag} {F : Hp} (lo : Int) (n : Nat) : WalkF K F (rangeL lo n) (Itr lo n) := fun F2 H2 e s => by
  refine ⟨by show n ≤ _; unfold rangeL; simp, fun i d hd => ?_⟩
  unfold rangeL at hd
  rw [List.getElem?_map] at hd
  by_cases hi : i < n
  · rw [List.getElem?_range hi] at hd
    cases hd
    refine ⟨hi, fun x H3 ⟨y1, y2⟩ => ?_⟩
    subst y1; subst y2
    exact ⟨F2, Ex.refl _ _, s, .int _⟩
  · rw [List.getElem?_eq_none (by simpa using hi)] at hd
    cases hd
theorem if_range1 {tg : Expr} (ha : EG X W ρ .T a ra) (hm : X.mg "range" = none) (hg : Gl X "range" := by rfl) (hs : starEach [a] X.env = [(false, eval a X.env)] := by rfl) : IF' X W ρ tg (.Call (.Name "range" p) [a] [] pos) (ra.bd range1) := by
  obtain ⟨t, h1, h2⟩ := ha
  refine ⟨_, pi_range1 hg hm (pa_cons h1 pa_nil hs) hs, fun B H0 F H σ Q gd k => h2 B H0 F H σ _ gd (Kn.bd k aF_base fun d x F1 H1 _ e1 s1 q1 k1 => ?_)⟩
  cases d <;> first | exact absurd rfl k1.ns | skip
  cases tp_int q1
  rename_i n _
  cases c : in62 n with
  | false => exact absurd (by simp [range1, c]) k1.ns
  | true =>
    have k2 := k1.of_eq (r' := .ok (rangeL 0 n.toNat)) (by simp [range1, c])
    have c' := of_decide_eq_true c
    exact ⟨n, rfl, c'.1, c'.2, k2.ret (Ex.refl _ _) s1 (walk_range _ _)⟩
theorem if_range2 {tg : Expr} (ha : EG X W ρ .T a ra) (hb : EG X W ρ .T b rb) (hm : X.mg "range" = none) (hg : Gl X "range" := by rfl) (hs : starEach [a, b] X.env = [(false, eval a X.env), (false, eval b X.env)] := by rfl) (hs2 : starEach [b] X.env = [(false, eval b X.env)] := by rfl) : IF' X W ρ tg (.Call (.Name "range" p) [a, b] [] pos) (bd2 ra rb range2) := by
  obtain ⟨t, h1, h2⟩ := ha
  obtain ⟨u, g1, g2⟩ := hb
  refine ⟨_, pi_range2 hg hm (pa_cons h1 (pa_cons g1 pa_nil hs2) (hs.trans (by rw [hs2]))) hs hs2, fun B H0 F H σ Q gd k => h2 B H0 F H σ _ gd (Kn.bd k aF_base fun d x F1 H1 _ e1 s1 q1 k1 => g2 B H0 F1 H1 σ _ (gd.go e1 s1) (Kn.bd k1 aF_base fun d2 y F2 H2 _ e2 s2 q2 k2 => ?_))⟩
  cases d <;> first | exact absurd rfl k2.ns | skip
  cases d2 <;> first | exact absurd rfl k2.ns | skip
  cases tp_int q1
  cases tp_int q2
  rename_i n _ k _
  cases c : (in62 n && in62 k) with
  | false => exact absurd (by simp only [range2, c]; rfl) k2.ns
  | true =>
    have k3 := k2.of_eq (r' := .ok (rangeL n (k - n).toNat)) (by simp only [range2, c]; rfl)
    rw [Bool.and_eq_true] at c
    have c1 := of_decide_eq_true c.1
    have c2 := of_decide_eq_true c.2
    exact ⟨n, k, rfl, ⟨c1.1, c1.2, c2.1, c2.2⟩, k3.ret (Ex.refl _ _) s2 (walk_range _ _)⟩
end
end DL
/-! Rules: targets, comprehensions, calls of defs. -/
namespace DL
open PySem L2
/-! ### a judgement's own reading -/
def tS (K : PySem.W.Frag) (X : Cx) (W : WX) (ρ : Env K) (m : Md) (r : Res D) : TE := fun σ H Q => ∃ B H0 F, Good B H0 F H ρ σ ∧ Kn X W F H σ r (Acc K m) Q
theorem EG.sem {X : Cx} {W : WX} {ρ : Env X.K} {m : Md} {e : Expr} {r : Res D} (h : EG X W ρ m e r) {Y : Cx} (hm : Y.mg = X.mg) : PE X e (tS X.K Y W ρ m r) := by
  obtain ⟨t, h1, h2⟩ := h
  exact ⟨fun pins s σ H Q I ⟨B, H0, F, g, k⟩ => h1.run pins s σ H Q I (h2 B H0 F H σ Q g ⟨k.ns, k.ok, fun n e H' C c s => k.xc n e H' C (hm ▸ c) s⟩)⟩
/-- tests of a comprehension -/
structure QG (X : Cx) (W : WX) (ρ : Env X.K) (es : List Expr) (r : Res Bool) : Prop where
  ex : ∃ t, PTs X es t ∧ ∀ B H0 F H σ Q, Good B H0 F H ρ σ → Kn X W F H σ r aB Q → t σ H Q
def tQ (K : PySem.W.Frag) (X : Cx) (W : WX) (ρ : Env K) (r : Res Bool) : TT := fun σ H Q => ∃ B H0 F, Good B H0 F H ρ σ ∧ Kn X W F H σ r aB Q
theorem QG.sem {X : Cx} {W : WX} {ρ : Env X.K} {es : List Expr} {r : Res Bool} (h : QG X W ρ es r) {Y : Cx} (hm : Y.mg = X.mg) : PTs X es (tQ X.K Y W ρ r) := by
  obtain ⟨t, h1, h2⟩ := h
  exact ⟨fun pins s σ H Q I ⟨B, H0, F, g, k⟩ => h1.run pins s σ H Q I (h2 B H0 F H σ Q g ⟨k.ns, k.ok, fun n e H' C c s => k.xc n e H' C (hm ▸ c) s⟩)⟩
theorem qg_nil {X : Cx} {W : WX} {ρ : Env X.K} : QG X W ρ [] (.ok true) := ⟨_, pts_nil, fun B H0 F H σ Q g k => k.ret (Ex.refl _ _) g.fh rfl⟩
theorem qg_one {X : Cx} {W : WX} {ρ : Env X.K} {c : Expr} {r : Res Bool} (h : TG' X W ρ c r) : QG X W ρ [c] r := by
  obtain ⟨t, h1, h2⟩ := h
  exact ⟨t, pts_one h1, h2⟩
/-! ### targets -/
def Keeps (vs : List Nat) (σ σ' : St) : Prop := wipe σ' vs = wipe σ vs
structure GG (X : Cx) (tg : Expr) (vs : List Nat) (ρ : Env X.K) (f : D → Res (Env X.K)) : Prop where
  ex : ∃ g, PG X tg g ∧ ∀ B H0 F H σ x d Q, Good B H0 F H ρ σ → Dp X.K F x d → f d ≠ .stuck → (∀ ρ' σ', f d = .ok ρ' → Good B H0 F H ρ' σ' → Keeps vs σ σ' → Q σ' H) → g x σ H Q
def gS (K : PySem.W.Frag) (vs : List Nat) (ρ : Env K) (f : D → Res (Env K)) : TG := fun x σ H Q => ∃ B H0 F d, Good B H0 F H ρ σ ∧ Dp K F x d ∧ f d ≠ .stuck ∧ ∀ ρ' σ', f d = .ok ρ' → Good B H0 F H ρ' σ' → Keeps vs σ σ' → Q σ' H
theorem GG.sem {X : Cx} {tg : Expr} {vs : List Nat} {ρ : Env X.K} {f : D → Res (Env X.K)} (h : GG X tg vs ρ f) : PG X tg (gS X.K vs ρ f) := by
  obtain ⟨t, h1, h2⟩ := h
  exact ⟨fun pins s σ H v u Q I r ⟨B, H0, F, d, g, p, n, k⟩ => h1.run pins s σ H v u Q I r (h2 B H0 F H σ v d Q g p n k)⟩
theorem wipe_get {σ : St} : ∀ (vs : List Nat) (j : Nat), (wipe σ vs)[j]? = if j ∈ vs ∧ j < σ.length then some none else σ[j]?
  | [], j => by simp [wipe]
  | v :: vs, j => by
    unfold wipe
    rw [List.getElem?_set]
    by_cases e : v = j
    · subst e
      by_cases hl : v < σ.length
      · simp [wipe_length, hl]
      · simp [wipe_length, hl, List.getElem?_eq_none (Nat.le_of_not_lt hl)]
    · rw [if_neg e, wipe_get vs j]
      have : j ≠ v := fun z => e z.symm
      simp [this]
theorem wipe_wipe {σ : St} (vs : List Nat) : wipe (wipe σ vs) vs = wipe σ vs := by
  apply List.ext_getElem?
  intro j
  rw [wipe_get, wipe_length, wipe_get]
  split <;> rfl
theorem keeps_set {σ : St} {vs : List Nat} {i : Nat} {v : Option V} (h : i ∈ vs) : Keeps vs σ (σ.set i v) := by
  unfold Keeps
  apply List.ext_getElem?
  intro j
  rw [wipe_get, wipe_get, List.length_set]
  by_cases hj : j ∈ vs ∧ j < σ.length
  · rw [if_pos hj, if_pos hj]
  · rw [if_neg hj, if_neg hj, List.getElem?_set]
    by_cases e : i = j
    · subst e
      have : ¬ i < σ.length := fun z => hj ⟨h, z⟩
      simp [this, List.getElem?_eq_none (Nat.le_of_not_lt this)]
    · rw [if_neg e]
theorem Keeps.trans {vs : List Nat} {a b c : St} (h : Keeps vs a b) (h' : Keeps vs b c) : Keeps vs a c := Eq.trans h' h
theorem gg_name {X : Cx} {ρ : Env X.K} {x : Str} {pos : Pos} {vs : List Nat} (i : Nat) (hN : X.N.Nodup) (hi : X.N[i]? = some x) (hx : Loc X.env.scope x) (hv : i ∈ vs) (hf : X.fn x = true ∨ X.env.scope.names.lookup x = some .local) : GG X (.Name x pos) vs ρ (fun d => .ok (ρ.set i (cVal d))) :=
  ⟨_, pg_name hN hi hx hf, fun B H0 F H σ v d Q g p _ k => k _ _ rfl (g.setV p) (keeps_set hv)⟩
/-- targets of a tuple, one after another -/
structure GGs (X : Cx) (ts : List Expr) (vs : List Nat) (ρ : Env X.K) (f : List D → Res (Env X.K)) : Prop where
  ex : ∃ g, PGs X ts g ∧ ∀ B H0 F H σ xs ds Q, Good B H0 F H ρ σ → DpAll X.K F xs ds → f ds ≠ .stuck → (∀ ρ' σ', f ds = .ok ρ' → Good B H0 F H ρ' σ' → Keeps vs σ σ' → Q σ' H) → g xs σ H Q
theorem ggs_nil {X : Cx} {ρ : Env X.K} {vs : List Nat} : GGs X [] vs ρ (fun ds => match ds with | [] => .ok ρ | _ => .stuck) := by
  refine ⟨_, pgs_nil, fun B H0 F H σ xs ds Q g p n k => ?_⟩
  cases p with
  | nil => exact ⟨rfl, k _ _ rfl g rfl⟩
  | cons _ _ => exact absurd rfl n
def consE {K : PySem.W.Frag} (f : D → Res (Env K)) (fs : Env K → List D → Res (Env K)) : List D → Res (Env K)
  | d :: ds => (f d).bd fun ρ' => fs ρ' ds
  | [] => .stuck
theorem ggs_cons {X : Cx} {t : Expr} {ts : List Expr} {ρ : Env X.K} {vs : List Nat} {f : D → Res (Env X.K)} {fs : Env X.K → List D → Res (Env X.K)} (h : GG X t vs ρ f) (h' : ∀ ρ', GGs X ts vs ρ' (fs ρ')) (hx : ∀ d n, f d ≠ .exc n)
    (hs : ∀ (u : TGs), PGs X ts u → ∀ g, PG X t g → PGs X (t :: ts) (gCons g u)) : GGs X (t :: ts) vs ρ (consE f fs) := by
  obtain ⟨g, g1, g2⟩ := h
  have hu : PGs X ts (fun xs σ H Q => ∃ B H0 F ρ' ds, Good B H0 F H ρ' σ ∧ DpAll X.K F xs ds ∧ fs ρ' ds ≠ .stuck ∧ ∀ ρ2 σ', fs ρ' ds = .ok ρ2 → Good B H0 F H ρ2 σ' → Keeps vs σ σ' → Q σ' H) := by
    refine ⟨fun pins s σ H xs us Q I r ⟨B, H0, F, ρ', ds, gd, p, n, k⟩ => ?_⟩
    obtain ⟨u, u1, u2⟩ := h' ρ'
    exact u1.run pins s σ H xs us Q I r (u2 B H0 F H σ xs ds Q gd p n k)
  refine ⟨_, hs _ hu _ g1, fun B H0 F H σ xs ds Q gd p n k => ?_⟩
  cases p with
  | nil => exact absurd rfl n
  | @cons v vs' d ds' p1 p2 =>
    refine ⟨v, vs', rfl, g2 B H0 F H σ v d _ gd p1 (fun z => n (by simp [consE, z])) fun ρ' σ' e gd' kp => ?_⟩
    have e2 : consE f fs (d :: ds') = fs ρ' ds' := by simp [consE, e]
    exact ⟨B, H0, F, ρ', ds', gd', p2, fun z => n (e2.trans z), fun ρ2 σ2 q1 q2 q3 => k ρ2 σ2 (e2.trans q1) q2 (kp.trans q3)⟩
def tupE {K : PySem.W.Frag} (n : Nat) (f : List D → Res (Env K)) : D → Res (Env K)
  | .tuple ds => if decide (ds.length = n) then f ds else .stuck
  | _ => .stuck
theorem gg_tup {X : Cx} {es : List Expr} {k : Nat} {pos : Pos} {ρ : Env X.K} {vs : List Nat} {n : Nat} {f : List D → Res (Env X.K)} (hc : X.calm = true) (h : GGs X es vs ρ f)
    (hn : (assignEach es X.env).length = n) (hst : (assignEach es X.env).findIdx? (·.1) = none) : GG X (.Tuple es k pos) vs ρ (tupE n f) := by
  obtain ⟨g, g1, g2⟩ := h
  refine ⟨_, pg_tup hc g1 hn hst, fun B H0 F H σ x d Q gd p ns q => ?_⟩
  cases p with
  | @tup a xs ds p1 p2 =>
    by_cases e : ds.length = n
    · have e2 : tupE n f (.tuple ds) = f ds := by simp [tupE, e]
      exact ⟨a, xs, rfl, Same.tup gd.fh p1, by rw [DpAll.length p2]; exact e, g2 B H0 F H σ xs ds Q gd p2 (fun z => ns (e2.trans z)) fun ρ' σ' q1 q2 q3 => q ρ' σ' (e2.trans q1) q2 q3⟩
    · exact absurd (by simp [tupE, e]) ns
  | _ => exact absurd rfl ns
/-! ### comprehensions -/
def wipeE {K : PySem.W.Frag} (ρ : Env K) : List Nat → Env K
  | [] => ρ
  | v :: vs => (wipeE ρ vs).set v cAny
theorem Good.wipe {K : PySem.W.Frag} {B H0 F H : Hp} {ρ : Env K} {σ : St} (g : Good B H0 F H ρ σ) : ∀ vs : List Nat, Good B H0 F H (wipeE ρ vs) (wipe σ vs)
  | [] => g
  | v :: vs => by
    obtain ⟨e, f, ass, h1, h2, h3⟩ := Good.wipe g vs
    refine ⟨e, f, ass.set v [], Slots.set h1 rfl, nodup_flatten_set h2 List.nodup_nil (fun _ z => nomatch z), fun a ha => ?_⟩
    rcases mem_flatten_set ha with z | z
    · exact h3 a z
    · cases z
abbrev W0 : WX := fun _ _ _ _ => False
theorem lcR_nx (cond : D → Res Bool) (elt : D → Res D) : ∀ (ds : List D) (n : Str), lcR cond elt ds ≠ .exc n
  | [], n => fun z => nomatch z
  | d :: ds, n => by
    unfold lcR
    cases cond d with
    | ok b =>
      cases b with
      | true =>
        simp only [nx_ok, bd_ok, if_true]
        cases elt d with
        | ok x =>
          simp only [nx_ok]
          cases e : lcR cond elt ds with
          | ok xs => exact fun z => nomatch z
          | exc m => exact absurd e (lcR_nx cond elt ds m)
          | stuck => exact fun z => nomatch z
        | exc m => exact fun z => nomatch z
        | stuck => exact fun z => nomatch z
      | false => simpa using lcR_nx cond elt ds n
    | exc m => exact fun z => nomatch z
    | stuck => exact fun z => nomatch z
section
variable {X : Cx} {W : WX} {ρ : Env X.K} {rs : Res (List D)} {pos p : Pos}
/-- the parts of a comprehension by judgements -/
theorem eg_lcS [C : Ctx X W] {elt tg iter : Expr} {ifs : List Expr} {scope : Scope} {own : List (Str × Nat)} {f : D → Res (Env X.K)} {cond : D → Res Bool} {elt' : D → Res D} (hi : IG X W ρ tg iter rs) (ok : BlkOk X.N X.env.scope scope own)
    (hx : ∀ d n, f d ≠ .exc n)
    (hg : ∀ (s : Shared) (H : Hp) (C : Addr) (cl : List (Str × Addr)) (fp : List Addr), GG (X.blk s H scope (compEnvC scope cl C X.env) fp) tg (own.map (·.2)) (wipeE ρ (own.map (·.2))) f)
    (ht : ∀ (s : Shared) (H : Hp) (C : Addr) (cl : List (Str × Addr)) (fp : List Addr) (d : D) (ρ' : Env X.K), f d = .ok ρ' → QG (X.blk s H scope (compEnvC scope cl C X.env) fp) W0 ρ' ifs (cond d))
    (he : ∀ (s : Shared) (H : Hp) (C : Addr) (cl : List (Str × Addr)) (fp : List Addr) (d : D) (ρ' : Env X.K), f d = .ok ρ' → EG (X.blk s H scope (compEnvC scope cl C X.env) fp) W0 ρ' .V elt (elt' d)) (hs : ∀ x, foldedSetIterable iter X.env x = pure x := by intro _; rfl) :
    ∃ p : TI × TG × TT × TE, ((PI X tg iter p.1) ∧ (∀ (s : Shared) (H : Hp) (C : Addr) (cl : List (Str × Addr)) (fp : List Addr), PG (X.blk s H scope (compEnvC scope cl C X.env) fp) tg p.2.1) ∧
      (∀ (s : Shared) (H : Hp) (C : Addr) (cl : List (Str × Addr)) (fp : List Addr), PTs (X.blk s H scope (compEnvC scope cl C X.env) fp) ifs p.2.2.1) ∧ (∀ (s : Shared) (H : Hp) (C : Addr) (cl : List (Str × Addr)) (fp : List Addr), PE (X.blk s H scope (compEnvC scope cl C X.env) fp) elt p.2.2.2)) ∧
    ∀ B H0 F H σ Q, Good B H0 F H ρ σ → Kn X W F H σ (rs.bd fun ds => (lcR (fun d => (f d).bd fun _ => cond d) elt' ds).bd lstR) (Acc X.K .O) Q → tLc p.1 p.2.1 p.2.2.1 p.2.2.2 (own.map (·.2)) σ H Q := by
  obtain ⟨ti, i1, i2⟩ := hi
  refine ⟨⟨ti, gS X.K (own.map (·.2)) (wipeE ρ (own.map (·.2))) f, fun σ H Q => ∃ d ρ', f d = .ok ρ' ∧ tQ X.K X W0 ρ' (cond d) σ H Q, fun σ H Q => ∃ d ρ', f d = .ok ρ' ∧ tS X.K X W0 ρ' .V (elt' d) σ H Q⟩, ⟨i1, fun s H c cl fp => (hg s H c cl fp).sem, fun s H c cl fp => ⟨fun pins s' σ H' Q I ⟨d, ρ', e, q⟩ => ((ht s H c cl fp d ρ' e).sem (Y := X) rfl).run pins s' σ H' Q I q⟩,
    fun s H c cl fp => ⟨fun pins s' σ H' Q I ⟨d, ρ', e, q⟩ => ((he s H c cl fp d ρ' e).sem (Y := X) rfl).run pins s' σ H' Q I q⟩⟩, fun B H0 F H σ Q gd k => i2 B H0 F H σ _ gd (Kn.bd k acc_base fun ds J F1 H1 _ e1 s1 q1 k1 => ?_)⟩
  intro L hL
  have hLF : F1 L = none := Same.free s1 hL
  generalize hv : own.map (·.2) = vs at *
  have gw := (gd.go e1 s1).wipe vs
  -- what is made so far, what is left
  have whole : ∃ out, (lcR (fun d => (f d).bd fun _ => cond d) elt' ds).bd lstR = .ok (.list out) ∧ lcR (fun d => (f d).bd fun _ => cond d) elt' ds = .ok out ∧ out.length ≤ sizeLine := by
    cases c : lcR (fun d => (f d).bd fun _ => cond d) elt' ds with
    | stuck => exact absurd (by rw [c]; rfl) k1.ns
    | exc n => exact absurd c (lcR_nx _ _ _ n)
    | ok out =>
      cases c2 : fits out.length with
      | false => exact absurd (by rw [c]; simp [lstR, c2]) k1.ns
      | true => exact ⟨out, by simp [lstR, c2], rfl, fits_le c2⟩
  obtain ⟨out, w1, w2, w3⟩ := whole
  have k2 := k1.of_eq w1
  refine ⟨fun i m H2 => m = ds.length - i ∧ i ≤ ds.length ∧ ∃ F2 acc done, Ex F1 H1 F2 H2 ∧ Same F2 H2 ∧ F2 L = none ∧ H2 L = some (.lst acc) ∧ DpAll X.K F2 acc done ∧ ∃ more, lcR (fun d => (f d).bd fun _ => cond d) elt' (ds.drop i) = .ok more ∧ out = done ++ more, ⟨ds.length, by simp, Nat.zero_le _, F1, [], [], Ex.newO hL, Same.updO s1 hLF, hLF, upd_same, .nil, out, w2, rfl⟩, ?_⟩
  rintro i m H2 ⟨rfl, hi, F2, acc, done, x2, s2, hF, hH, hd, more, hm, ho⟩
  by_cases hlt : i < ds.length
  · have dget : ds[i]? = some ds[i] := List.getElem?_eq_getElem hlt
    obtain ⟨stop, go⟩ := q1 F2 H2 x2 s2
    obtain ⟨go1, go2⟩ := go i _ dget
    refine .inr ⟨go1, fun H2 => i + 1 ≤ ds.length ∧ ∃ F2 acc done, Ex F1 H1 F2 H2 ∧ Same F2 H2 ∧ F2 L = none ∧ H2 L = some (.lst acc) ∧ DpAll X.K F2 acc done ∧ ∃ more, lcR (fun d => (f d).bd fun _ => cond d) elt' (ds.drop (i + 1)) = .ok more ∧ out = done ++ more, fun H' q => ⟨ds.length - (i + 1), by omega, rfl, q⟩, fun x H3 y => ?_⟩
    obtain ⟨F3, x3, s3, d3⟩ := go2 x H3 y
    have ex3 : Ex F1 H1 F3 H3 := x2.trans x3
    have hF3 : F3 L = none := by rw [x3.eq L (by rw [hH]; exact fun z => nomatch z)]; exact hF
    have hH3 : H3 L = some (.lst acc) := x3.hh _ _ hH
    have hd3 := DpAll.mono x3.ff _ _ hd
    have hdrop : ds.drop i = ds[i] :: ds.drop (i + 1) := List.drop_eq_getElem_cons hlt
    rw [hdrop] at hm
    generalize hdi : ds[i] = d at *
    unfold lcR at hm
    obtain ⟨b, hb⟩ : ∃ b, ((f d).bd fun _ => cond d) = .ok b := nx_ns fun z => by rw [z] at hm; cases hm
    rw [hb] at hm
    obtain ⟨ρ', hf⟩ : ∃ ρ', f d = .ok ρ' := by
      cases e : f d with
      | ok ρ' => exact ⟨ρ', rfl⟩
      | exc n => exact absurd e (hx d n)
      | stuck => rw [e] at hb; cases hb
    have hcb : cond d = .ok b := by rw [hf] at hb; exact hb
    refine ⟨B, H0, F3, d, gw.go ex3 s3, d3, (fun z => by rw [hf] at z; cases z), fun ρ2 σ2 hρ gd2 kp => ⟨Eq.trans kp (wipe_wipe vs), d, ρ', hf, B, H0, F3, ?_, ?_⟩⟩
    · rw [hf] at hρ; cases hρ; exact gd2
    rw [hcb]
    refine ⟨(fun z => nomatch z), fun a ea c F4 H4 x4 s4 q4 => ?_, fun _ z => nomatch z⟩
    cases ea
    cases q4
    have hF4 : F4 L = none := by rw [x4.eq L (by rw [hH3]; exact fun z => nomatch z)]; exact hF3
    have hH4 : H4 L = some (.lst acc) := x4.hh _ _ hH3
    have hd4 := DpAll.mono x4.ff _ _ hd3
    rw [hf] at hρ
    cases hρ
    cases b with
    | false =>
      rw [if_neg Bool.false_ne_true]
      simp only [nx_ok, bd_ok, Bool.false_eq_true, if_false] at hm
      exact ⟨hlt, F4, acc, done, ex3.trans x4, s4, hF4, hH4, hd4, more, hm, ho⟩
    | true =>
      rw [if_pos rfl]
      simp only [nx_ok, bd_ok, if_true] at hm
      obtain ⟨y, hy⟩ : ∃ y, elt' d = .ok y := nx_ns fun z => by rw [z] at hm; cases hm
      rw [hy] at hm
      refine ⟨d, ρ', hf, B, H0, F4, gd2.go x4 s4, ?_⟩
      rw [hy]
      refine ⟨(fun z => nomatch z), fun a ea v F5 H5 x5 s5 q5 => ?_, fun _ z => nomatch z⟩
      cases ea
      have hF5 : F5 L = none := by rw [x5.eq L (by rw [hH4]; exact fun z => nomatch z)]; exact hF4
      have hH5 : H5 L = some (.lst acc) := x5.hh _ _ hH4
      have hd5 := DpAll.mono x5.ff _ _ hd4
      cases hr : lcR (fun d => (f d).bd fun _ => cond d) elt' (ds.drop (i + 1)) with
      | stuck => rw [hr] at hm; cases hm
      | exc n => exact absurd hr (lcR_nx _ _ _ n)
      | ok more' =>
        rw [hr] at hm
        cases hm
        have ex5 := (ex3.trans x4).trans x5
        refine ⟨acc, hH5, ?_, hlt, F5, acc ++ [v], done ++ [y], ⟨ex5.ff, fun a o ha => ?_, ex5.eq⟩, Same.updO s5 hF5, hF5, upd_same, DpAll.append hd5 (.cons q5 .nil), more', rfl, by rw [ho]; simp⟩
        · have := DpAll.length hd
          have h2 := congrArg List.length ho
          rw [List.length_append, List.length_cons] at h2
          omega
        · rw [upd_ne (fun z => by rw [z, hL] at ha; cases ha)]
          exact ex5.hh a o ha
  · have e : i = ds.length := by omega
    subst e
    refine .inl ⟨(q1 F2 H2 x2 s2).1, ?_⟩
    rw [List.drop_length] at hm
    cases hm
    rw [List.append_nil] at ho
    subst ho
    refine k2.ok _ rfl _ F2 H2 x2 s2 ⟨[L], .inl ⟨_, rfl, L, acc, rfl, rfl, hH, hd⟩, fun a ha => ?_⟩
    rw [List.mem_singleton.mp ha]
    exact ⟨hL, hF⟩
theorem eg_lc [C : Ctx X W] {elt tg iter : Expr} {ifs : List Expr} {scope : Scope} {own : List (Str × Nat)} {f : D → Res (Env X.K)} {cond : D → Res Bool} {elt' : D → Res D} (hi : IG X W ρ tg iter rs) (ok : BlkOk X.N X.env.scope scope own)
    (hx : ∀ d n, f d ≠ .exc n)
    (hg : ∀ (s : Shared) (H : Hp) (C : Addr) (cl : List (Str × Addr)) (fp : List Addr), GG (X.blk s H scope (compEnvC scope cl C X.env) fp) tg (own.map (·.2)) (wipeE ρ (own.map (·.2))) f)
    (ht : ∀ (s : Shared) (H : Hp) (C : Addr) (cl : List (Str × Addr)) (fp : List Addr) (d : D) (ρ' : Env X.K), f d = .ok ρ' → QG (X.blk s H scope (compEnvC scope cl C X.env) fp) W0 ρ' ifs (cond d))
    (he : ∀ (s : Shared) (H : Hp) (C : Addr) (cl : List (Str × Addr)) (fp : List Addr) (d : D) (ρ' : Env X.K), f d = .ok ρ' → EG (X.blk s H scope (compEnvC scope cl C X.env) fp) W0 ρ' .V elt (elt' d)) (hs : ∀ x, foldedSetIterable iter X.env x = pure x := by intro _; rfl) :
    EG X W ρ .O (.ListComp elt [⟨tg, iter, ifs, 0⟩] scope pos) (rs.bd fun ds => (lcR (fun d => (f d).bd fun _ => cond d) elt' ds).bd lstR) := by
  obtain ⟨t, h1, h2⟩ := eg_lcS hi ok hx hg ht he hs
  exact ⟨_, pe_lc C.calm C.nd h1.1 ok h1.2.1 h1.2.2.1 h1.2.2.2 hs, h2⟩
end
/-! ### defs -/
/-- the promise of a def that reads plain data: n arguments; the answer stands as rk says -/
def spD (K : PySem.W.Frag) (mg : Str → Option Value) (n : Nat) (rk : Md) (f : List D → Res D) : Sp := fun vs H Q E => ∃ F ds, Same F H ∧ DpAll K F vs ds ∧ vs.length = n ∧ f ds ≠ .stuck ∧
  (∀ d, f ds = .ok d → ∀ v F' H', Ex F H F' H' → Same F' H' → Acc K rk H F' H' d v → Q v H') ∧ ∀ x, f ds = .exc x → ∀ H' C, mg x = some C → Same H H' → E C none H'
section
variable {X : Cx} {W : WX} {ρ : Env X.K} {rs : Res (List D)} {pos p : Pos} {k n : Nat} {f : Addr} {fd : FuncData} {ps : List Str} {x : Str} {e : Expr} {es : List Expr} {rk : Md} {g : List D → Res D}
/-- a def that stands and keeps its promise -/
structure Def (P : Program) (w : World) (K : PySem.W.Frag) (mg : Str → Option Value) (base : Heap) (x : Str) (k n : Nat) (rk : Md) (g : List D → Res D) : Prop where
  ex : ∃ f fd ps, FnOk P w K mg base (L2N.CX P w) k f fd ps (spD K mg n rk g) ∧ mg x = some (.ref f) ∧ PySem.W.keepIn K (.ref f) = true ∧ Binds K fd ps []
theorem eg_call [C : Ctx X W] (D : Def X.prog X.w X.K X.mg X.base x k n rk g) (hr : Room k X.A)
    (ha : AG X W ρ (e :: es) rs) (hl : (e :: es).length = n := by rfl) (hg : Gl X x := by rfl) (hdb : (x == ("__debug__" : Str)) = false := by decide) (he : starEach (e :: es) X.env = (false, eval e X.env) :: starEach es X.env := by rfl) (hpl : (backTo pos (starEach es X.env)).any (·.1) = false := by rfl) :
    EG X W ρ rk (.Call (.Name x p) (e :: es) [] pos) (rs.bd g) := by
  obtain ⟨f, fd, ps, F, hm, hk, hb⟩ := D
  obtain ⟨al, ta, a1, a2⟩ := ha
  refine ⟨_, pe_callS F hr hg hm hk hb (fun σ => L2N.passAt C.tk σ) a1 hdb he hpl, fun B H0 F0 H σ Q gd kn => a2 B H0 F0 H σ _ gd (Kn.bd kn acc_base fun ds vs F1 H1 er e1 s1 q1 k1 => ?_)⟩
  exact ⟨F1, ds, s1, q1, by rw [DpAll.length q1]; exact (al ds er).trans hl, k1.ns, fun d ed v F' H' x s a => k1.ok d ed v F' H' x s a, fun y ey H' C' c s => k1.xc y ey H' C' c s⟩
end
/-! ### comprehensions by their target -/
theorem lcR_congr {c c' : D → Res Bool} {e e' : D → Res D} : ∀ ds, (∀ d ∈ ds, c d = c' d) → (∀ d ∈ ds, e d = e' d) → lcR c e ds = lcR c' e' ds
  | [], _, _ => rfl
  | d :: ds, h, h' => by
    unfold lcR
    rw [h d (by simp), h' d (by simp), lcR_congr ds (fun x hx => h x (by simp [hx])) (fun x hx => h' x (by simp [hx]))]
theorem blk_nd {X : Cx} (C : X.N.Nodup) {s : Shared} {H : Hp} {sc : Scope} {e : PySem.Env} {fp : List Addr} : (X.blk s H sc e fp).N.Nodup := C
theorem takesN0 {X : Cx} : L2N.Takes X W0 := fun _ _ x => by
  obtain ⟨_, _, _, _, _, _, _, _, _, _, _, _, _, _, _, _, z⟩ := x
  exact z.elim
instance blk_ctx {X : Cx} {W : WX} [C : Ctx X W] {s : Shared} {H : Hp} {sc : Scope} {e : PySem.Env} {fp : List Addr} : Ctx (X.blk s H sc e fp) W0 := { tk := takesN0, po := .never, nd := C.nd, hu := C.hu, calm := C.calm }
end DL
/-! Rules: statements, blocks, loops; a def by its body. -/
namespace DL
open PySem L2
inductive Fin (K : PySem.W.Frag) where
  | nx (ρ : Env K) | rt (d : D)
/-- what is wanted behind a block -/
def FinOk {K : PySem.W.Frag} (rk : Md) (B H0 : Hp) (D : Ends) : Fin K → Prop
  | .nx ρ' => ∀ F' H' σ', Good B H0 F' H' ρ' σ' → D.nx σ' H'
  | .rt d => ∀ v F' H', Ex B H0 F' H' → Same F' H' → Acc K rk H0 F' H' d v → D.rt v H'
structure KS {T : Type} (X : Cx) (W : WX) (rk : Md) (B H0 : Hp) (r : Res T) (fin : T → Fin X.K) (D : Ends) : Prop where
  ns : r ≠ .stuck
  ok : ∀ a, r = .ok a → FinOk rk B H0 D (fin a)
  xc : ∀ n, r = .exc n → ∀ H' C σ', X.mg n = some C → Same H0 H' → W C none σ' H'
structure SV {T : Type} (X : Cx) (W : WX) (rk : Md) (ρ : Env X.K) (ss : List Stmt) (r : Res T) (fin : T → Fin X.K) : Prop where
  ex : ∃ t, PSs X ss t ∧ ∀ B H0 F H σ D, Good B H0 F H ρ σ → KS X W rk B H0 r fin D → t D σ H
structure S1 {S : Type} (X : Cx) (W : WX) (rk : Md) (ρ : Env X.K) (st : Stmt) (r : Res S) (fin : S → Fin X.K) : Prop where
  ex : ∃ t, PS X st t ∧ ∀ B H0 F H σ D, Good B H0 F H ρ σ → KS X W rk B H0 r fin D → t D σ H
section
variable {X : Cx} {W : WX} {rk m : Md} {ρ : Env X.K} {S T : Type} {st : Stmt} {ss rest : List Stmt} {e c : Expr} {r ra : Res D} {rc : Res Bool} {fin : T → Fin X.K} {pos : Pos}
theorem KS.of_eq {B H0 : Hp} {r r' : Res T} {D : Ends} (h : KS X W rk B H0 r fin D) (e : r = r') : KS X W rk B H0 r' fin D := e ▸ h
theorem KS.imp {B H0 : Hp} {r : Res T} {D D' : Ends} (h : KS X W rk B H0 r fin D) (hn : ∀ σ H, D.nx σ H → D'.nx σ H) (hr : ∀ v H, D.rt v H → D'.rt v H) : KS X W rk B H0 r fin D' :=
  ⟨h.ns, fun a ea => by
    have q := h.ok a ea
    revert q
    cases fin a with
    | nx ρ' => exact fun q F' H' σ' g => hn _ _ (q F' H' σ' g)
    | rt d => exact fun q v F' H' x s a => hr _ _ (q v F' H' x s a), h.xc⟩
/-- behind an expression -/
theorem KS.kn {α β : Type} {B H0 F H : Hp} {σ : St} {r : Res α} {f : α → Res T} {A : Hp → Hp → Hp → α → β → Prop} {D : Ends} {Q : β → Hp → Prop} (g : Good B H0 F H ρ σ) (h : KS X W rk B H0 (r.bd f) fin D)
    (hk : ∀ a b F1 H1, r = .ok a → Ex F H F1 H1 → Same F1 H1 → A H F1 H1 a b → Good B H0 F1 H1 ρ σ → KS X W rk B H0 (f a) fin D → Q b H1) : Kn X W F H σ r A Q :=
  ⟨fun z => h.ns (by rw [z]; rfl), fun a ea b F1 H1 x s q => hk a b F1 H1 ea x s q (g.go x s) (h.of_eq (by rw [ea]; rfl)), fun n en H' C c s => h.xc n (by rw [en]; rfl) H' C σ c (g.ex.hh.trans s)⟩
/-! ### blocks -/
theorem sv_nil {t : T} (h : fin t = .nx ρ) : SV X W rk ρ [] (.ok t) fin := ⟨_, pss_nil, fun B H0 F H σ D g k => by
  have q := k.ok t rfl
  rw [h] at q
  exact q F H σ g⟩
theorem sv_cons {r1 : Res S} {out : S → Env X.K} {k : S → Res T} (h : S1 X W rk ρ st r1 (fun s => .nx (out s))) (hr : ∀ s, SV X W rk (out s) rest (k s) fin) : SV X W rk ρ (st :: rest) (r1.bd k) fin := by
  obtain ⟨t, h1, h2⟩ := h
  have hu : PSs X rest (fun D σ H => ∃ s B H0 F, Good B H0 F H (out s) σ ∧ KS X W rk B H0 (k s) fin D) := ⟨fun pins s' σ H D I ⟨s, B, H0, F, g, q⟩ => by
    obtain ⟨u, u1, u2⟩ := hr s
    exact u1.run pins s' σ H D I (u2 B H0 F H σ D g q)⟩
  refine ⟨_, pss_cons h1 hu, fun B H0 F H σ D g q => h2 B H0 F H σ _ g ⟨fun z => q.ns (by rw [z]; rfl), fun s es => fun F' H' σ' g' => ⟨s, B, H0, F', g', q.of_eq (by rw [es]; rfl)⟩, fun n en => q.xc n (by rw [en]; rfl)⟩⟩
theorem sv_one {r1 : Res T} (h : S1 X W rk ρ st r1 fin) : SV X W rk ρ [st] r1 fin := by
  obtain ⟨t, h1, h2⟩ := h
  exact ⟨t, pss_one h1, h2⟩
/-- a block that may return ahead of the rest -/
theorem sv_consC {r1 : Res (Ctl S)} {out : S → Env X.K} {k : S → Res T} {mk : D → T} (h : S1 X W rk ρ st r1 (fun s => match s with | .next s => .nx (out s) | .ret d => .rt d)) (hm : ∀ d, fin (mk d) = .rt d) (hr : ∀ s, SV X W rk (out s) rest (k s) fin) : SV X W rk ρ (st :: rest) (r1.thenC mk k) fin := by
  obtain ⟨t, h1, h2⟩ := h
  have hu : PSs X rest (fun D σ H => ∃ s B H0 F, Good B H0 F H (out s) σ ∧ KS X W rk B H0 (k s) fin D) := ⟨fun pins s' σ H D I ⟨s, B, H0, F, g, q⟩ => by
    obtain ⟨u, u1, u2⟩ := hr s
    exact u1.run pins s' σ H D I (u2 B H0 F H σ D g q)⟩
  refine ⟨_, pss_cons h1 hu, fun B H0 F H σ D g q => h2 B H0 F H σ _ g ⟨fun z => q.ns (by rw [z]; rfl), fun a ea => ?_, fun n en => q.xc n (by rw [en]; rfl)⟩⟩
  cases a with
  | next s => exact fun F' H' σ' g' => ⟨s, B, H0, F', g', q.of_eq (by rw [ea]; rfl)⟩
  | ret d =>
    have z := q.ok (mk d) (by rw [ea]; rfl)
    rw [hm] at z
    exact z
theorem sv_ret {mk : D → T} (he : EG X W ρ rk e r) (hm : ∀ d, fin (mk d) = .rt d) : SV X W rk ρ [.Return (some e) pos] (r.bd fun d => .ok (mk d)) fin := by
  obtain ⟨t, h1, h2⟩ := he
  refine ⟨_, pss_one (ps_ret h1), fun B H0 F H σ D g q => h2 B H0 F H σ _ g (KS.kn g q fun d v F1 H1 _ x s a g' q' => ?_)⟩
  have z := q'.ok (mk d) rfl
  rw [hm] at z
  exact z v F1 H1 g'.ex s (a.base g.ex.hh)
theorem sv_retD (he : EG X W ρ rk e r) : SV X W rk ρ [.Return (some e) pos] r Fin.rt := by
  have h := sv_ret (fin := Fin.rt) (mk := id) (pos := pos) he fun _ => rfl
  simpa using h
/-- if c: (a block that returns); the rest -/
theorem sv_ifRet {blk : List Stmt} {mk : D → T} {r2 : Res T} (hc : TG' X W ρ c rc) (hb : SV X W rk ρ blk ra Fin.rt) (hm : ∀ d, fin (mk d) = .rt d) (hr : SV X W rk ρ rest r2 fin) : SV X W rk ρ (.If c blk [] pos :: rest) (ifR rc (ra.bd fun d => .ok (mk d)) r2) fin := by
  obtain ⟨tc, c1, c2⟩ := hc
  obtain ⟨tb, b1, b2⟩ := hb
  obtain ⟨tr, r1, r2'⟩ := hr
  have hu : PSs X rest (fun D σ H => ∃ B H0 F, Good B H0 F H ρ σ ∧ KS X W rk B H0 r2 fin D) := ⟨fun pins s' σ H D I ⟨B, H0, F, g, q⟩ => r1.run pins s' σ H D I (r2' B H0 F H σ D g q)⟩
  refine ⟨_, pss_cons (ps_if c1 b1 pss_nil) hu, fun B H0 F H σ D g q => c2 B H0 F H σ _ g (KS.kn g q fun k b F1 H1 _ x s a g' q' => ?_)⟩
  cases a
  cases k with
  | true =>
    rw [if_pos rfl]
    have q2 := q'.of_eq (if_pos rfl)
    refine b2 B H0 F1 H1 σ _ g' ⟨fun z => q2.ns (by rw [z]; rfl), fun d ed => ?_, fun n en => q2.xc n (by rw [en]; rfl)⟩
    have z := q2.ok (mk d) (by rw [ed]; rfl)
    rw [hm] at z
    exact z
  | false =>
    rw [if_neg Bool.false_ne_true]
    exact ⟨B, H0, F1, g', q'.of_eq (if_neg Bool.false_ne_true)⟩
theorem sv_ifRetD {blk : List Stmt} {r2 : Res D} (hc : TG' X W ρ c rc) (hb : SV X W rk ρ blk ra Fin.rt) (hr : SV X W rk ρ rest r2 Fin.rt) : SV X W rk ρ (.If c blk [] pos :: rest) (ifR rc ra r2) Fin.rt := by
  have h := sv_ifRet (fin := Fin.rt) (mk := id) (pos := pos) hc hb (fun _ => rfl) hr
  simpa using h
/-- if c: a else: b, at the end of a block -/
theorem s1_if {a b : List Stmt} {r1 r2 : Res T} (hc : TG' X W ρ c rc) (ha : SV X W rk ρ a r1 fin) (hb : SV X W rk ρ b r2 fin) : S1 X W rk ρ (.If c a b pos) (ifR rc r1 r2) fin := by
  obtain ⟨tc, c1, c2⟩ := hc
  obtain ⟨ta, a1, a2⟩ := ha
  obtain ⟨tb, b1, b2⟩ := hb
  refine ⟨_, ps_if c1 a1 b1, fun B H0 F H σ D g q => c2 B H0 F H σ _ g (KS.kn g q fun k b F1 H1 _ x s a g' q' => ?_)⟩
  cases a
  cases k with
  | true => rw [if_pos rfl]; exact a2 B H0 F1 H1 σ D g' (q'.of_eq (if_pos rfl))
  | false => rw [if_neg Bool.false_ne_true]; exact b2 B H0 F1 H1 σ D g' (q'.of_eq (if_neg Bool.false_ne_true))
/-! ### less is known -/
/-- slots may be frozen or forgotten -/
def Wk {K : PySem.W.Frag} (ρ ρ' : Env K) : Prop := ∀ B H0 F H σ, Good B H0 F H ρ σ → ∃ F', Same F F' ∧ Good B H0 F' H ρ' σ
theorem Wk.refl {K : PySem.W.Frag} (ρ : Env K) : Wk ρ ρ := fun B H0 F H σ g => ⟨F, Same.refl _, g⟩
theorem Wk.trans {K : PySem.W.Frag} {a b c : Env K} (h : Wk a b) (h' : Wk b c) : Wk a c := fun B H0 F H σ g => by
  obtain ⟨F1, s1, g1⟩ := h B H0 F H σ g
  obtain ⟨F2, s2, g2⟩ := h' B H0 F1 H σ g1
  exact ⟨F2, s1.trans s2, g2⟩
theorem sv_wk {ρ' : Env X.K} {r : Res T} (w : Wk ρ ρ') (h : SV X W rk ρ' ss r fin) : SV X W rk ρ ss r fin := by
  obtain ⟨t, h1, h2⟩ := h
  refine ⟨t, h1, fun B H0 F H σ D g q => ?_⟩
  obtain ⟨F', _, g'⟩ := w B H0 F H σ g
  exact h2 B H0 F' H σ D g' q
theorem set_self {α : Type} : ∀ {l : List α} {i : Nat} {a : α}, l[i]? = some a → l.set i a = l
  | _ :: _, 0, _, h => by simp at h; subst h; rfl
  | x :: l, i + 1, a, h => by simp at h; simp [set_self h]
  | [], _, _, h => by simp at h
/-- a list of one's own is frozen -/
theorem wk_fz {K : PySem.W.Frag} {ρ : Env K} (i : Nat) {d : D} (h : ρ[i]? = some (cRes d)) : Wk ρ (ρ.set i (cVal d)) := fun B H0 F H σ ⟨e, f, ass, h1, h2, h3⟩ => by
  obtain ⟨v, as, g1, g2, y, g3, g4⟩ := h1.get h
  subst g3
  have sub : ∀ a ∈ as, a ∈ ass.flatten := fun a ha => List.mem_flatten.mpr ⟨as, List.mem_of_getElem? g2, ha⟩
  have hn : ∀ a ∈ as, F a = none := fun a ha => (h3 a (sub a ha)).1
  have out : ∀ a ∈ (ass.set i []).flatten, a ∈ ass.flatten ∧ a ∉ as := fun a ha => by
    rcases mem_flatten_set ha with z | z
    · exact ⟨z, fun q => not_in_set h2 g2 q (List.not_mem_nil) ha⟩
    · cases z
  refine ⟨fz as F H, fz_ff hn, ⟨e.ff.trans (fz_ff hn), e.hh, fun a ha => ?_⟩, fz_fh f, ass.set i [], ?_, nodup_flatten_set' h2 g2 List.nodup_nil (fun _ z => nomatch z), fun a ha => ?_⟩
  · rw [fz_out fun z => ha (h3 a (sub a z)).2, e.eq a ha]
  · have s2 : Slots (fz as F H) H ρ σ ass := h1.mono (fz_ff hn) fun _ _ => rfl
    have s3 := Slots.set (i := i) (c := cVal d) (v := some y) (as := []) s2 ⟨rfl, y, rfl, g4.fz hn⟩
    rwa [set_self g1] at s3
  · obtain ⟨z1, z2⟩ := out a ha
    rw [fz_out z2]
    exact h3 a z1
/-- a slot is forgotten -/
theorem wk_any {K : PySem.W.Frag} {ρ : Env K} (i : Nat) : Wk ρ (ρ.set i cAny) := fun B H0 F H σ ⟨e, f, ass, h1, h2, h3⟩ => by
  by_cases hi : i < ρ.length
  · obtain ⟨v, as, g1, g2, _⟩ := h1.get (List.getElem?_eq_getElem hi)
    have s3 := Slots.set (i := i) (c := (cAny : Cell K)) (v := v) (as := []) h1 rfl
    rw [set_self g1] at s3
    refine ⟨F, Same.refl _, e, f, ass.set i [], s3, nodup_flatten_set' h2 g2 List.nodup_nil (fun _ z => nomatch z), fun a ha => ?_⟩
    rcases mem_flatten_set ha with z | z
    · exact h3 a z
    · cases z
  · rw [List.set_eq_of_length_le (Nat.le_of_not_lt hi)]
    exact ⟨F, Same.refl _, e, f, ass, h1, h2, h3⟩
/-- a value that is no list -/
theorem wk_vr {K : PySem.W.Frag} {ρ : Env K} (i : Nat) {d : D} (h : ρ[i]? = some (cVal d)) (hl : isListV d = false) : Wk ρ (ρ.set i (cRes d)) := fun B H0 F H σ ⟨e, f, ass, h1, h2, h3⟩ => by
  obtain ⟨v, as, g1, g2, g3, y, g4, g5⟩ := h1.get h
  subst g4; subst g3
  have s3 := Slots.set (i := i) (c := (cRes d : Cell K)) (v := some y) (as := []) h1 ⟨y, rfl, .inr ⟨hl, rfl, g5⟩⟩
  rw [set_self g1, set_self g2] at s3
  exact ⟨F, Same.refl _, e, f, ass, s3, h2, h3⟩
/-! ### stores -/
theorem Good.setO {K : PySem.W.Frag} {B H0 F H F' H' : Hp} {ρ : Env K} {σ : St} {d : D} {v : V} {i : Nat} (g : Good B H0 F H ρ σ) (x : Ex F H F' H') (s : Same F' H') (a : Acc K .O H F' H' d v) : Good B H0 F' H' (ρ.set i (cRes d)) (σ.set i (some v)) := by
  obtain ⟨as, r, hn⟩ := a
  have nd : as.Nodup := by
    rcases r with ⟨_, _, _, _, _, rfl, _⟩ | ⟨_, rfl, _⟩
    · simp
    · simp
  obtain ⟨e, f, ass, h1, h2, h3⟩ := id g
  have th := h1.there
  have h1' : Slots F' H' ρ σ ass := h1.mono x.ff fun a ha => Same.ne x.hh (th a ha)
  refine ⟨e.trans x, s, ass.set i as, h1'.set (c := cRes d) ⟨v, rfl, r⟩, nodup_flatten_set h2 nd fun b hb hm => th b hm (hn b hb).1, fun b hb => ?_⟩
  rcases mem_flatten_set hb with z | z
  · rw [x.eq b (th b z)]; exact h3 b z
  · exact ⟨(hn b z).2, Same.free e.hh (hn b z).1⟩
/-- x = e -/
theorem s1_set [C : CtxB X W] {x : Str} {pos' : Pos} (i : Nat) (he : EG X W ρ .V e r) (hi : X.N[i]? = some x := by rfl) (hx : Loc X.env.scope x := by first | exact Or.inl rfl | exact Or.inr rfl) (hs : swapsWith e (some (.Name x pos')) pos.line X.env = pure false := by rfl) (hf : X.fn x = true ∨ X.env.scope.names.lookup x = some .local := by first | exact .inl rfl | exact .inr rfl) :
    S1 X W rk ρ (.Assign [.Name x pos'] e pos) r (fun d => .nx (ρ.set i (cVal d))) := by
  obtain ⟨t, h1, h2⟩ := he
  refine ⟨_, ps_set C.nd hi hx h1 hs hf, fun B H0 F H σ D g q => h2 B H0 F H σ _ g ⟨q.ns, fun d ed v F' H' x s a => ?_, fun n en H' C c s => q.xc n en H' C σ c (g.ex.hh.trans s)⟩⟩
  exact q.ok d ed F' H' _ ((g.go x s).setV a)
theorem s1_setO [C : CtxB X W] {x : Str} {pos' : Pos} (i : Nat) (he : EG X W ρ .O e r) (hi : X.N[i]? = some x := by rfl) (hx : Loc X.env.scope x := by first | exact Or.inl rfl | exact Or.inr rfl) (hs : swapsWith e (some (.Name x pos')) pos.line X.env = pure false := by rfl) (hf : X.fn x = true ∨ X.env.scope.names.lookup x = some .local := by first | exact .inl rfl | exact .inr rfl) :
    S1 X W rk ρ (.Assign [.Name x pos'] e pos) r (fun d => .nx (ρ.set i (cRes d))) := by
  obtain ⟨t, h1, h2⟩ := he
  refine ⟨_, ps_set C.nd hi hx h1 hs hf, fun B H0 F H σ D g q => h2 B H0 F H σ _ g ⟨q.ns, fun d ed v F' H' x s a => ?_, fun n en H' C c s => q.xc n en H' C σ c (g.ex.hh.trans s)⟩⟩
  exact q.ok d ed F' H' _ (g.setO x s a)
/-- x += e (ints) -/
theorem pip_add : PIp X .Add (rI0 fun i j => .int (i + j)) := by
  intro pins s σ H x y v u Q I rx ry h
  exact iop_add pins s σ H x y v u Q I rx ry h
def augI (g : Int → Int → Int) : D → D → Res D
  | .int i, .int j => .ok (.int (g i j))
  | _, _ => .stuck
theorem s1_aug [C : CtxB X W] {x : Str} {pos' : Pos} {d0 : D} (i : Nat) (hρ : ρ[i]? = some (cVal d0)) (he : EG X W ρ .T e r) (hi : X.N[i]? = some x := by rfl) (hx : Loc X.env.scope x := by first | exact Or.inl rfl | exact Or.inr rfl) (hf : X.fn x = true ∨ X.env.scope.names.lookup x = some .local := by first | exact .inl rfl | exact .inr rfl) :
    S1 X W rk ρ (.AugAssign (.Name x pos') .Add e pos) (r.bd fun y => augI (· + ·) d0 y) (fun d => .nx (ρ.set i (cVal d))) := by
  obtain ⟨t, h1, h2⟩ := he
  refine ⟨_, ps_aug C.nd hi hx h1 pip_add hf, fun B H0 F H σ D g q => ?_⟩
  obtain ⟨_, fh, ass, sl, _⟩ := id g
  obtain ⟨v, as, g1, _, _, y, g3, g4⟩ := sl.get hρ
  subst g3
  refine ⟨y, g1, h2 B H0 F H σ _ g (KS.kn g q fun d z F1 H1 _ x s a g' q' => ?_)⟩
  cases d0 <;> first | exact absurd rfl q'.ns | skip
  cases d <;> first | exact absurd rfl q'.ns | skip
  cases g4
  cases tp_int a
  exact ⟨_, _, rfl, rfl, q'.ok _ rfl F1 H1 _ (g'.setV (.int _))⟩
/-- x = [.. for ..] on one line -/
theorem s1_setLc [C : Ctx X W] {elt tg iter : Expr} {ifs : List Expr} {scope : Scope} {own : List (Str × Nat)} {f : D → Res (Env X.K)} {cond : D → Res Bool} {elt' : D → Res D} {rs : Res (List D)} {y : Str} {py pos spos : Pos} (i : Nat) (hy : X.N[i]? = some y) (hyl : X.env.scope.names.lookup y = some .local)
    (hsw : swapsWith (.ListComp elt [⟨tg, iter, ifs, 0⟩] scope pos) (some (.Name y py)) spos.line X.env = pure true) (hi : IG X W ρ tg iter rs) (ok : BlkOk X.N X.env.scope scope own)
    (hx : ∀ d n, f d ≠ .exc n)
    (hg : ∀ (s : Shared) (H : Hp) (C : Addr) (cl : List (Str × Addr)) (fp : List Addr), GG (X.blk s H scope (compEnvC scope cl C X.env) fp) tg (own.map (·.2)) (wipeE ρ (own.map (·.2))) f)
    (ht : ∀ (s : Shared) (H : Hp) (C : Addr) (cl : List (Str × Addr)) (fp : List Addr) (d : D) (ρ' : Env X.K), f d = .ok ρ' → QG (X.blk s H scope (compEnvC scope cl C X.env) fp) W0 ρ' ifs (cond d))
    (he : ∀ (s : Shared) (H : Hp) (C : Addr) (cl : List (Str × Addr)) (fp : List Addr) (d : D) (ρ' : Env X.K), f d = .ok ρ' → EG (X.blk s H scope (compEnvC scope cl C X.env) fp) W0 ρ' .V elt (elt' d)) (hs : ∀ x, foldedSetIterable iter X.env x = pure x := by intro _; rfl) :
    S1 X W rk ρ (.Assign [.Name y py] (.ListComp elt [⟨tg, iter, ifs, 0⟩] scope pos) spos) (rs.bd fun ds => (lcR (fun d => (f d).bd fun _ => cond d) elt' ds).bd lstR) (fun d => .nx (ρ.set i (cRes d))) := by
  obtain ⟨t, h1, h2⟩ := eg_lcS hi ok hx hg ht he hs
  refine ⟨_, ps_setLc C.calm C.nd hy hyl hsw h1.1 ok h1.2.1 h1.2.2.1 h1.2.2.2 hs, fun B H0 F H σ D g q => h2 B H0 F H σ _ g ⟨q.ns, fun d ed v F' H' x s a => ?_, fun n en H' C c s => q.xc n en H' C σ c (g.ex.hh.trans s)⟩⟩
  exact q.ok d ed F' H' _ (g.setO x s a)
end
end DL
/-! Rules: changes of a list of one's own, loops, a def by its body. -/
namespace DL
open PySem L2
/-- what slot i holds, where it owns a list -/
theorem ok_ns {α : Type} (a : α) : Res.ok a ≠ .stuck := fun z => nomatch z
theorem forC_cons {S : Type} (body : D → S → Res (Ctl S)) (d : D) (ds : List D) (s : S) : forC body (d :: ds) s = (body d s).bd fun | .next s' => forC body ds s' | .ret r => .ok (.ret r) := rfl
theorem Good.own {K : PySem.W.Frag} {B H0 F H : Hp} {ρ : Env K} {σ : St} {i : Nat} {ds : List D} (g : Good B H0 F H ρ σ) (h : ρ[i]? = some (cRes (.list ds))) :
    ∃ a xs, σ[i]? = some (some (.ref a)) ∧ H a = some (.lst xs) ∧ F a = none ∧ DpAll K F xs ds ∧
      ∀ ys es, DpAll K F ys es → Good B H0 F (upd H a (.lst ys)) (ρ.set i (cRes (.list es))) σ := by
  obtain ⟨e, f, ass, h1, h2, h3⟩ := g
  obtain ⟨v, as, g1, g2, y, g3, g4⟩ := h1.get h
  subst g3
  rcases g4 with ⟨_, z, a, xs, rfl, rfl, q1, q2⟩ | ⟨z, _⟩
  · cases z
    have ha : a ∈ ass.flatten := List.mem_flatten.mpr ⟨[a], List.mem_of_getElem? g2, by simp⟩
    have hF := (h3 a ha).1
    refine ⟨a, xs, g1, q1, hF, q2, fun ys es q => ?_⟩
    have s3 := Slots.set (i := i) (c := (cAny : Cell K)) (v := some (V.ref a)) (as := []) h1 rfl
    rw [set_self g1] at s3
    have na : a ∉ (ass.set i []).flatten := not_in_set h2 g2 (by simp) List.not_mem_nil
    have s4 : Slots F (upd H a (.lst ys)) (ρ.set i cAny) σ (ass.set i []) := s3.mono (Same.refl F) fun b hb => upd_ne fun z => na (z ▸ hb)
    have s5 := Slots.set (i := i) (c := (cRes (.list es) : Cell K)) (v := some (V.ref a)) (as := [a]) s4 ⟨.ref a, rfl, .inl ⟨es, rfl, a, ys, rfl, rfl, upd_same, q⟩⟩
    rw [set_self g1, List.set_set, List.set_set, set_self g2] at s5
    refine ⟨⟨e.ff, fun b o hb => ?_, e.eq⟩, Same.updO f hF, ass, s5, h2, h3⟩
    rw [upd_ne (fun z => by rw [z, (h3 a ha).2] at hb; cases hb)]
    exact e.hh b o hb
  · cases z
theorem wk_set {K : PySem.W.Frag} {ρ : Env K} {i : Nat} {c : Cell K} (h : ρ[i]? = some c) : ρ.set i c = ρ := set_self h
def onL {α : Type} (d : D) (f : List D → Res α) : Res α := match d with
  | .list ds => f ds
  | _ => .stuck
@[simp] theorem onL_list {α : Type} (ds : List D) (f : List D → Res α) : onL (.list ds) f = f ds := id rfl
theorem onL_ns {α : Type} {d : D} {f : List D → Res α} (h : onL d f ≠ .stuck) : ∃ ds, d = .list ds := by
  cases d <;> first | exact absurd rfl h | exact ⟨_, rfl⟩
def app1 (ds : List D) (d : D) : Res D := if decide (ds.length < 16777216) then .ok (.list (ds ++ [d])) else .stuck
def extL (ds : List D) (d : D) : Res D := onL d fun es => if fits (ds.length + es.length) then .ok (.list (ds ++ es)) else .stuck
def setL (ds : List D) (i v : D) : Res D := match i with
  | .int k => match L2.ixN ds.length k with | some j => .ok (.list (ds.set j v)) | none => .stuck
  | _ => .stuck
section
variable {X : Cx} {W : WX} {rk m : Md} {ρ : Env X.K} {S T : Type} {st : Stmt} {ss rest body : List Stmt} {e c : Expr} {r ra rv ri : Res D} {rc : Res Bool} {rs : Res (List D)} {fin : T → Fin X.K} {pos : Pos} {vs : List Nat}
theorem s1_append [C : Ctx X W] {x : Str} {p2 apos cpos : Pos} {d0 : D} (i : Nat) (hρ : ρ[i]? = some (cRes d0)) (he : EG X W ρ .V e r) (hN : X.N[i]? = some x := by rfl) (hv : Vis X.env.scope x := by first | exact Or.inl rfl | exact Or.inr (Or.inl rfl) | exact Or.inr (Or.inr rfl))
    (hd : (x == ("__debug__" : Str)) = false := by decide) (hcd : (x == ("__classdict__" : Str)) = false := by decide)
    (hbase : attributeBase (.Name x p2) "append" X.env (eval (.Name x p2) X.env) = eval (.Name x p2) X.env := by rfl)
    (hfew : ((backTo cpos (starEach [e] X.env)).all (fun x => !x.1) && (backToKw cpos (keywordEach [] X.env)).all (fun x => x.1.isSome) && decide (([e] : List Expr).length + ([] : List Keyword).length + (if ([] : List Keyword).isEmpty then 0 else 1) < 30)) = true := by rfl)
    (hline : (apos.endLine == cpos.line) = true := by rfl) (hs : starEach [e] X.env = (false, eval e X.env) :: starEach [] X.env := by rfl) (hplain : (backTo cpos (starEach [] X.env)).any (·.1) = false := by rfl)
    (hsw : swapsWith (.Call (.Attribute (.Name x p2) "append" apos) [e] [] cpos) none pos.line X.env = pure false := by rfl) :
    S1 X W rk ρ (.Expr (.Call (.Attribute (.Name x p2) "append" apos) [e] [] cpos) pos) (onL d0 fun ds => r.bd fun d => app1 ds d) (fun d => .nx (ρ.set i (cRes d))) := by
  obtain ⟨t, h1, h2⟩ := he
  refine ⟨_, ps_expr (pe_bm PySem.F.plainAttrs_list PySem.F.slot_list_append PySem.F.type_list_append mt_append (pe_var hN hv hd hcd) (pa_cons h1 pa_nil hs) hbase hfew hline hs hplain) hsw, fun B H0 F H σ D g q => ?_⟩
  obtain ⟨ds, rfl⟩ := onL_ns q.ns
  rw [onL_list] at q
  obtain ⟨a, xs, o1, o2, o3, o4, o5⟩ := g.own hρ
  refine ⟨_, o1, .inl ⟨rfl, _, SqL.of o2⟩, h2 B H0 F H σ _ g (KS.kn g q fun d v F1 H1 _ x s ac g' q' => ?_)⟩
  obtain ⟨a', xs', p1, p2, p3, p4, p5⟩ := g'.own hρ
  rw [o1] at p1
  cases p1
  have l := DpAll.length p4
  cases c : decide (ds.length < 16777216) with
  | false => exact absurd (by simp only [app1, c]; rfl) q'.ns
  | true =>
    have q2 := q'.of_eq (r' := .ok (.list (ds ++ [d]))) (by simp only [app1, c]; rfl)
    refine ⟨a, xs', v, rfl, rfl, p2, by rw [l, PySem.sizeLine_eq]; exact of_decide_eq_true c, ?_⟩
    exact q2.ok _ rfl F1 _ _ (p5 _ _ (DpAll.append p4 (.cons ac .nil)))
theorem s1_extend [C : Ctx X W] {x : Str} {p2 apos cpos : Pos} {d0 : D} (i : Nat) (hρ : ρ[i]? = some (cRes d0)) (he : EG X W ρ .O e r) (hN : X.N[i]? = some x := by rfl) (hv : Vis X.env.scope x := by first | exact Or.inl rfl | exact Or.inr (Or.inl rfl) | exact Or.inr (Or.inr rfl))
    (hd : (x == ("__debug__" : Str)) = false := by decide) (hcd : (x == ("__classdict__" : Str)) = false := by decide)
    (hbase : attributeBase (.Name x p2) "extend" X.env (eval (.Name x p2) X.env) = eval (.Name x p2) X.env := by rfl)
    (hfew : ((backTo cpos (starEach [e] X.env)).all (fun x => !x.1) && (backToKw cpos (keywordEach [] X.env)).all (fun x => x.1.isSome) && decide (([e] : List Expr).length + ([] : List Keyword).length + (if ([] : List Keyword).isEmpty then 0 else 1) < 30)) = true := by rfl)
    (hline : (apos.endLine == cpos.line) = true := by rfl) (hs : starEach [e] X.env = (false, eval e X.env) :: starEach [] X.env := by rfl) (hplain : (backTo cpos (starEach [] X.env)).any (·.1) = false := by rfl)
    (hsw : swapsWith (.Call (.Attribute (.Name x p2) "extend" apos) [e] [] cpos) none pos.line X.env = pure false := by rfl) :
    S1 X W rk ρ (.Expr (.Call (.Attribute (.Name x p2) "extend" apos) [e] [] cpos) pos) (onL d0 fun ds => r.bd fun d => extL ds d) (fun d => .nx (ρ.set i (cRes d))) := by
  obtain ⟨t, h1, h2⟩ := he
  refine ⟨_, ps_expr (pe_bm PySem.F.plainAttrs_list PySem.F.slot_list_extend PySem.F.type_list_extend mt_extend (pe_var hN hv hd hcd) (pa_cons h1 pa_nil hs) hbase hfew hline hs hplain) hsw, fun B H0 F H σ D g q => ?_⟩
  obtain ⟨ds, rfl⟩ := onL_ns q.ns
  rw [onL_list] at q
  obtain ⟨a, xs, o1, o2, o3, o4, o5⟩ := g.own hρ
  refine ⟨_, o1, .inl ⟨rfl, _, SqL.of o2⟩, h2 B H0 F H σ _ g (KS.kn g q fun d v F1 H1 _ x s ac g' q' => ?_)⟩
  obtain ⟨a', xs', p1, p2, p3, p4, p5⟩ := g'.own hρ
  rw [o1] at p1
  cases p1
  obtain ⟨es, rfl⟩ := onL_ns q'.ns
  obtain ⟨as, hr, hn⟩ := ac
  rcases hr with ⟨_, z, b, zs, rfl, rfl, r1, r2⟩ | ⟨z, _⟩
  · cases z
    have l := DpAll.length p4
    have l2 := DpAll.length r2
    cases c : fits (ds.length + es.length) with
    | false => exact absurd (by simp only [extL, onL_list, c]; rfl) q'.ns
    | true =>
      have q2 := q'.of_eq (r' := .ok (.list (ds ++ es))) (by simp only [extL, onL_list, c]; rfl)
      refine ⟨a, b, xs', zs, rfl, rfl, p2, r1, by rw [l, l2]; exact fits_le c, ?_⟩
      exact q2.ok _ rfl F1 _ _ (p5 _ _ (DpAll.append p4 r2))
  · cases z
/-- x[i] = v -/
theorem s1_store [C : Ctx X W] {x : Str} {ei ev : Expr} {p2 p3 : Pos} {d0 : D} (i : Nat) (hρ : ρ[i]? = some (cRes d0)) (hv' : EG X W ρ .V ev rv) (hi' : EG X W ρ .T ei ri) (hN : X.N[i]? = some x := by rfl) (hv : Vis X.env.scope x := by first | exact Or.inl rfl | exact Or.inr (Or.inl rfl) | exact Or.inr (Or.inr rfl))
    (hd : (x == ("__debug__" : Str)) = false := by decide) (hcd : (x == ("__classdict__" : Str)) = false := by decide)
    (ha : ∀ v, assign (.Subscript (.Name x p2) ei p3) X.env v = (do
      let ov ← holding [v] (eval (.Name x p2) X.env)
      let iv ← holding [v, ov] (eval ei X.env)
      standAt p3
      holding [v, ov, iv] (setItem ov iv v)
      release [v, ov, iv] []) := by intro _; rfl)
    (hs : swapsWithSole [.Subscript (.Name x p2) ei p3] ev pos.line X.env = pure false := by rfl) (hw : swappedStores [.Subscript (.Name x p2) ei p3] ev X.env = pure none := by rfl)
    (h1 : (assignEach [.Subscript (.Name x p2) ei p3] X.env).map (·.2) = [assign (.Subscript (.Name x p2) ei p3) X.env] := by rfl) :
    S1 X W rk ρ (.Assign [.Subscript (.Name x p2) ei p3] ev pos) (onL d0 fun ds => rv.bd fun v => ri.bd fun k => setL ds k v) (fun d => .nx (ρ.set i (cRes d))) := by
  obtain ⟨tv, v1, v2⟩ := hv'
  obtain ⟨ti, i1, i2⟩ := hi'
  refine ⟨_, ps_asg v1 (pg_sub (pe_var hN hv hd hcd) i1 set_list ha) hs hw h1, fun B H0 F H σ D g q => ?_⟩
  obtain ⟨ds, rfl⟩ := onL_ns q.ns
  rw [onL_list] at q
  refine v2 B H0 F H σ _ g (KS.kn g q fun d v F1 H1 _ x s ac g' q' => ?_)
  obtain ⟨a, xs, o1, o2, o3, o4, o5⟩ := g'.own hρ
  refine ⟨_, o1, i2 B H0 F1 H1 σ _ g' (KS.kn g' q' fun k w F2 H2 _ x2 s2 ac2 g2 q2 => ?_)⟩
  obtain ⟨a', xs', p1, p2, p3, p4, p5⟩ := g2.own hρ
  rw [o1] at p1
  cases p1
  cases k <;> first | exact absurd rfl q2.ns | skip
  cases tp_int ac2
  rename_i k _
  cases c : L2.ixN ds.length k with
  | none => exact absurd (by simp only [setL, c]) q2.ns
  | some j =>
    have q3 := q2.of_eq (r' := .ok (.list (ds.set j d))) (by simp only [setL, c])
    refine ⟨a, xs', k, j, rfl, rfl, p2, by rw [DpAll.length p4]; exact c, ?_⟩
    exact q3.ok _ rfl F2 _ _ (p5 _ _ (DpAll.set (Dp.mono x2.ff _ _ ac) _ p4))
/-! ### loops -/
/-- the base of a loop: what is frozen at its entry, what stood at the block's -/
def hl (H0 F H : Hp) : Hp := fun a => match H0 a with | some _ => H a | none => F a
theorem hl_some {H0 F H : Hp} {a : Addr} (h : H0 a ≠ none) : hl H0 F H a = H a := by
  unfold hl
  cases e : H0 a with
  | none => exact absurd e h
  | some o => rfl
theorem hl_none {H0 F H : Hp} {a : Addr} (h : H0 a = none) : hl H0 F H a = F a := by
  unfold hl; rw [h]
theorem Good.inl {B H0 F H : Hp} {σ : St} (g : Good B H0 F H ρ σ) : Good F (hl H0 F H) F H ρ σ := by
  obtain ⟨e, f, ass, h1, h2, h3⟩ := g
  refine ⟨⟨Same.refl _, fun a o ha => ?_, fun _ _ => rfl⟩, f, ass, h1, h2, fun a ha => ⟨(h3 a ha).1, ?_⟩⟩
  · cases z : H0 a with
    | none => rw [hl_none z] at ha; exact f a o ha
    | some u => rwa [hl_some (by rw [z]; exact fun z => nomatch z)] at ha
  · rw [hl_none (h3 a ha).2]; exact (h3 a ha).1
theorem ex_out {B H0 F H F' H' : Hp} (e : Ex B H0 F H) (x : Ex F (hl H0 F H) F' H') : Ex B H0 F' H' := by
  refine ⟨e.ff.trans x.ff, fun a o ha => ?_, fun a ha => ?_⟩
  · exact x.hh a o (by rw [hl_some (by rw [ha]; exact fun z => nomatch z)]; exact e.hh a o ha)
  · rw [x.eq a (by rw [hl_some ha]; exact Same.ne' e.hh ha), e.eq a ha]
theorem Good.out {B H0 F H F' H' : Hp} {ρ' : Env X.K} {σ' : St} (e : Ex B H0 F H) (g : Good F (hl H0 F H) F' H' ρ' σ') : Good B H0 F' H' ρ' σ' := by
  obtain ⟨x, f, ass, h1, h2, h3⟩ := g
  refine ⟨ex_out e x, f, ass, h1, h2, fun a ha => ⟨(h3 a ha).1, ?_⟩⟩
  cases z : H0 a with
  | none => rfl
  | some o =>
    have := (h3 a ha).2
    rw [hl_some (by rw [z]; exact fun z => nomatch z), e.hh a o z] at this
    cases this
theorem hl_free {B H0 F H : Hp} (e : Ex B H0 F H) {a : Addr} (h : hl H0 F H a = none) : H0 a = none := by
  cases z : H0 a with
  | none => rfl
  | some o => rw [hl_some (by rw [z]; exact fun z => nomatch z), e.hh a o z] at h; cases h
/-- a loop whose turn may return -/
theorem s1_forC [C : Ctx X W] {tg iter : Expr} {out : S → Env X.K} {f : S → D → Res (Env X.K)} {rb : D → S → Res (Ctl S)} {s0 : S} (hi : IF' X W ρ tg iter rs) (hw : Wk ρ (out s0)) (hx : ∀ s d n, f s d ≠ .exc n)
    (hg : ∀ s, GG X tg vs (out s) (f s)) (hb : ∀ s d ρ', f s d = .ok ρ' → SV X W rk ρ' body (rb d s) (fun t => match t with | .next s => .nx (out s) | .ret d => .rt d)) (hs : ∀ x, foldedSetIterable iter X.env x = pure x := by intro _; rfl) :
    S1 X W rk ρ (.For tg iter body [] pos) (rs.bd fun ds => forC (fun d s => (f s d).bd fun _ => rb d s) ds s0) (fun t => match t with | .next s => .nx (out s) | .ret d => .rt d) := by
  obtain ⟨ti, i1, i2⟩ := hi
  have hg' : PG X tg (fun x σ H Q => ∃ s B H0 F d, Good B H0 F H (out s) σ ∧ Dp X.K F x d ∧ f s d ≠ .stuck ∧ ∀ ρ' σ', f s d = .ok ρ' → Good B H0 F H ρ' σ' → Q σ' H) := ⟨fun pins s' σ H v u Q I r ⟨s, B, H0, F, d, g, p, n, k⟩ => by
    obtain ⟨gt, g1, g2⟩ := hg s
    exact g1.run pins s' σ H v u Q I r (g2 B H0 F H σ v d Q g p n fun ρ' σ' e g' _ => k ρ' σ' e g')⟩
  have hb' : PSs X body (fun D σ H => ∃ s d ρ' B H0 F, f s d = .ok ρ' ∧ Good B H0 F H ρ' σ ∧ KS X W rk B H0 (rb d s) (fun t => match t with | .next s => .nx (out s) | .ret d => .rt d) D) := ⟨fun pins s' σ H D I ⟨s, d, ρ', B, H0, F, e, g, k⟩ => by
    obtain ⟨u, u1, u2⟩ := hb s d ρ' e
    exact u1.run pins s' σ H D I (u2 B H0 F H σ D g k)⟩
  refine ⟨_, ps_for C.po C.calm i1 hg' hb' hs, fun B H0 F H σ D g q => i2 B H0 F H σ _ g (KS.kn g q fun ds J F1 H1 _ x s w g1 q1 => ?_)⟩
  obtain ⟨F2, s12, g2⟩ := hw B H0 F1 H1 σ g1
  refine ⟨fun i m σ H => m = ds.length - i ∧ i ≤ ds.length ∧ ∃ F s, Good F2 (hl H0 F2 H1) F H (out s) σ ∧ forC (fun d s => (f s d).bd fun _ => rb d s) (ds.drop i) s = forC (fun d s => (f s d).bd fun _ => rb d s) ds s0, ⟨ds.length, by simp, Nat.zero_le _, F2, s0, g2.inl, rfl⟩, ?_⟩
  rintro i m σ3 H3 ⟨rfl, hi, F3, s3, g3, hr⟩
  obtain ⟨stop, go⟩ := w F3 H3 (s12.trans g3.ex.ff) g3.fh
  by_cases hlt : i < ds.length
  · have dget : ds[i]? = some ds[i] := List.getElem?_eq_getElem hlt
    obtain ⟨go1, go2⟩ := go i _ dget
    refine .inr ⟨go1, fun σ H => i + 1 ≤ ds.length ∧ ∃ F s, Good F2 (hl H0 F2 H1) F H (out s) σ ∧ forC (fun d s => (f s d).bd fun _ => rb d s) (ds.drop (i + 1)) s = forC (fun d s => (f s d).bd fun _ => rb d s) ds s0, fun σ' H' z => ⟨ds.length - (i + 1), by omega, rfl, z⟩, fun x H4 y => ?_⟩
    obtain ⟨F4, x4, s4, d4⟩ := go2 x H4 y
    have hdrop : ds.drop i = ds[i] :: ds.drop (i + 1) := List.drop_eq_getElem_cons hlt
    rw [hdrop] at hr
    generalize hdi : ds[i] = d at *
    rw [forC_cons] at hr
    obtain ⟨ρ', hf⟩ : ∃ ρ', f s3 d = .ok ρ' := by
      cases e : f s3 d with
      | ok ρ' => exact ⟨ρ', rfl⟩
      | exc n => exact absurd e (hx s3 d n)
      | stuck => rw [e] at hr; exact absurd hr.symm (by first | exact q1.ns | (intro z; exact q1.ns z))
    refine ⟨s3, F2, hl H0 F2 H1, F4, d, g3.go x4 s4, d4, by rw [hf]; exact ok_ns _, fun ρ2 σ2 e2 g4 => ⟨s3, d, ρ2, F2, hl H0 F2 H1, F4, e2, g4, ?_⟩⟩
    simp only [hf, bd_ok] at hr
    refine ⟨fun z => q1.ns (by rw [← hr, z]; rfl), fun t et => ?_, fun n en H' C' σ' c z => ?_⟩
    · rw [et] at hr
      cases t with
      | next s5 => exact fun F' H' σ' g5 => ⟨hlt, F', s5, g5, hr⟩
      | ret d5 =>
        have z := q1.ok (.ret d5) hr.symm
        exact fun v F' H' e5 f5 a5 => z v F' H' (ex_out g2.ex e5) f5 (by
          cases rk with
          | V => exact a5
          | T => exact a5
          | O => obtain ⟨as, h1, h2⟩ := a5; exact ⟨as, h1, fun a ha => ⟨hl_free g2.ex (h2 a ha).1, (h2 a ha).2⟩⟩
          | P => obtain ⟨as, h1, h2⟩ := a5; exact ⟨as, h1, fun a ha => ⟨hl_free g2.ex (h2 a ha).1, (h2 a ha).2⟩⟩)
    · rw [en] at hr
      exact q1.xc n hr.symm H' C' σ' c fun a o ha => z a o (by rw [hl_some (by rw [ha]; exact fun z => nomatch z)]; exact g2.ex.hh a o ha)
  · have e : i = ds.length := by omega
    subst e
    rw [List.drop_length] at hr
    have z := q1.ok (.next s3) hr.symm
    exact .inl ⟨stop, z F3 H3 σ3 (Good.out g2.ex g3)⟩
theorem forN_C {S : Type} (b : D → S → Res S) : ∀ (ds : List D) (s : S), forC (fun d s => (b d s).bd fun s => .ok (.next s)) ds s = (forN b ds s).bd fun s => .ok (.next s)
  | [], s => rfl
  | d :: ds, s => by
    unfold forC forN
    cases b d s with
    | ok s' => simpa using forN_C b ds s'
    | exc n => rfl
    | stuck => rfl
theorem s1_map {r : Res S} {fin' : S → Fin X.K} {fin2 : T → Fin X.K} {h : S → T} (hf : ∀ s, fin2 (h s) = fin' s) (hh : S1 X W rk ρ st (r.bd fun s => .ok (h s)) fin2) : S1 X W rk ρ st r fin' := by
  obtain ⟨t, h1, h2⟩ := hh
  exact ⟨t, h1, fun B H0 F H σ D g k => h2 B H0 F H σ D g ⟨(fun z => k.ns (by cases r <;> first | rfl | cases z)), (fun a ea => by
    cases r with
    | ok s => cases ea; rw [hf]; exact k.ok s rfl
    | exc n => cases ea
    | stuck => cases ea), fun n en => k.xc n (by cases r <;> first | cases en; done | (cases en; rfl))⟩⟩
theorem sv_map {r : Res S} {fin' : S → Fin X.K} {fin2 : T → Fin X.K} {h : S → T} (hf : ∀ s, fin2 (h s) = fin' s) (hh : SV X W rk ρ ss r fin') : SV X W rk ρ ss (r.bd fun s => .ok (h s)) fin2 := by
  obtain ⟨t, h1, h2⟩ := hh
  exact ⟨t, h1, fun B H0 F H σ D g k => h2 B H0 F H σ D g ⟨fun z => k.ns (by rw [z]; rfl), fun a ea => by
    have z := k.ok (h a) (by rw [ea]; rfl)
    rwa [hf] at z, fun n en => k.xc n (by rw [en]; rfl)⟩⟩
/-- a loop that never returns -/
theorem s1_for [C : Ctx X W] {tg iter : Expr} {out : S → Env X.K} {f : S → D → Res (Env X.K)} {rb : D → S → Res S} {s0 : S} (hi : IF' X W ρ tg iter rs) (hw : Wk ρ (out s0)) (hx : ∀ s d n, f s d ≠ .exc n)
    (hg : ∀ s, GG X tg vs (out s) (f s)) (hb : ∀ s d ρ', f s d = .ok ρ' → SV X W rk ρ' body (rb d s) (fun s => .nx (out s))) (hs : ∀ x, foldedSetIterable iter X.env x = pure x := by intro _; rfl) :
    S1 X W rk ρ (.For tg iter body [] pos) (rs.bd fun ds => forN (fun d s => (f s d).bd fun _ => rb d s) ds s0) (fun s => .nx (out s)) := by
  refine s1_map (h := Ctl.next) (fin2 := fun t => match t with | .next s => .nx (out s) | .ret d => .rt d) (fun _ => rfl) ?_
  have q := s1_forC (vs := vs) (rb := fun d s => (rb d s).bd fun s => .ok (.next s)) (pos := pos) (rk := rk) (s0 := s0) hi hw hx hg (fun s d ρ' e => sv_map (fun _ => rfl) (hb s d ρ' e)) hs
  have e : (fun ds => forC (fun d s => (f s d).bd fun _ => (rb d s).bd fun s => Res.ok (Ctl.next s)) ds s0) = fun ds => (forN (fun d s => (f s d).bd fun _ => rb d s) ds s0).bd fun s => Res.ok (Ctl.next s) := by
    funext ds
    rw [← forN_C]
    congr 1
    funext d s
    rw [bd_bd]
  rw [e, ← bd_bd] at q
  exact q
/-- while -/
theorem s1_while [C : Ctx X W] {test : Expr} {out : S → Env X.K} {rt' : S → Res Bool} {rb : S → Res S} {s0 : S} (hw : Wk ρ (out s0)) (ht : ∀ s, TG' X W (out s) test (rt' s)) (hb : ∀ s, SV X W rk (out s) body (rb s) (fun s => .nx (out s))) :
    S1 X W rk ρ (.While test body [] pos) (whileD rt' rb s0) (fun s => .nx (out s)) := by
  have ht' : PT X test (fun σ H Q => ∃ s B H0 F, Good B H0 F H (out s) σ ∧ Kn X W F H σ (rt' s) aB Q) := ⟨fun pins s' σ H Q I ⟨s, B, H0, F, g, k⟩ => by
    obtain ⟨u, u1, u2⟩ := ht s
    exact u1.run pins s' σ H Q I (u2 B H0 F H σ Q g k)⟩
  have hb' : PSs X body (fun D σ H => ∃ s B H0 F, Good B H0 F H (out s) σ ∧ KS X W rk B H0 (rb s) (fun s => .nx (out s)) D) := ⟨fun pins s' σ H D I ⟨s, B, H0, F, g, k⟩ => by
    obtain ⟨u, u1, u2⟩ := hb s
    exact u1.run pins s' σ H D I (u2 B H0 F H σ D g k)⟩
  refine ⟨_, ps_while C.po ht' hb', fun B H0 F H σ D g q => ?_⟩
  obtain ⟨F2, s12, g2⟩ := hw B H0 F H σ g
  obtain ⟨n, hn⟩ := whileD_ex q.ns
  refine ⟨fun m σ H => ∃ F s, Good B H0 F H (out s) σ ∧ whileF rt' rb m s = whileD rt' rb s0, ⟨n, F2, s0, g2, hn⟩, ?_⟩
  rintro m σ3 H3 ⟨F3, s3, g3, hr⟩
  cases m with
  | zero => exact absurd hr.symm q.ns
  | succ m =>
    unfold whileF at hr
    refine ⟨s3, B, H0, F3, g3, ⟨fun z => q.ns (by rw [← hr, z]; rfl), fun b eb c F4 H4 x4 s4 a4 => ?_, fun n en H' C' c s => q.xc n (by rw [← hr, en]; rfl) H' C' σ3 c (g3.ex.hh.trans s)⟩⟩
    cases a4
    rw [eb] at hr
    cases b with
    | false =>
      rw [if_neg Bool.false_ne_true]
      exact q.ok s3 hr.symm F4 H4 σ3 (g3.go x4 s4)
    | true =>
      rw [if_pos rfl]
      simp only [bd_ok, if_true] at hr
      refine ⟨fun σ H => ∃ F s, Good B H0 F H (out s) σ ∧ whileF rt' rb m s = whileD rt' rb s0, fun σ' H' z => ⟨m, Nat.lt_succ_self _, z⟩, s3, B, H0, F4, g3.go x4 s4, ⟨fun z => q.ns (by rw [← hr, z]; rfl), fun s5 e5 => ?_, fun n en H' C' σ' c s => q.xc n (by rw [← hr, en]; rfl) H' C' σ' c s⟩⟩
      rw [e5] at hr
      exact fun F' H' σ' g5 => ⟨F', s5, g5, hr⟩
/-- a, b = e -/
theorem s1_unpack [C : Ctx X W] {tg : Expr} {vs : List Nat} {f : D → Res (Env X.K)} (he : EG X W ρ .V e r) (hg : GG X tg vs ρ f) (hx : ∀ d n, f d ≠ .exc n) (hs : swapsWithSole [tg] e pos.line X.env = pure false := by rfl) (hw : swappedStores [tg] e X.env = pure none := by rfl)
    (h1 : (assignEach [tg] X.env).map (·.2) = [assign tg X.env] := by rfl) : S1 X W rk ρ (.Assign [tg] e pos) (r.bd f) (fun ρ' => .nx ρ') := by
  obtain ⟨t, e1, e2⟩ := he
  obtain ⟨gt, g1, g2⟩ := hg
  refine ⟨_, ps_asg e1 g1 hs hw h1, fun B H0 F H σ D g q => e2 B H0 F H σ _ g (KS.kn g q fun d v F1 H1 _ x s a g' q' => ?_)⟩
  exact g2 B H0 F1 H1 σ v d _ g' a q'.ns fun ρ' σ' e g3 _ => q'.ok ρ' e F1 H1 σ' g3
/-! ### a def by its body -/
end
end DL
/-! A def by its body; targets by name. -/
namespace DL
open PySem L2 PySem.Spec PyProof.Rows
def ap1 (g : D → Res D) : List D → Res D | [a] => g a | _ => .stuck
def ap2 (g : D → D → Res D) : List D → Res D | [a, b] => g a b | _ => .stuck
def ap3 (g : D → D → D → Res D) : List D → Res D | [a, b, c] => g a b c | _ => .stuck
def ap4 (g : D → D → D → D → Res D) : List D → Res D | [a, b, c, d] => g a b c d | _ => .stuck
def ap5 (g : D → D → D → D → D → Res D) : List D → Res D | [a, b, c, d, e] => g a b c d e | _ => .stuck
@[simp] theorem ap1_ok (g : D → Res D) (a : D) : ap1 g [a] = g a := id rfl
@[simp] theorem ap2_ok (g : D → D → Res D) (a b : D) : ap2 g [a, b] = g a b := id rfl
@[simp] theorem ap3_ok (g : D → D → D → Res D) (a b c : D) : ap3 g [a, b, c] = g a b c := id rfl
@[simp] theorem ap4_ok (g : D → D → D → D → Res D) (a b c d : D) : ap4 g [a, b, c, d] = g a b c d := id rfl
@[simp] theorem ap5_ok (g : D → D → D → D → D → Res D) (a b c d e : D) : ap5 g [a, b, c, d, e] = g a b c d e := id rfl
def env0 {K : PySem.W.Frag} (n : Nat) (ds : List D) : Env K := ds.map cVal ++ List.replicate (n - ds.length) cAny
theorem slots_any {K : PySem.W.Frag} {F H : Hp} : ∀ n : Nat, Slots (K := K) F H (List.replicate n cAny) (List.replicate n none) (List.replicate n [])
  | 0 => trivial
  | n + 1 => ⟨rfl, slots_any n⟩
theorem slots_vals {K : PySem.W.Frag} {F H : Hp} {n : Nat} : ∀ {vs : List V} {ds : List D}, DpAll K F vs ds → ∀ m, Slots F H ((ds.map cVal ++ List.replicate m cAny : Env K)) (vs.map some ++ List.replicate m none) (List.replicate (ds.length + m) [])
  | _, _, .nil, m => by simpa using slots_any m
  | _, _, .cons (v := v) (vs := vs) (d := d) (ds := ds) h t, m => by
    have := slots_vals (n := n) t m (H := H)
    rw [show (d :: ds).length + m = (ds.length + m) + 1 by simp; omega, List.replicate_succ]
    exact ⟨⟨rfl, v, rfl, h⟩, this⟩
theorem flat_nil (n : Nat) : (List.replicate n ([] : List Addr)).flatten = [] := by
  induction n with
  | zero => rfl
  | succ n ih => simpa [List.replicate_succ] using ih
section
variable {P : Program} {w : World} {K : PySem.W.Frag} {mg : Str → Option Value} {base : Heap}
abbrev Wf (E : XK) : WX := fun c d _ H => E c d H
abbrev cxD (P : Program) (w : World) (K : PySem.W.Frag) (mg : Str → Option Value) (base : Heap) (N : List Str) (qual : Str) (st : Stmt) (f : Addr) (cdv : Value) (A : Around) (outer : List PySem.Env) (s : Shared) (H : Hp) (E : XK) : Cx :=
  cxOf (L2N.CX P w) P w K mg base N qual (defScope st) f cdv A outer s H E
theorem ctx_fn {N : List Str} {qual : Str} {st : Stmt} {f : Addr} {cdv : Value} {A : Around} {outer : List PySem.Env} {s : Shared} {H : Hp} {E : XK} {k : Nat} (nd : N.Nodup) (hr : Room k (A.deeper (envOfC qual (defScope st) s.heap.objs.size f cdv))) :
    Ctx (cxD P w K mg base N qual st f cdv A outer s H E) (Wf E) := by
  refine { tk := L2N.takes_of rfl rfl rfl rfl, po := passes_of (K := fun e s'' => L2N.CX P w outer H s E e s'') rfl, nd := nd, hu := ?_, calm := rfl }
  have := hr.un
  show (A.deeper (envOfC qual (defScope st) s.heap.objs.size f cdv)).units + 90 < cLine
  omega
/-- a def of n parameters -/
theorem fn_ok {x qual : Str} {st : Stmt} {f : Addr} {fd : FuncData} {N ps : List Str} {k n : Nat} {rk : Md} {g : List D → Res D} (F : Fun K x qual st f fd) (S : FnScope N ps (defScope st)) (hn : ps.length = n)
    (hb : ∀ (cdv : Value) (A : Around) (outer : List PySem.Env) (s : Shared) (H : Hp) (E : XK) (ds : List D), Room k (A.deeper (envOfC qual (defScope st) s.heap.objs.size f cdv)) → ds.length = n → Ctx (cxD P w K mg base N qual st f cdv A outer s H E) (Wf E) →
      SV (cxD P w K mg base N qual st f cdv A outer s H E) (Wf E) rk (env0 N.length ds) (defBody st) (g ds) Fin.rt) : FnOk P w K mg base (L2N.CX P w) (k + 1) f fd ps (spD K mg n rk g) := by
  obtain ⟨oc, od, kV, doc, pm, an, cdv, ct, osl, rfl, lk, hcd⟩ := F.ex
  refine fn_of lk hcd S (fun vs H Q E h => ?_) (fun A outer s H vs Q E hr h => ?_)
  · obtain ⟨_, _, _, _, h, _⟩ := h
    rw [h, hn]
  · obtain ⟨F0, ds, fh, dp, hl, ns, hok, hxc⟩ := h
    have hld : ds.length = n := by rw [← DpAll.length dp, hl]
    obtain ⟨t, t1, t2⟩ := hb cdv A outer s H E ds hr hld (ctx_fn S.nd hr)
    refine ⟨t, t1, t2 F0 H F0 H _ _ ⟨Ex.refl _ _, fh, List.replicate (ds.length + (N.length - ds.length)) [], ?_, by rw [flat_nil]; exact List.nodup_nil, fun a ha => by rw [flat_nil] at ha; cases ha⟩ ⟨ns, fun d ed => ?_, fun n en H' C σ' c s => hxc n en H' C c s⟩⟩
    · have := slots_vals (n := n) dp (N.length - ds.length) (H := H)
      unfold L2.start env0
      rwa [DpAll.length dp]
    · exact fun v F' H' x s a => hok d ed v F' H' x s a
end
/-! ### how many names a target has -/
theorem tup2 {K : PySem.W.Frag} {ρ : Env K} (i j : Nat) (d : D) : tupE 2 (consE (fun a => .ok (ρ.set i (cVal a))) fun ρ' => consE (fun b => .ok (ρ'.set j (cVal b))) fun ρ2 ds => match ds with | [] => .ok ρ2 | _ => .stuck) d
    = un2 d fun a b => .ok ((ρ.set i (cVal a)).set j (cVal b)) := by
  cases d with
  | tuple ds =>
    match ds with
    | [] => rfl
    | [_] => rfl
    | [a, b] => rfl
    | _ :: _ :: _ :: _ => simp [tupE, un2]
  | _ => rfl
section
variable {X : Cx} {ρ : Env X.K} {vs : List Nat}
theorem gg_2 {x y : Str} {k : Nat} {p1 p2 pos : Pos} (i j : Nat) (hc : X.calm = true) (hN : X.N.Nodup) (hi : X.N[i]? = some x) (hj : X.N[j]? = some y) (hx : Loc X.env.scope x) (hy : Loc X.env.scope y) (vi : i ∈ vs) (vj : j ∈ vs)
    (fx : X.fn x = true ∨ X.env.scope.names.lookup x = some .local) (fy : X.fn y = true ∨ X.env.scope.names.lookup y = some .local)
    (s2 : (assignEach [.Name x p1, .Name y p2] X.env).map (·.2) = assign (.Name x p1) X.env :: (assignEach [.Name y p2] X.env).map (·.2)) (s1 : (assignEach [.Name y p2] X.env).map (·.2) = assign (.Name y p2) X.env :: (assignEach [] X.env).map (·.2))
    (hn : (assignEach [.Name x p1, .Name y p2] X.env).length = 2) (hst : (assignEach [.Name x p1, .Name y p2] X.env).findIdx? (·.1) = none) :
    GG X (.Tuple [.Name x p1, .Name y p2] k pos) vs ρ (fun d => un2 d fun a b => .ok ((ρ.set i (cVal a)).set j (cVal b))) := by
  have h := gg_tup (k := k) (pos := pos) (ρ := ρ) (vs := vs) hc (ggs_cons (gg_name i hN hi hx vi fx) (fun ρ' => ggs_cons (gg_name j hN hj hy vj fy) (fun ρ2 => ggs_nil) (fun _ _ z => nomatch z) fun u hu g hg => pgs_cons hg hu s1) (fun _ _ z => nomatch z) fun u hu g hg => pgs_cons hg hu s2) hn hst
  have e : (fun d => un2 d fun a b => Res.ok ((ρ.set i (cVal a)).set j (cVal b))) = tupE 2 (consE (fun a => .ok (ρ.set i (cVal a))) fun ρ' => consE (fun b => .ok (ρ'.set j (cVal b))) fun ρ2 ds => match ds with | [] => .ok ρ2 | _ => .stuck) := funext fun d => (tup2 i j d).symm
  rw [e]
  exact h
end
end DL
/-! Loops and comprehensions by their targets: one name, two, three. -/
namespace DL
open PySem L2
theorem tup3 {K : PySem.W.Frag} {ρ : Env K} (i j l : Nat) (d : D) : tupE 3 (consE (fun a => .ok (ρ.set i (cVal a))) fun ρ' => consE (fun b => .ok (ρ'.set j (cVal b))) fun ρ1 => consE (fun c => .ok (ρ1.set l (cVal c))) fun ρ2 ds => match ds with | [] => .ok ρ2 | _ => .stuck) d
    = un3 d fun a b c => .ok (((ρ.set i (cVal a)).set j (cVal b)).set l (cVal c)) := by
  cases d with
  | tuple ds =>
    match ds with
    | [] => rfl
    | [_] => rfl
    | [_, _] => rfl
    | [a, b, c] => rfl
    | _ :: _ :: _ :: _ :: _ => simp [tupE, un3]
  | _ => rfl
abbrev NmOk (X : Cx) (i : Nat) (x : Str) : Prop := X.N[i]? = some x ∧ Loc X.env.scope x ∧ (X.fn x = true ∨ X.env.scope.names.lookup x = some .local)
abbrev AsOk (X : Cx) (e : Expr) (es : List Expr) : Prop := (assignEach (e :: es) X.env).map (·.2) = assign e X.env :: (assignEach es X.env).map (·.2)
abbrev TupOk (X : Cx) (es : List Expr) (n : Nat) : Prop := (assignEach es X.env).length = n ∧ (assignEach es X.env).findIdx? (·.1) = none
section
variable {X : Cx} {ρ : Env X.K} {vs : List Nat} {x y z : Str} {k : Nat} {p1 p2 p3 pos : Pos}
theorem gg1 (i : Nat) (hN : X.N.Nodup) (h : NmOk X i x) (vi : i ∈ vs) : GG X (.Name x pos) vs ρ (fun d => .ok (ρ.set i (cVal d))) := gg_name i hN h.1 h.2.1 vi h.2.2
theorem gg2 (i j : Nat) (hc : X.calm = true) (hN : X.N.Nodup) (hx : NmOk X i x) (hy : NmOk X j y) (vi : i ∈ vs) (vj : j ∈ vs) (s2 : AsOk X (.Name x p1) [.Name y p2]) (s1 : AsOk X (.Name y p2) []) (ht : TupOk X [.Name x p1, .Name y p2] 2) :
    GG X (.Tuple [.Name x p1, .Name y p2] k pos) vs ρ (fun d => un2 d fun a b => .ok ((ρ.set i (cVal a)).set j (cVal b))) :=
  gg_2 i j hc hN hx.1 hy.1 hx.2.1 hy.2.1 vi vj hx.2.2 hy.2.2 s2 s1 ht.1 ht.2
theorem gg3 (i j l : Nat) (hc : X.calm = true) (hN : X.N.Nodup) (hx : NmOk X i x) (hy : NmOk X j y) (hz : NmOk X l z) (vi : i ∈ vs) (vj : j ∈ vs) (vl : l ∈ vs) (s3 : AsOk X (.Name x p1) [.Name y p2, .Name z p3]) (s2 : AsOk X (.Name y p2) [.Name z p3]) (s1 : AsOk X (.Name z p3) []) (ht : TupOk X [.Name x p1, .Name y p2, .Name z p3] 3) :
    GG X (.Tuple [.Name x p1, .Name y p2, .Name z p3] k pos) vs ρ (fun d => un3 d fun a b c => .ok (((ρ.set i (cVal a)).set j (cVal b)).set l (cVal c))) := by
  have h := gg_tup (k := k) (pos := pos) (ρ := ρ) (vs := vs) hc (ggs_cons (gg1 (pos := p1) i hN hx vi) (fun ρ' => ggs_cons (gg1 (pos := p2) j hN hy vj) (fun ρ2 => ggs_cons (gg1 (pos := p3) l hN hz vl) (fun ρ3 => ggs_nil) (fun _ _ z => nomatch z) fun u hu g hg => pgs_cons hg hu s1) (fun _ _ z => nomatch z) fun u hu g hg => pgs_cons hg hu s2) (fun _ _ z => nomatch z) fun u hu g hg => pgs_cons hg hu s3) ht.1 ht.2
  have e : (fun d => un3 d fun a b c => Res.ok (((ρ.set i (cVal a)).set j (cVal b)).set l (cVal c))) = tupE 3 (consE (fun a => .ok (ρ.set i (cVal a))) fun ρ' => consE (fun b => .ok (ρ'.set j (cVal b))) fun ρ1 => consE (fun c => .ok (ρ1.set l (cVal c))) fun ρ2 ds => match ds with | [] => .ok ρ2 | _ => .stuck) := funext fun d => (tup3 i j l d).symm
  rw [e]
  exact h
end
theorem ok_ne {α : Type} {a : α} {n : Str} : Res.ok a ≠ .exc n := fun z => nomatch z
theorem un2_ex {α : Type} {d : D} {f : D → D → Res α} (hf : ∀ a b n, f a b ≠ .exc n) (n : Str) : un2 d f ≠ .exc n := by
  unfold un2
  split
  · exact hf _ _ n
  · exact fun z => nomatch z
theorem un3_ex {α : Type} {d : D} {f : D → D → D → Res α} (hf : ∀ a b c n, f a b c ≠ .exc n) (n : Str) : un3 d f ≠ .exc n := by
  unfold un3
  split
  · exact hf _ _ _ n
  · exact fun z => nomatch z
theorem un2_ok {α : Type} {d : D} {f : D → D → Res α} {r : α} (h : un2 d f = .ok r) : ∃ a b, d = .tuple [a, b] ∧ f a b = .ok r := by
  unfold un2 at h
  split at h
  · exact ⟨_, _, rfl, h⟩
  · cases h
theorem un3_ok {α : Type} {d : D} {f : D → D → D → Res α} {r : α} (h : un3 d f = .ok r) : ∃ a b c, d = .tuple [a, b, c] ∧ f a b c = .ok r := by
  unfold un3 at h
  split at h
  · exact ⟨_, _, _, rfl, h⟩
  · cases h
theorem un2_bd {α β : Type} (d : D) (f : D → D → α) (g : D → D → Res β) : ((un2 d fun a b => Res.ok (f a b)).bd fun _ => un2 d g) = un2 d g := by
  unfold un2; split <;> rfl
theorem un3_bd {α β : Type} (d : D) (f : D → D → D → α) (g : D → D → D → Res β) : ((un3 d fun a b c => Res.ok (f a b c)).bd fun _ => un3 d g) = un3 d g := by
  unfold un3; split <;> rfl
/-! ### comprehensions -/
abbrev Blks (X : Cx) (scope : Scope) (φ : Cx → Prop) : Prop := ∀ (s : Shared) (H : Hp) (C : Addr) (cl : List (Str × Addr)) (fp : List Addr), φ (X.blk s H scope (compEnvC scope cl C X.env) fp)
structure CK (X : Cx) (W : WX) (ρ : Env X.K) (elt tg iter : Expr) (ifs : List Expr) (scope : Scope) (rs : Res (List D)) (cond : D → Res Bool) (elt' : D → Res D) : Prop where
  ex : ∃ (own : List (Str × Nat)) (f : D → Res (Env X.K)) (c0 : D → Res Bool) (e0 : D → Res D), IG X W ρ tg iter rs ∧ BlkOk X.N X.env.scope scope own ∧ (∀ d n, f d ≠ .exc n) ∧
    (∀ (s : Shared) (H : Hp) (C : Addr) (cl : List (Str × Addr)) (fp : List Addr), GG (X.blk s H scope (compEnvC scope cl C X.env) fp) tg (own.map (·.2)) (wipeE ρ (own.map (·.2))) f) ∧
    (∀ (s : Shared) (H : Hp) (C : Addr) (cl : List (Str × Addr)) (fp : List Addr) (d : D) (ρ' : Env X.K), f d = .ok ρ' → QG (X.blk s H scope (compEnvC scope cl C X.env) fp) W0 ρ' ifs (c0 d)) ∧
    (∀ (s : Shared) (H : Hp) (C : Addr) (cl : List (Str × Addr)) (fp : List Addr) (d : D) (ρ' : Env X.K), f d = .ok ρ' → EG (X.blk s H scope (compEnvC scope cl C X.env) fp) W0 ρ' .V elt (e0 d)) ∧
    (∀ ds, lcR (fun d => (f d).bd fun _ => c0 d) e0 ds = lcR cond elt' ds)
section
variable {X : Cx} {W : WX} {ρ : Env X.K} {elt iter tg : Expr} {ifs : List Expr} {scope : Scope} {rs : Res (List D)} {pos spos py p1 p2 p3 : Pos} {x y z : Str} {k : Nat}
theorem eg_ck [Ctx X W] {cond : D → Res Bool} {elt' : D → Res D} (h : CK X W ρ elt tg iter ifs scope rs cond elt') (hs : ∀ x, foldedSetIterable iter X.env x = pure x := by intro _; rfl) : EG X W ρ .O (.ListComp elt [⟨tg, iter, ifs, 0⟩] scope pos) (rs.bd fun ds => (lcR cond elt' ds).bd lstR) := by
  obtain ⟨own, f, c0, e0, h1, h2, h3, h4, h5, h6, h7⟩ := h
  have q := eg_lc (pos := pos) h1 h2 h3 h4 h5 h6 hs
  have e : (fun ds => (lcR (fun d => (f d).bd fun _ => c0 d) e0 ds).bd lstR) = fun ds => (lcR cond elt' ds).bd lstR := funext fun ds => by rw [h7]
  rwa [e] at q
theorem s1_ck [Ctx X W] {rk : Md} {cond : D → Res Bool} {elt' : D → Res D} (i : Nat) (h : CK X W ρ elt tg iter ifs scope rs cond elt') (hy : X.N[i]? = some y := by rfl) (hyl : X.env.scope.names.lookup y = some .local := by rfl)
    (hsw : swapsWith (.ListComp elt [⟨tg, iter, ifs, 0⟩] scope pos) (some (.Name y py)) spos.line X.env = pure true := by exact sw_true rfl rfl rfl (by decide +kernel)) (hs : ∀ x, foldedSetIterable iter X.env x = pure x := by intro _; rfl) :
    S1 X W rk ρ (.Assign [.Name y py] (.ListComp elt [⟨tg, iter, ifs, 0⟩] scope pos) spos) (rs.bd fun ds => (lcR cond elt' ds).bd lstR) (fun d => .nx (ρ.set i (cRes d))) := by
  obtain ⟨own, f, c0, e0, h1, h2, h3, h4, h5, h6, h7⟩ := h
  have q := s1_setLc (rk := rk) (spos := spos) (pos := pos) i hy hyl hsw h1 h2 h3 h4 h5 h6 hs
  have e : (fun ds => (lcR (fun d => (f d).bd fun _ => c0 d) e0 ds).bd lstR) = fun ds => (lcR cond elt' ds).bd lstR := funext fun ds => by rw [h7]
  rwa [e] at q
theorem ck1 [C : Ctx X W] {cond : D → Res Bool} {elt' : D → Res D} (i : Nat) (hi : IG X W ρ (.Name x p1) iter rs) (ok : BlkOk X.N X.env.scope scope [(x, i)]) (hn1 : Blks X scope fun Y => NmOk Y i x)
    (ht : ∀ (s : Shared) (H : Hp) (C : Addr) (cl : List (Str × Addr)) (fp : List Addr) (a : D), QG (X.blk s H scope (compEnvC scope cl C X.env) fp) W0 ((wipeE ρ [i]).set i (cVal a)) ifs (cond a))
    (he : ∀ (s : Shared) (H : Hp) (C : Addr) (cl : List (Str × Addr)) (fp : List Addr) (a : D), EG (X.blk s H scope (compEnvC scope cl C X.env) fp) W0 ((wipeE ρ [i]).set i (cVal a)) .V elt (elt' a)) : CK X W ρ elt (.Name x p1) iter ifs scope rs cond elt' :=
  ⟨[(x, i)], fun a => .ok ((wipeE ρ [i]).set i (cVal a)), cond, elt', hi, ok, (fun _ _ z => nomatch z), fun s H c cl fp => gg1 i (blk_nd C.nd) (hn1 s H c cl fp) (by simp),
    fun s H c cl fp d ρ' e => by cases e; exact ht s H c cl fp d, fun s H c cl fp d ρ' e => by cases e; exact he s H c cl fp d, fun ds => rfl⟩
theorem ck2 [C : Ctx X W] {cond : D → D → Res Bool} {elt' : D → D → Res D} (i : Nat) (j : Nat) (hi : IG X W ρ (.Tuple [.Name x p1, .Name y p2] k pos) iter rs) (ok : BlkOk X.N X.env.scope scope [(x, i), (y, j)]) (hn1 : Blks X scope fun Y => NmOk Y i x) (hn2 : Blks X scope fun Y => NmOk Y j y) (ha : Blks X scope fun Y => AsOk Y (.Name x p1) [.Name y p2] ∧ AsOk Y (.Name y p2) [] ∧ TupOk Y [.Name x p1, .Name y p2] 2)
    (ht : ∀ (s : Shared) (H : Hp) (C : Addr) (cl : List (Str × Addr)) (fp : List Addr) (a b : D), QG (X.blk s H scope (compEnvC scope cl C X.env) fp) W0 (((wipeE ρ [i, j]).set i (cVal a)).set j (cVal b)) ifs (cond a b))
    (he : ∀ (s : Shared) (H : Hp) (C : Addr) (cl : List (Str × Addr)) (fp : List Addr) (a b : D), EG (X.blk s H scope (compEnvC scope cl C X.env) fp) W0 (((wipeE ρ [i, j]).set i (cVal a)).set j (cVal b)) .V elt (elt' a b)) : CK X W ρ elt (.Tuple [.Name x p1, .Name y p2] k pos) iter ifs scope rs (fun d => un2 d cond) (fun d => un2 d elt') :=
  ⟨[(x, i), (y, j)], fun d => un2 d fun a b => .ok (((wipeE ρ [i, j]).set i (cVal a)).set j (cVal b)), (fun d => un2 d cond), (fun d => un2 d elt'), hi, ok, (fun d n => un2_ex (fun _ _ _ => ok_ne) n), fun s H c cl fp => gg2 i j C.calm (blk_nd C.nd) (hn1 s H c cl fp) (hn2 s H c cl fp) (by simp) (by simp) (ha s H c cl fp).1 (ha s H c cl fp).2.1 (ha s H c cl fp).2.2,
    (fun s H c' cl fp d ρ' e => by obtain ⟨a, b, rfl, e2⟩ := un2_ok e; cases e2; exact ht s H c' cl fp a b), (fun s H c' cl fp d ρ' e => by obtain ⟨a, b, rfl, e2⟩ := un2_ok e; cases e2; exact he s H c' cl fp a b), fun ds => by simp only [un2_bd]⟩
theorem ck3 [C : Ctx X W] {cond : D → D → D → Res Bool} {elt' : D → D → D → Res D} (i : Nat) (j : Nat) (l : Nat) (hi : IG X W ρ (.Tuple [.Name x p1, .Name y p2, .Name z p3] k pos) iter rs) (ok : BlkOk X.N X.env.scope scope [(x, i), (y, j), (z, l)]) (hn1 : Blks X scope fun Y => NmOk Y i x) (hn2 : Blks X scope fun Y => NmOk Y j y) (hn3 : Blks X scope fun Y => NmOk Y l z) (ha : Blks X scope fun Y => AsOk Y (.Name x p1) [.Name y p2, .Name z p3] ∧ AsOk Y (.Name y p2) [.Name z p3] ∧ AsOk Y (.Name z p3) [] ∧ TupOk Y [.Name x p1, .Name y p2, .Name z p3] 3)
    (ht : ∀ (s : Shared) (H : Hp) (C : Addr) (cl : List (Str × Addr)) (fp : List Addr) (a b c : D), QG (X.blk s H scope (compEnvC scope cl C X.env) fp) W0 ((((wipeE ρ [i, j, l]).set i (cVal a)).set j (cVal b)).set l (cVal c)) ifs (cond a b c))
    (he : ∀ (s : Shared) (H : Hp) (C : Addr) (cl : List (Str × Addr)) (fp : List Addr) (a b c : D), EG (X.blk s H scope (compEnvC scope cl C X.env) fp) W0 ((((wipeE ρ [i, j, l]).set i (cVal a)).set j (cVal b)).set l (cVal c)) .V elt (elt' a b c)) : CK X W ρ elt (.Tuple [.Name x p1, .Name y p2, .Name z p3] k pos) iter ifs scope rs (fun d => un3 d cond) (fun d => un3 d elt') :=
  ⟨[(x, i), (y, j), (z, l)], fun d => un3 d fun a b c => .ok ((((wipeE ρ [i, j, l]).set i (cVal a)).set j (cVal b)).set l (cVal c)), (fun d => un3 d cond), (fun d => un3 d elt'), hi, ok, (fun d n => un3_ex (fun _ _ _ _ => ok_ne) n), fun s H c cl fp => gg3 i j l C.calm (blk_nd C.nd) (hn1 s H c cl fp) (hn2 s H c cl fp) (hn3 s H c cl fp) (by simp) (by simp) (by simp) (ha s H c cl fp).1 (ha s H c cl fp).2.1 (ha s H c cl fp).2.2.1 (ha s H c cl fp).2.2.2,
    (fun s H c' cl fp d ρ' e => by obtain ⟨a, b, c, rfl, e2⟩ := un3_ok e; cases e2; exact ht s H c' cl fp a b c), (fun s H c' cl fp d ρ' e => by obtain ⟨a, b, c, rfl, e2⟩ := un3_ok e; cases e2; exact he s H c' cl fp a b c), fun ds => by simp only [un3_bd]⟩
end
/-! ### for -/
section
variable {X : Cx} {W : WX} {rk : Md} {ρ : Env X.K} {S : Type} {iter tg : Expr} {body : List Stmt} {rs : Res (List D)} {pos p0 p1 p2 p3 : Pos} {x y z : Str} {k : Nat}
theorem s1_for1 [C : Ctx X W] {out : S → Env X.K} {rb : D → S → Res S} (i : Nat) (s0 : S) (hi : IF' X W ρ (.Name x p1) iter rs) (hw : Wk ρ (out s0)) (hn1 : NmOk X i x)
    (hb : ∀ s (a : D), SV X W rk ((out s).set i (cVal a)) body (rb a s) (fun s => .nx (out s))) (hs : ∀ x, foldedSetIterable iter X.env x = pure x := by intro _; rfl) :
    S1 X W rk ρ (.For (.Name x p1) iter body [] pos) (rs.bd fun ds => forN rb ds s0) (fun s => .nx (out s)) := by
  exact s1_for (vs := [i]) (f := fun s a => .ok ((out s).set i (cVal a))) hi hw (fun _ _ _ z => nomatch z) (fun s => gg1 i C.nd hn1 (by simp)) (fun s d ρ' e => by cases e; exact hb s d) hs
theorem s1_for2 [C : Ctx X W] {out : S → Env X.K} {rb : D → D → S → Res S} (i : Nat) (j : Nat) (s0 : S) (hi : IF' X W ρ (.Tuple [.Name x p1, .Name y p2] k p0) iter rs) (hw : Wk ρ (out s0)) (hn1 : NmOk X i x) (hn2 : NmOk X j y) (ha : AsOk X (.Name x p1) [.Name y p2] ∧ AsOk X (.Name y p2) [] ∧ TupOk X [.Name x p1, .Name y p2] 2)
    (hb : ∀ s (a b : D), SV X W rk (((out s).set i (cVal a)).set j (cVal b)) body (rb a b s) (fun s => .nx (out s))) (hs : ∀ x, foldedSetIterable iter X.env x = pure x := by intro _; rfl) :
    S1 X W rk ρ (.For (.Tuple [.Name x p1, .Name y p2] k p0) iter body [] pos) (rs.bd fun ds => forN (fun d s => un2 d fun a b => rb a b s) ds s0) (fun s => .nx (out s)) := by
  have q := s1_for (pos := pos) (rk := rk) (s0 := s0) (vs := [i, j]) (f := fun s d => un2 d fun a b => .ok (((out s).set i (cVal a)).set j (cVal b))) (rb := fun d s => un2 d fun a b => rb a b s) hi hw (fun s d n => un2_ex (fun _ _ _ => ok_ne) n) (fun s => gg2 i j C.calm C.nd hn1 hn2 (by simp) (by simp) ha.1 ha.2.1 ha.2.2) (fun s d ρ' e => by obtain ⟨a, b, rfl, e2⟩ := un2_ok e; cases e2; exact hb s a b) hs
  simp only [un2_bd] at q
  exact q
theorem s1_for3 [C : Ctx X W] {out : S → Env X.K} {rb : D → D → D → S → Res S} (i : Nat) (j : Nat) (l : Nat) (s0 : S) (hi : IF' X W ρ (.Tuple [.Name x p1, .Name y p2, .Name z p3] k p0) iter rs) (hw : Wk ρ (out s0)) (hn1 : NmOk X i x) (hn2 : NmOk X j y) (hn3 : NmOk X l z) (ha : AsOk X (.Name x p1) [.Name y p2, .Name z p3] ∧ AsOk X (.Name y p2) [.Name z p3] ∧ AsOk X (.Name z p3) [] ∧ TupOk X [.Name x p1, .Name y p2, .Name z p3] 3)
    (hb : ∀ s (a b c : D), SV X W rk ((((out s).set i (cVal a)).set j (cVal b)).set l (cVal c)) body (rb a b c s) (fun s => .nx (out s))) (hs : ∀ x, foldedSetIterable iter X.env x = pure x := by intro _; rfl) :
    S1 X W rk ρ (.For (.Tuple [.Name x p1, .Name y p2, .Name z p3] k p0) iter body [] pos) (rs.bd fun ds => forN (fun d s => un3 d fun a b c => rb a b c s) ds s0) (fun s => .nx (out s)) := by
  have q := s1_for (pos := pos) (rk := rk) (s0 := s0) (vs := [i, j, l]) (f := fun s d => un3 d fun a b c => .ok ((((out s).set i (cVal a)).set j (cVal b)).set l (cVal c))) (rb := fun d s => un3 d fun a b c => rb a b c s) hi hw (fun s d n => un3_ex (fun _ _ _ _ => ok_ne) n) (fun s => gg3 i j l C.calm C.nd hn1 hn2 hn3 (by simp) (by simp) (by simp) ha.1 ha.2.1 ha.2.2.1 ha.2.2.2) (fun s d ρ' e => by obtain ⟨a, b, c, rfl, e2⟩ := un3_ok e; cases e2; exact hb s a b c) hs
  simp only [un3_bd] at q
  exact q
theorem s1_forC1 [C : Ctx X W] {out : S → Env X.K} {rb : D → S → Res (Ctl S)} (i : Nat) (s0 : S) (hi : IF' X W ρ (.Name x p1) iter rs) (hw : Wk ρ (out s0)) (hn1 : NmOk X i x)
    (hb : ∀ s (a : D), SV X W rk ((out s).set i (cVal a)) body (rb a s) (fun t => match t with | .next s => .nx (out s) | .ret d => .rt d)) (hs : ∀ x, foldedSetIterable iter X.env x = pure x := by intro _; rfl) :
    S1 X W rk ρ (.For (.Name x p1) iter body [] pos) (rs.bd fun ds => forC rb ds s0) (fun t => match t with | .next s => .nx (out s) | .ret d => .rt d) := by
  exact s1_forC (vs := [i]) (f := fun s a => .ok ((out s).set i (cVal a))) hi hw (fun _ _ _ z => nomatch z) (fun s => gg1 i C.nd hn1 (by simp)) (fun s d ρ' e => by cases e; exact hb s d) hs
theorem s1_forC2 [C : Ctx X W] {out : S → Env X.K} {rb : D → D → S → Res (Ctl S)} (i : Nat) (j : Nat) (s0 : S) (hi : IF' X W ρ (.Tuple [.Name x p1, .Name y p2] k p0) iter rs) (hw : Wk ρ (out s0)) (hn1 : NmOk X i x) (hn2 : NmOk X j y) (ha : AsOk X (.Name x p1) [.Name y p2] ∧ AsOk X (.Name y p2) [] ∧ TupOk X [.Name x p1, .Name y p2] 2)
    (hb : ∀ s (a b : D), SV X W rk (((out s).set i (cVal a)).set j (cVal b)) body (rb a b s) (fun t => match t with | .next s => .nx (out s) | .ret d => .rt d)) (hs : ∀ x, foldedSetIterable iter X.env x = pure x := by intro _; rfl) :
    S1 X W rk ρ (.For (.Tuple [.Name x p1, .Name y p2] k p0) iter body [] pos) (rs.bd fun ds => forC (fun d s => un2 d fun a b => rb a b s) ds s0) (fun t => match t with | .next s => .nx (out s) | .ret d => .rt d) := by
  have q := s1_forC (pos := pos) (rk := rk) (s0 := s0) (vs := [i, j]) (f := fun s d => un2 d fun a b => .ok (((out s).set i (cVal a)).set j (cVal b))) (rb := fun d s => un2 d fun a b => rb a b s) hi hw (fun s d n => un2_ex (fun _ _ _ => ok_ne) n) (fun s => gg2 i j C.calm C.nd hn1 hn2 (by simp) (by simp) ha.1 ha.2.1 ha.2.2) (fun s d ρ' e => by obtain ⟨a, b, rfl, e2⟩ := un2_ok e; cases e2; exact hb s a b) hs
  simp only [un2_bd] at q
  exact q
theorem s1_forC3 [C : Ctx X W] {out : S → Env X.K} {rb : D → D → D → S → Res (Ctl S)} (i : Nat) (j : Nat) (l : Nat) (s0 : S) (hi : IF' X W ρ (.Tuple [.Name x p1, .Name y p2, .Name z p3] k p0) iter rs) (hw : Wk ρ (out s0)) (hn1 : NmOk X i x) (hn2 : NmOk X j y) (hn3 : NmOk X l z) (ha : AsOk X (.Name x p1) [.Name y p2, .Name z p3] ∧ AsOk X (.Name y p2) [.Name z p3] ∧ AsOk X (.Name z p3) [] ∧ TupOk X [.Name x p1, .Name y p2, .Name z p3] 3)
    (hb : ∀ s (a b c : D), SV X W rk ((((out s).set i (cVal a)).set j (cVal b)).set l (cVal c)) body (rb a b c s) (fun t => match t with | .next s => .nx (out s) | .ret d => .rt d)) (hs : ∀ x, foldedSetIterable iter X.env x = pure x := by intro _; rfl) :
    S1 X W rk ρ (.For (.Tuple [.Name x p1, .Name y p2, .Name z p3] k p0) iter body [] pos) (rs.bd fun ds => forC (fun d s => un3 d fun a b c => rb a b c s) ds s0) (fun t => match t with | .next s => .nx (out s) | .ret d => .rt d) := by
  have q := s1_forC (pos := pos) (rk := rk) (s0 := s0) (vs := [i, j, l]) (f := fun s d => un3 d fun a b c => .ok ((((out s).set i (cVal a)).set j (cVal b)).set l (cVal c))) (rb := fun d s => un3 d fun a b c => rb a b c s) hi hw (fun s d n => un3_ex (fun _ _ _ _ => ok_ne) n) (fun s => gg3 i j l C.calm C.nd hn1 hn2 hn3 (by simp) (by simp) (by simp) ha.1 ha.2.1 ha.2.2.1 ha.2.2.2) (fun s d ρ' e => by obtain ⟨a, b, c, rfl, e2⟩ := un3_ok e; cases e2; exact hb s a b c) hs
  simp only [un3_bd] at q
  exact q
/-- a, b = e -/
theorem s1_un2 [C : Ctx X W] {e : Expr} {r : Res D} (i j : Nat) (he : EG X W ρ .V e r) (hn1 : NmOk X i x) (hn2 : NmOk X j y) (ha : AsOk X (.Name x p1) [.Name y p2] ∧ AsOk X (.Name y p2) [] ∧ TupOk X [.Name x p1, .Name y p2] 2)
    (hs : swapsWithSole [.Tuple [.Name x p1, .Name y p2] k p0] e pos.line X.env = pure false := by rfl) (hw : swappedStores [.Tuple [.Name x p1, .Name y p2] k p0] e X.env = pure none := by rfl)
    (h1 : (assignEach [.Tuple [.Name x p1, .Name y p2] k p0] X.env).map (·.2) = [assign (.Tuple [.Name x p1, .Name y p2] k p0) X.env] := by rfl) :
    S1 X W rk ρ (.Assign [.Tuple [.Name x p1, .Name y p2] k p0] e pos) (r.bd fun d => un2 d fun a b => .ok (a, b)) (fun s : D × D => .nx ((ρ.set i (cVal s.1)).set j (cVal s.2))) := by
  have q := s1_unpack (rk := rk) (pos := pos) he (gg2 (k := k) (pos := p0) (vs := [i, j]) (ρ := ρ) i j C.calm C.nd hn1 hn2 (by simp) (by simp) ha.1 ha.2.1 ha.2.2) (fun d n => un2_ex (fun _ _ _ => ok_ne) n) hs hw h1
  refine s1_map (T := Env X.K) (h := fun s : D × D => (ρ.set i (cVal s.1)).set j (cVal s.2)) (fin2 := fun ρ' => .nx ρ') (fun _ => rfl) ?_
  have e : (fun d => un2 d fun a b => Res.ok ((ρ.set i (cVal a)).set j (cVal b))) = fun d => (un2 d fun a b => Res.ok (a, b)).bd fun s : D × D => Res.ok ((ρ.set i (cVal s.1)).set j (cVal s.2)) := funext fun d => by unfold un2; split <;> rfl
  rw [e, ← bd_bd] at q
  exact q
theorem s1_un3 [C : Ctx X W] {e : Expr} {r : Res D} (i j l : Nat) (he : EG X W ρ .V e r) (hn1 : NmOk X i x) (hn2 : NmOk X j y) (hn3 : NmOk X l z) (ha : AsOk X (.Name x p1) [.Name y p2, .Name z p3] ∧ AsOk X (.Name y p2) [.Name z p3] ∧ AsOk X (.Name z p3) [] ∧ TupOk X [.Name x p1, .Name y p2, .Name z p3] 3)
    (hs : swapsWithSole [.Tuple [.Name x p1, .Name y p2, .Name z p3] k p0] e pos.line X.env = pure false := by rfl) (hw : swappedStores [.Tuple [.Name x p1, .Name y p2, .Name z p3] k p0] e X.env = pure none := by rfl)
    (h1 : (assignEach [.Tuple [.Name x p1, .Name y p2, .Name z p3] k p0] X.env).map (·.2) = [assign (.Tuple [.Name x p1, .Name y p2, .Name z p3] k p0) X.env] := by rfl) :
    S1 X W rk ρ (.Assign [.Tuple [.Name x p1, .Name y p2, .Name z p3] k p0] e pos) (r.bd fun d => un3 d fun a b c => .ok (a, b, c)) (fun s : D × D × D => .nx (((ρ.set i (cVal s.1)).set j (cVal s.2.1)).set l (cVal s.2.2))) := by
  have q := s1_unpack (rk := rk) (pos := pos) he (gg3 (k := k) (pos := p0) (vs := [i, j, l]) (ρ := ρ) i j l C.calm C.nd hn1 hn2 hn3 (by simp) (by simp) (by simp) ha.1 ha.2.1 ha.2.2.1 ha.2.2.2) (fun d n => un3_ex (fun _ _ _ _ => ok_ne) n) hs hw h1
  refine s1_map (T := Env X.K) (h := fun s : D × D × D => ((ρ.set i (cVal s.1)).set j (cVal s.2.1)).set l (cVal s.2.2)) (fin2 := fun ρ' => .nx ρ') (fun _ => rfl) ?_
  have e : (fun d => un3 d fun a b c => Res.ok (((ρ.set i (cVal a)).set j (cVal b)).set l (cVal c))) = fun d => (un3 d fun a b c => Res.ok (a, b, c)).bd fun s : D × D × D => Res.ok (((ρ.set i (cVal s.1)).set j (cVal s.2.1)).set l (cVal s.2.2)) := funext fun d => by unfold un3; split <;> rfl
  rw [e, ← bd_bd] at q
  exact q
end
end DL
/-! More rules: slices, ranges as arguments, is True, a list of one's own handed out. -/
namespace DL
open PySem L2 PySem.Spec PyProof.Rows
theorem boot_int : bootBuiltins "int" = some (.type "int") := by decide +kernel
theorem boot_bool : bootBuiltins "bool" = some (.type "bool") := by decide +kernel
theorem boot_str : bootBuiltins "str" = some (.type "str") := by decide +kernel
theorem boot_list : bootBuiltins "list" = some (.type "list") := by decide +kernel
theorem boot_tuple : bootBuiltins "tuple" = some (.type "tuple") := by decide +kernel
theorem boot_range : bootBuiltins "range" = some (.type "range") := by decide +kernel
theorem boot_len : bootBuiltins "len" = some (.builtin "len") := by decide +kernel
theorem boot_sum : bootBuiltins "sum" = some (.builtin "sum") := by decide +kernel
theorem boot_all : bootBuiltins "all" = some (.builtin "all") := by decide +kernel
theorem boot_any : bootBuiltins "any" = some (.builtin "any") := by decide +kernel
theorem boot_max : bootBuiltins "max" = some (.builtin "max") := by decide +kernel
theorem boot_min : bootBuiltins "min" = some (.builtin "min") := by decide +kernel
theorem boot_sorted : bootBuiltins "sorted" = some (.builtin "sorted") := by decide +kernel
def isNV (d e : D) : Res D := if isN e then isNoneV d else .stuck
def notNV (d e : D) : Res D := if isN e then notNoneV d else .stuck
section
variable {X : Cx} {W : WX} {ρ : Env X.K} {m : Md} {e a b c : Expr} {r ra rb rc : Res D} {pos p p2 pos2 : Pos}
/-- a list of one's own, handed out (the slot is not used any more) -/
theorem sv_own {T : Type} {fin : T → Fin X.K} {mk : D → T} {x : Str} {d : D} (i : Nat) (hρ : ρ[i]? = some (cRes d)) (hm : ∀ d, fin (mk d) = .rt d) (hN : X.N[i]? = some x := by rfl) (hv : Vis X.env.scope x := by first | exact Or.inl rfl | exact Or.inr (Or.inl rfl) | exact Or.inr (Or.inr rfl)) (hd : (x == ("__debug__" : Str)) = false := by decide)
    (hcd : (x == ("__classdict__" : Str)) = false := by decide) : SV X W .O ρ [.Return (some (.Name x p)) pos] (.ok (mk d)) fin := by
  refine ⟨_, pss_one (ps_ret (pe_var hN hv hd hcd)), fun B H0 F H σ D g q => ?_⟩
  obtain ⟨ex, fh, ass, sl, hn, ho⟩ := g
  obtain ⟨v, as, h1, h2, y, h3, h4⟩ := sl.get hρ
  subst h3
  have z := q.ok (mk d) rfl
  rw [hm] at z
  exact ⟨y, h1, z y F H ex fh ⟨as, h4, fun a ha => by
    have := ho a (List.mem_flatten.mpr ⟨as, List.mem_of_getElem? h2, ha⟩)
    exact ⟨this.2, this.1⟩⟩⟩
theorem sv_ownD {x : Str} {d : D} (i : Nat) (hρ : ρ[i]? = some (cRes d)) (hN : X.N[i]? = some x := by rfl) (hv : Vis X.env.scope x := by first | exact Or.inl rfl | exact Or.inr (Or.inl rfl) | exact Or.inr (Or.inr rfl)) (hd : (x == ("__debug__" : Str)) = false := by decide)
    (hcd : (x == ("__classdict__" : Str)) = false := by decide) : SV X W .O ρ [.Return (some (.Name x p)) pos] (.ok d) Fin.rt := sv_own (mk := id) i hρ (fun _ => rfl) hN hv hd hcd
theorem c_isN' : CmpD X W .Is isNV := c_isN
theorem c_notN' : CmpD X W .IsNot notNV := c_notN
/-- is True, is False -/
def isBV (d e : D) : Res D := match d, e with | .bool x, .bool y => .ok (.bool (decide (x = y))) | .none, .bool _ => .ok (.bool false) | _, _ => .stuck
/-! slices -/
structure OG (X : Cx) (W : WX) (ρ : Env X.K) (e : Option Expr) (r : Res (Option Int)) : Prop where
  ex : ∃ t, PO X e t ∧ ∀ B H0 F H σ Q, Good B H0 F H ρ σ → Kn X W F H σ r (fun _ _ _ a b => a = b) Q → t σ H Q
def partV : D → Res (Option Int)
  | .int i => .ok (some i)
  | _ => .stuck
theorem og_none : OG X W ρ none (.ok Option.none) := ⟨_, po_none, fun B H0 F H σ Q g k => k.ret (Ex.refl _ _) g.fh rfl⟩
theorem og_some (h : EG X W ρ .T e r) : OG X W ρ (some e) (r.bd partV) := by
  obtain ⟨t, h1, h2⟩ := h
  refine ⟨_, po_some h1, fun B H0 F H σ Q g k => h2 B H0 F H σ _ g (Kn.bd k (fun _ _ _ _ _ _ _ h => h) fun d x F1 H1 _ e1 s1 q1 k1 => ?_)⟩
  cases d <;> first | exact absurd rfl k1.ns | skip
  cases tp_int q1
  exact ⟨_, rfl, k1.ret (Ex.refl _ _) s1 rfl⟩
/-- the places of a slice by ones -/
def cutD (ds : List D) (lo hi : Option Int) : List D := (ds.drop (HT.sIx ds.length 0 lo)).take (HT.sIx ds.length ds.length hi - HT.sIx ds.length 0 lo)
def slV (d : D) (lo hi : Option Int) : Res D := match d with
  | .list ds => .ok (.list (cutD ds lo hi))
  | .tuple ds => .ok (.tuple (cutD ds lo hi))
  | _ => .stuck
def slR (a : Res D) (l u : Res (Option Int)) : Res D := a.bd fun d => l.bd fun x => u.bd fun y => slV d x y
theorem dp_cut {K : PySem.W.Frag} {F : Hp} {xs : List V} {ds : List D} (lo hi : Option Int) (h : DpAll K F xs ds) : DpAll K F (cutV xs lo hi) (cutD ds lo hi) := by
  unfold cutV cutD
  rw [DpAll.length h]
  exact DpAll.take _ (DpAll.drop _ h)
theorem eg_slice {lo hi : Option Expr} {rl ru : Res (Option Int)} (ha : EG X W ρ .T a ra) (hl : OG X W ρ lo rl) (hu : OG X W ρ hi ru) : EG X W ρ .O (.Subscript a (.Slice lo hi none p2) pos) (slR ra rl ru) := by
  obtain ⟨ta, a1, a2⟩ := ha
  obtain ⟨tl, l1, l2⟩ := hl
  obtain ⟨tu, u1, u2⟩ := hu
  refine ⟨_, pe_slice (sl_list.or sl_tupA) a1 l1 u1, fun B H0 F H σ Q gd k => a2 B H0 F H σ _ gd (Kn.bd k acc_base fun d x F1 H1 _ e1 s1 q1 k1 => l2 B H0 F1 H1 σ _ (gd.go e1 s1) (Kn.bd k1 acc_base fun l l' F2 H2 _ e2 s2 q2 k2 => u2 B H0 F2 H2 σ _ ((gd.go e1 s1).go e2 s2) (Kn.bd k2 acc_base fun u u' F3 H3 _ e3 s3 q3 k3 => ?_)))⟩
  cases q2; cases q3
  have q := Tp.go (e2.trans e3) q1
  cases d <;> first | exact absurd rfl k3.ns | skip
  · obtain ⟨a, xs, rfl, g1, g2⟩ := tp_list q
    exact .inl ⟨a, xs, rfl, g1, fun p hp => kn_newL k3 s3 hp (dp_cut l u g2)⟩
  · rename_i ds _
    obtain ⟨a, xs, rfl, g1, g2⟩ := tp_tup q
    refine .inr ⟨a, xs, rfl, Same.tup s3 g1, fun hw => ?_, fun _ p hp => kn_newT k3 s3 hp (dp_cut l u g2)⟩
    have e : cutD ds l u = ds := by
      unfold cutD
      rw [DpAll.length g2] at hw
      rw [hw.1, hw.2, List.drop_zero, Nat.sub_zero, List.take_length]
    have k4 := k3.of_eq (r' := .ok (.tuple ds)) (by show Res.ok (PyData.tuple (cutD ds l u)) = _; rw [e])
    exact kn_flat k4 s3 rfl (.tup g1 g2)
/-- xs[::-1] of a list -/
def revV : D → Res D
  | .list ds => .ok (.list ds.reverse)
  | _ => .stuck
theorem eg_revL {k : Nat} {q1 q2 q3 : Pos} (ha : EG X W ρ .T a ra) : EG X W ρ .O (.Subscript a (.Slice none none (some (.UnaryOp .USub (.Constant (.int 1) k q1) q2)) q3) pos) (ra.bd revV) := by
  obtain ⟨ta, a1, a2⟩ := ha
  refine ⟨_, pe_revL a1, fun B H0 F H σ Q gd k => a2 B H0 F H σ _ gd (Kn.bd k acc_base fun d x F1 H1 _ e1 s1 q1 k1 => ?_)⟩
  cases d <;> first | exact absurd rfl k1.ns | skip
  obtain ⟨l, xs, rfl, g1, g2⟩ := tp_list q1
  exact ⟨l, xs, rfl, g1, fun p hp => kn_newL k1 s1 hp (DpAll.reverse g2)⟩
/-! ranges as arguments -/
theorem rgV_dp {K : PySem.W.Frag} {F : Hp} (lo hi : Int) : DpAll K F (rgV lo hi) (rangeL lo (hi - lo).toNat) := by
  unfold rgV rangeL
  generalize (hi - lo).toNat = n
  have h : ∀ l : List Nat, DpAll K F (l.map fun i => V.int (lo + (i : Nat))) (l.map fun (i : Nat) => PyData.int (lo + i)) := fun l => by
    induction l with
    | nil => exact .nil
    | cons x l ih => exact .cons (.int _) ih
  exact h _
def rgOk (lo hi : Int) : Bool := in62 lo && in62 hi && fits (hi - lo).toNat
theorem rgOk_of {lo hi : Int} (h : rgOk lo hi = true) : RgOk lo hi := by
  unfold rgOk at h
  rw [Bool.and_eq_true, Bool.and_eq_true] at h
  have h1 := of_decide_eq_true h.1.1
  have h2 := of_decide_eq_true h.1.2
  have h3 := of_decide_eq_true h.2
  exact ⟨h1.1, h1.2, h2.1, h2.2, h3⟩
def rgL (lo hi : Int) : Res (List D) := if rgOk lo hi then .ok (rangeL lo (hi - lo).toNat) else .stuck
def listRange1 (a : Res D) : Res D := a.bd fun | .int n => (rgL 0 n).bd fun ds => .ok (.list ds) | _ => .stuck
def listRange2 (a b : Res D) : Res D := bd2 a b fun | .int l, .int n => (rgL l n).bd fun ds => .ok (.list ds) | _, _ => .stuck
def tupRange1 (a : Res D) : Res D := a.bd fun | .int n => (rgL 0 n).bd fun ds => .ok (.tuple ds) | _ => .stuck
theorem rgL_ns {α : Type} {lo hi : Int} {f : List D → Res α} (h : (rgL lo hi).bd f ≠ .stuck) : rgOk lo hi = true ∧ (rgL lo hi).bd f = f (rangeL lo (hi - lo).toNat) := by
  unfold rgL at h ⊢
  cases c : rgOk lo hi with
  | false => rw [c] at h; exact absurd rfl h
  | true => exact ⟨rfl, rfl⟩
theorem eg_listRange1 [C : Ctx X W] (ha : EG X W ρ .T a ra) (hl : X.mg "list" = none) (hm : X.mg "range" = none) (hg : Gl X "range" := by rfl) (hg2 : Gl X "list" := by rfl) (na : starEach [a] X.env = (false, eval a X.env) :: starEach [] X.env := by rfl)
    (n2 : starEach [.Call (.Name "range" p2) [a] [] pos2] X.env = (false, eval (.Call (.Name "range" p2) [a] [] pos2) X.env) :: starEach [] X.env := by rfl) : EG X W ρ .O (.Call (.Name "list" p) [.Call (.Name "range" p2) [a] [] pos2] [] pos) (listRange1 ra) := by
  obtain ⟨ta, a1, a2⟩ := ha
  refine ⟨_, pe_listRg C.calm hg2 hl (prg_1 hg hm a1 na) n2, fun B H0 F H σ Q gd k => a2 B H0 F H σ _ gd (Kn.bd k acc_base fun d x F1 H1 _ e1 s1 q1 k1 => ?_)⟩
  cases d <;> first | exact absurd rfl k1.ns | skip
  cases tp_int q1
  obtain ⟨h1, h2⟩ := rgL_ns k1.ns
  exact ⟨_, rfl, rgOk_of h1, fun q hq => kn_newL (k1.of_eq h2) s1 hq (rgV_dp _ _)⟩
theorem eg_listRange2 [C : Ctx X W] (ha : EG X W ρ .T a ra) (hb : EG X W ρ .T b rb) (hl : X.mg "list" = none) (hm : X.mg "range" = none) (hg : Gl X "range" := by rfl) (hg2 : Gl X "list" := by rfl) (na : starEach [a, b] X.env = (false, eval a X.env) :: starEach [b] X.env := by rfl) (nb : starEach [b] X.env = (false, eval b X.env) :: starEach [] X.env := by rfl) (hp : (backTo pos2 (starEach [b] X.env)).any (·.1) = false := by rfl)
    (n2 : starEach [.Call (.Name "range" p2) [a, b] [] pos2] X.env = (false, eval (.Call (.Name "range" p2) [a, b] [] pos2) X.env) :: starEach [] X.env := by rfl) : EG X W ρ .O (.Call (.Name "list" p) [.Call (.Name "range" p2) [a, b] [] pos2] [] pos) (listRange2 ra rb) := by
  obtain ⟨ta, a1, a2⟩ := ha
  obtain ⟨tb, b1, b2⟩ := hb
  refine ⟨_, pe_listRg C.calm hg2 hl (prg_2 hg hm a1 b1 na nb hp) n2, fun B H0 F H σ Q gd k => a2 B H0 F H σ _ gd (Kn.bd k acc_base fun d x F1 H1 _ e1 s1 q1 k1 => b2 B H0 F1 H1 σ _ (gd.go e1 s1) (Kn.bd k1 acc_base fun d2 y F2 H2 _ e2 s2 q2 k2 => ?_))⟩
  cases d <;> first | exact absurd rfl k2.ns | skip
  cases d2 <;> first | exact absurd rfl k2.ns | skip
  cases tp_int q1; cases tp_int q2
  obtain ⟨h1, h2⟩ := rgL_ns k2.ns
  exact ⟨_, _, rfl, rfl, rgOk_of h1, fun q hq => kn_newL (k2.of_eq h2) s2 hq (rgV_dp _ _)⟩
theorem eg_tupRange1 [C : Ctx X W] (ha : EG X W ρ .T a ra) (hl : X.mg "tuple" = none) (hm : X.mg "range" = none) (hg : Gl X "range" := by rfl) (hg2 : Gl X "tuple" := by rfl) (na : starEach [a] X.env = (false, eval a X.env) :: starEach [] X.env := by rfl)
    (n2 : starEach [.Call (.Name "range" p2) [a] [] pos2] X.env = (false, eval (.Call (.Name "range" p2) [a] [] pos2) X.env) :: starEach [] X.env := by rfl) : EG X W ρ .V (.Call (.Name "tuple" p) [.Call (.Name "range" p2) [a] [] pos2] [] pos) (tupRange1 ra) := by
  obtain ⟨ta, a1, a2⟩ := ha
  refine ⟨_, pe_tupRg C.calm hg2 hl (prg_1 hg hm a1 na) n2, fun B H0 F H σ Q gd k => a2 B H0 F H σ _ gd (Kn.bd k acc_base fun d x F1 H1 _ e1 s1 q1 k1 => ?_)⟩
  cases d <;> first | exact absurd rfl k1.ns | skip
  cases tp_int q1
  obtain ⟨h1, h2⟩ := rgL_ns k1.ns
  exact ⟨_, rfl, rgOk_of h1, fun q hq => kn_newT (k1.of_eq h2) s1 hq (rgV_dp _ _)⟩
/-- len(range(a, b, c)), c > 0 -/
def stepOk (x y z : Int) : Bool := in62 x && in62 y && decide (0 < z ∧ z < 1073741824)
def lenRange3 (a b c : Res D) : Res D := a.bd fun x => b.bd fun y => c.bd fun z => match x, y, z with
  | .int x, .int y, .int z => if stepOk x y z then .ok (.int (Builtin.Range.rangeSize x y z)) else .stuck
  | _, _, _ => .stuck
theorem range_size_nn {x y z : Int} (hz : 0 < z) : ∃ n : Nat, Builtin.Range.rangeSize x y z = n ∧ (x < y → (n : Int) ≤ y - x) ∧ (¬ x < y → n = 0) := by
  unfold Builtin.Range.rangeSize
  rw [if_pos (by omega)]
  by_cases h : x < y
  · rw [if_pos h]
    have h1 : 0 ≤ (y - x - 1) / z := Int.ediv_nonneg (by omega) (by omega)
    have h2 : (y - x - 1) / z ≤ y - x - 1 := Int.ediv_le_self _ (by omega)
    exact ⟨((y - x - 1) / z + 1).toNat, by omega, fun _ => by omega, fun z => absurd h z⟩
  · rw [if_neg h]
    exact ⟨0, rfl, fun z => absurd z h, fun _ => rfl⟩
theorem eg_lenRange3 [C : Ctx X W] (ha : EG X W ρ .T a ra) (hb : EG X W ρ .T b rb) (hc : EG X W ρ .T c rc) (hl : X.mg "len" = none) (hm : X.mg "range" = none) (hg : Gl X "range" := by rfl) (hg2 : Gl X "len" := by rfl) (na : starEach [a, b, c] X.env = (false, eval a X.env) :: starEach [b, c] X.env := by rfl) (nb : starEach [b, c] X.env = (false, eval b X.env) :: starEach [c] X.env := by rfl) (nc : starEach [c] X.env = (false, eval c X.env) :: starEach [] X.env := by rfl) (hp : (backTo pos2 (starEach [b, c] X.env)).any (·.1) = false := by rfl)
    (n2 : starEach [.Call (.Name "range" p2) [a, b, c] [] pos2] X.env = (false, eval (.Call (.Name "range" p2) [a, b, c] [] pos2) X.env) :: starEach [] X.env := by rfl) (hp2 : (backTo pos (starEach [] X.env)).any (·.1) = false := by rfl) : EG X W ρ .V (.Call (.Name "len" p) [.Call (.Name "range" p2) [a, b, c] [] pos2] [] pos) (lenRange3 ra rb rc) := by
  obtain ⟨ta, a1, a2⟩ := ha
  obtain ⟨tb, b1, b2⟩ := hb
  obtain ⟨tc, c1, c2⟩ := hc
  refine ⟨fun σ H Q => ta σ H fun x H1 => tb σ H1 fun y H2 => tc σ H2 fun z H3 => ∃ i j k, x = .int i ∧ y = .int j ∧ z = .int k ∧ stepOk i j k = true ∧ Q (.int (Builtin.Range.rangeSize i j k)) H3, ⟨fun pins s σ H Q I h => ?_⟩, fun B H0 F H σ Q gd k => a2 B H0 F H σ _ gd (Kn.bd k acc_base fun d x F1 H1 _ e1 s1 q1 k1 => b2 B H0 F1 H1 σ _ (gd.go e1 s1) (Kn.bd k1 acc_base fun d2 y F2 H2 _ e2 s2 q2 k2 => c2 B H0 F2 H2 σ _ ((gd.go e1 s1).go e2 s2) (Kn.bd k2 acc_base fun d3 z F3 H3 _ e3 s3 q3 k3 => ?_)))⟩
  · refine Call_ (ld_blt I hg2 hl boot_len (PyProof.Rows.callWith_builtin1 (args_cons ?_ n2) n2 hp2))
    refine Call_ (ld_blt I hg hm boot_range (PyProof.Rows.callWith_type1 (args_cons (thn (a1.run pins s σ H _ I h) fun v1 s1 ⟨x, H1, I1, r1, q1⟩ => args_cons (thn (b1.run pins s1 σ H1 _ I1 q1) fun v2 s2 ⟨y, H2, I2, r2, q2⟩ => args_cons (thn (c1.run pins s2 σ H2 _ I2 q2) fun v3 s3 ⟨z, H3, I3, r3, q3⟩ => args_nil ?_) nc) nb) na) na hp))
    obtain ⟨i, j, k, rfl, rfl, rfl, ok, q⟩ := q3
    obtain ⟨t1, rfl⟩ := r1
    obtain ⟨t2, rfl⟩ := r2
    obtain ⟨t3, rfl⟩ := r3
    unfold stepOk at ok
    rw [Bool.and_eq_true, Bool.and_eq_true] at ok
    have o1 := of_decide_eq_true ok.1.1
    have o2 := of_decide_eq_true ok.1.2
    have o3 := of_decide_eq_true ok.2
    obtain ⟨n, hn, hn1, hn2⟩ := range_size_nn (x := i) (y := j) o3.1
    refine call_range_3 (by omega) (args_nil ?_) (.inl (PyProof.noPylong_small (by omega)))
    refine PySem.call_len_range (IsRange.new _ _ _ _ _ _ _) hn (by
      by_cases h : i < j
      · have := hn1 h; omega
      · have := hn2 h; omega) ?_
    have I4 : Inv X pins σ H3 { s3 with heap := s3.heap.push { cls := .type "range", data := .fields #[.int i t1, .int j t2, .int k t3] } } := I3.kept (t' := s3.toks) fun b u e => Heap.get?_push_of_some _ e
    exact ⟨.int n, H3, (I4.tok _).tok _, ⟨_, rfl⟩, by rw [← hn]; exact q⟩
  · cases d <;> first | exact absurd rfl k3.ns | skip
    cases d2 <;> first | exact absurd rfl k3.ns | skip
    cases d3 <;> first | exact absurd rfl k3.ns | skip
    cases tp_int q1; cases tp_int q2; cases tp_int q3
    rename_i i _ j _ l _
    cases o : stepOk i j l with
    | false => exact absurd (by simp only [o]; rfl) k3.ns
    | true => exact ⟨i, j, l, rfl, rfl, rfl, o, kn_flat (k3.of_eq (r' := .ok (.int (Builtin.Range.rangeSize i j l))) (by simp only [o]; rfl)) s3 rfl (.int _)⟩
end
end DL
/-! A list emptied item by item within a comprehension. -/
namespace DL
open PySem L2
def popL (cur : List D) : D → Res (D × List D)
  | .int i => if decide (-(2 ^ 63) ≤ i ∧ i < 2 ^ 63) then match seqIndex? i cur.length with
    | some k => match cur[k]? with
      | some y => .ok (y, cur.eraseIdx k)
      | none => .stuck
    | none => .stuck
    else .stuck
  | _ => .stuck
def popsR (ix : D → List D → Res D) : List D → List D → Res (List D)
  | [], _ => .ok []
  | d :: ds, cur => (ix d cur).nx.bd fun i => (popL cur i).bd fun p => (popsR ix ds p.2).bd fun ys => .ok (p.1 :: ys)
theorem popL_ok {cur : List D} {i : D} {p : D × List D} (h : popL cur i = .ok p) : ∃ n k, i = .int n ∧ -(2 ^ 63) ≤ n ∧ n < 2 ^ 63 ∧ seqIndex? n cur.length = some k ∧ cur[k]? = some p.1 ∧ p.2 = cur.eraseIdx k := by
  cases i <;> first | (cases h; done) | skip
  rename_i n
  unfold popL at h
  dsimp only at h
  by_cases c : -(2 ^ 63) ≤ n ∧ n < 2 ^ 63
  · rw [if_pos (decide_eq_true c)] at h
    cases e : seqIndex? n cur.length with
    | none => rw [e] at h; cases h
    | some k =>
      rw [e] at h
      cases e2 : cur[k]? with
      | none => simp only [e2] at h; cases h
      | some y => simp only [e2] at h; cases h; exact ⟨n, k, rfl, c.1, c.2, e, e2, rfl⟩
  · rw [if_neg (fun z => c (of_decide_eq_true z))] at h
    cases h
theorem DpAll.erase {K : PySem.W.Frag} {F : Hp} : ∀ {vs : List V} {ds : List D} (k : Nat), DpAll K F vs ds → DpAll K F (vs.eraseIdx k) (ds.eraseIdx k)
  | _, _, k, .nil => .nil
  | _, _, 0, .cons _ t => t
  | _, _, k + 1, .cons h t => .cons h (DpAll.erase k t)
section
variable {K : PySem.W.Frag} {B H0 F H F' H' : Hp} {ρ : Env K} {σ : St} {c : Cell K} {e : Option V}
theorem Slots.app : ∀ {ρ : Env K} {σ : St} {ass : List (List Addr)} {as : List Addr}, Slots F H ρ σ ass → c.P F H e as → Slots F H (ρ ++ [c]) (σ ++ [e]) (ass ++ [as])
  | [], [], [], _, _, h => ⟨h, trivial⟩
  | d :: ρ, v :: σ, as :: ass, _, h, q => ⟨h.1, Slots.app h.2 q⟩
  | [], _ :: _, _, _, h, _ => by cases h
  | [], [], _ :: _, _, h, _ => by cases h
  | _ :: _, [], _, _, h, _ => by cases h
  | _ :: _, _ :: _, [], _, h, _ => by cases h
theorem Slots.unapp : ∀ {ρ : Env K} {σ : St} {ass : List (List Addr)}, ρ.length = σ.length → Slots F H (ρ ++ [c]) (σ ++ [e]) ass → ∃ bs as, ass = bs ++ [as] ∧ Slots F H ρ σ bs ∧ c.P F H e as
  | [], [], [as], _, h => ⟨[], as, rfl, trivial, h.1⟩
  | d :: ρ, v :: σ, as :: ass, l, h => by
    obtain ⟨bs, as', rfl, h1, h2⟩ := Slots.unapp (ass := ass) (by simpa using l) h.2
    exact ⟨as :: bs, as', rfl, ⟨h.1, h1⟩, h2⟩
  | [], _ :: _, _, l, _ => by simp at l
  | _ :: _, [], _, l, _ => by simp at l
  | [], [], [], _, h => by cases h
  | [], [], _ :: _ :: _, _, h => by cases h.2
  | _ :: _, _ :: _, [], _, h => by cases h
theorem Good.unapp (l : ρ.length = σ.length) (g : Good B H0 F H (ρ ++ [c]) (σ ++ [e])) : Good B H0 F H ρ σ := by
  obtain ⟨x, f, ass, h1, h2, h3⟩ := g
  obtain ⟨bs, as, rfl, h4, h5⟩ := Slots.unapp l h1
  rw [List.flatten_append] at h2 h3
  exact ⟨x, f, bs, h4, (List.nodup_append.mp h2).1, fun a ha => h3 a (List.mem_append_left _ ha)⟩
theorem Good.push {L : Addr} {xs : List V} {ds : List D} (g : Good B H0 F H ρ σ) (hL : H L = none) (q : DpAll K F xs ds) : Good B H0 F (upd H L (.lst xs)) (ρ ++ [cRes (.list ds)]) (σ ++ [some (.ref L)]) := by
  obtain ⟨x, f, ass, h1, h2, h3⟩ := g
  have th := h1.there
  have nL : ∀ a ∈ ass.flatten, a ≠ L := fun a ha z => th a ha (z ▸ hL)
  refine ⟨x.trans (Ex.newO hL), Same.updO f (Same.free f hL), ass ++ [[L]], Slots.app (h1.mono (Same.refl F) fun a ha => upd_ne (nL a ha)) ⟨.ref L, rfl, .inl ⟨ds, rfl, L, xs, rfl, rfl, upd_same, q⟩⟩, ?_, fun a ha => ?_⟩
  · rw [List.flatten_append]
    exact List.nodup_append.mpr ⟨h2, by simp, fun a ha b hb => by simp at hb; subst hb; exact nL a ha⟩
  · rw [List.flatten_append] at ha
    rcases List.mem_append.mp ha with z | z
    · exact h3 a z
    · simp at z; subst z; exact ⟨Same.free f hL, Same.free x.hh hL⟩
end
section
variable {X : Cx} {W : WX} {ρ : Env X.K} {A Bx N IX : Expr} {ra rb rn : Res D} {x left : Str} {scope : Scope} {p p1 p2 pr pr2 apos cpos spos pos pos2 pos3 : Pos} {k2 : Nat} {d0 : D} {ix : D → List D → Res D}
/-- the slots while the list is emptied -/
def rhoP {K : PySem.W.Frag} (ρ : Env K) (j l : Nat) (a : D) (cur : List D) : Env K := ((wipeE ρ [j]).set j (cVal a)).set l (cRes (.list cur))
def tPop (K : PySem.W.Frag) (ρ : Env K) (j l : Nat) (ix : D → List D → Res D) : TE := fun σ H Q => ∃ B H0 F a cur c e, Good B H0 F H (rhoP ρ j l a cur ++ [c]) (σ ++ [e]) ∧ ∃ i k y, ix a cur = .ok (.int i) ∧ -(2 ^ 63) ≤ i ∧ i < 2 ^ 63 ∧ seqIndex? i cur.length = some k ∧ cur[k]? = some y ∧
  ∀ v F' H', Same F F' → Good B H0 F' H' (rhoP ρ j l a (cur.eraseIdx k) ++ [c]) (σ ++ [e]) → Dp K F' v y → Q v H'
theorem rhoP_len {K : PySem.W.Frag} (ρ : Env K) (j l : Nat) (a : D) (cur : List D) : (rhoP ρ j l a cur).length = ρ.length := by simp [rhoP, wipeE]
theorem Good.len {K : PySem.W.Frag} {B H0 F H : Hp} {ρ : Env K} {σ : St} (g : Good B H0 F H ρ σ) : ρ.length = σ.length := by
  obtain ⟨_, _, ass, h, _⟩ := g
  exact h.len.1
theorem rhoP_l {K : PySem.W.Frag} {ρ : Env K} {j l : Nat} {a : D} {cur : List D} (h : l < ρ.length) : (rhoP ρ j l a cur)[l]? = some (cRes (.list cur)) := by
  unfold rhoP
  rw [List.getElem?_set_self (by simpa [wipeE] using h)]
theorem rhoP_set {K : PySem.W.Frag} {ρ : Env K} {j l : Nat} {a : D} {cur cur' : List D} : (rhoP ρ j l a cur).set l (cRes (.list cur')) = rhoP ρ j l a cur' := by unfold rhoP; rw [List.set_set]
/-- one item taken out -/
theorem pe_pop [C : Ctx X W] {j l : Nat} (hl : l < ρ.length) (hN : X.N[l]? = some left) (he : ∀ a cur, EG X W (rhoP ρ j l a cur) .T IX (ix a cur))
    (hv : Vis X.env.scope left) (hd : (left == ("__debug__" : Str)) = false) (hcd : (left == ("__classdict__" : Str)) = false)
    (hbase : attributeBase (.Name left p2) "pop" X.env (eval (.Name left p2) X.env) = eval (.Name left p2) X.env)
    (hfew : ((backTo cpos (starEach [IX] X.env)).all (fun x => !x.1) && (backToKw cpos (keywordEach [] X.env)).all (fun x => x.1.isSome) && decide (([IX] : List Expr).length + ([] : List Keyword).length + (if ([] : List Keyword).isEmpty then 0 else 1) < 30)) = true)
    (hline : (apos.endLine == cpos.line) = true) (hs : starEach [IX] X.env = (false, eval IX X.env) :: starEach [] X.env) (hplain : (backTo cpos (starEach [] X.env)).any (·.1) = false) :
    PE X (.Call (.Attribute (.Name left p2) "pop" apos) [IX] [] cpos) (tPop X.K ρ j l ix) := by
  refine ⟨fun pins s' σ H Q I ⟨B, H0, F, a, cur, c, e, g, i, k, y, h1, h2, h3, h4, h5, h6⟩ => ?_⟩
  obtain ⟨t, t1, t2⟩ := he a cur
  have gl := rhoP_l (ρ := ρ) (j := j) (a := a) (cur := cur) hl
  have len : (rhoP ρ j l a cur).length = σ.length := by
    have := g.len
    simp only [List.length_append, List.length_cons, List.length_nil] at this
    omega
  have lr := rhoP_len ρ j l a cur
  have g0 := g.unapp len
  obtain ⟨b, xs, o1, o2, o3, o4, o5⟩ := g0.own gl
  refine (pe_bm PySem.F.plainAttrs_list PySem.F.slot_list_pop PySem.F.type_list_pop mt_popAt (pe_var hN hv hd hcd) (pa_cons t1 pa_nil hs) hbase hfew hline hs hplain).run pins s' σ H Q I ?_
  refine ⟨_, o1, .inl ⟨rfl, _, SqL.of o2⟩, t2 B H0 F H σ _ g0 ⟨(fun z => by rw [h1] at z; cases z), (fun d ed v F1 H1 x s ac => ?_), (fun n z => by rw [h1] at z; cases z)⟩⟩
  rw [h1] at ed
  cases ed
  cases tp_int ac
  have g1 := g.go x s
  have gl2 : (rhoP ρ j l a cur ++ [c])[l]? = some (cRes (.list cur)) := by rw [List.getElem?_append_left (by omega)]; exact gl
  obtain ⟨b2, xs2, q1, q2, q3, q4, q5⟩ := g1.own gl2
  rw [List.getElem?_append_left (by omega), o1] at q1
  cases q1
  obtain ⟨v, v1, v2⟩ := DpAll.get q4 h5
  refine ⟨b, xs2, i, k, v, rfl, rfl, q2, h2, h3, by rw [DpAll.length q4]; exact h4, v1, h6 v F1 _ x.ff ?_ v2⟩
  have q6 := q5 _ _ (DpAll.erase k q4)
  rw [List.set_append_left _ _ (by omega), rhoP_set] at q6
  exact q6
abbrev Blk5 (X : Cx) (scope : Scope) (φ : Cx → Prop) : Prop := ∀ (s : Shared) (H : Hp) (C : Addr) (cl : List (Str × Addr)) (fp : List Addr), φ (X.blk s H scope (compEnvC scope cl C X.env) fp)
theorem set_none {σ : St} {j : Nat} {x : Option V} : wipe ((wipe σ [j]).set j x) [j] = wipe σ [j] := by simp [wipe, List.set_set]
theorem rhoP_wipe {K : PySem.W.Frag} {ρ : Env K} {j l : Nat} {a : D} {cur : List D} (h : l ≠ j) : (rhoP ρ j l a cur).set j cAny = (wipeE ρ [j]).set l (cRes (.list cur)) := by
  unfold rhoP
  rw [List.set_comm _ _ h, List.set_set]
  simp only [wipeE, List.set_set]
theorem rhoP_of {K : PySem.W.Frag} {ρ : Env K} {j l : Nat} {a : D} {cur : List D} (h : l ≠ j) : ((wipeE ρ [j]).set l (cRes (.list cur))).set j (cVal a) = rhoP ρ j l a cur := by
  unfold rhoP
  rw [List.set_comm _ _ h]
theorem popsR_nx (ix : D → List D → Res D) : ∀ (ds cur : List D) (n : Str), popsR ix ds cur ≠ .exc n
  | [], _, n => fun z => nomatch z
  | d :: ds, cur, n => by
    unfold popsR
    cases ix d cur with
    | ok i =>
      simp only [nx_ok, bd_ok]
      cases e : popL cur i with
      | ok q =>
        simp only [bd_ok]
        cases e2 : popsR ix ds q.2 with
        | ok xs => exact fun z => nomatch z
        | exc m => exact absurd e2 (popsR_nx ix ds q.2 m)
        | stuck => exact fun z => nomatch z
      | exc m =>
        exfalso
        unfold popL at e
        cases i <;> try (cases e; done)
        dsimp only at e
        split at e <;> try (cases e; done)
        split at e <;> try (cases e; done)
        split at e <;> cases e
      | stuck => exact fun z => nomatch z
    | exc m => exact fun z => nomatch z
    | stuck => exact fun z => nomatch z
/-- the end of a def that draws unlike items -/
theorem sv_popRet [C : Ctx X W] {rk : Md} [NPk : rk.NP] (j l : Nat) (hlj : l ≠ j) (hj : j < ρ.length) (hρ : ρ[l]? = some (cRes d0)) (ha : EG X W ρ .V A ra) (hb : EG X W ρ .V Bx rb) (hn : EG X W ρ .T N rn)
    (ok : BlkOk X.N X.env.scope scope [(x, j)]) (hn1 : Blk5 X scope fun Y => NmOk Y j x)
    (hp : Blk5 X scope fun Y => PE Y (.Call (.Attribute (.Name left p2) "pop" apos) [IX] [] cpos) (tPop X.K ρ j l ix))
    (hmr : X.mg "range" = none) (hmt : X.mg "tuple" = none) (hv : bootBuiltins ("tuple" : Str) = some (.type "tuple")) (hgr : Gl X "range" := by rfl) (hgt : Gl X "tuple" := by rfl)
    (hsr : starEach [N] X.env = [(false, eval N X.env)] := by rfl) (hfs : ∀ y, foldedSetIterable (.Call (.Name "range" pr) [N] [] pr2) X.env y = pure y := by intro _; rfl)
    (hst : starEach [.ListComp (.Call (.Attribute (.Name left p2) "pop" apos) [IX] [] cpos) [⟨.Name x p1, .Call (.Name "range" pr) [N] [] pr2, [], 0⟩] scope pos] X.env = (false, eval (.ListComp (.Call (.Attribute (.Name left p2) "pop" apos) [IX] [] cpos) [⟨.Name x p1, .Call (.Name "range" pr) [N] [] pr2, [], 0⟩] scope pos) X.env) :: starEach [] X.env := by rfl)
    (hpl : (backTo pos2 (starEach [] X.env)).any (·.1) = false := by rfl)
    (t3 : starEach [.Call (.Name "tuple" p) [.ListComp (.Call (.Attribute (.Name left p2) "pop" apos) [IX] [] cpos) [⟨.Name x p1, .Call (.Name "range" pr) [N] [] pr2, [], 0⟩] scope pos] [] pos2] X.env = (false, eval (.Call (.Name "tuple" p) [.ListComp (.Call (.Attribute (.Name left p2) "pop" apos) [IX] [] cpos) [⟨.Name x p1, .Call (.Name "range" pr) [N] [] pr2, [], 0⟩] scope pos] [] pos2) X.env) :: starEach [] X.env := by rfl)
    (t2 : ∀ e : List Expr, starEach (Bx :: e) X.env = (false, eval Bx X.env) :: starEach e X.env := by intro _; rfl)
    (t1 : ∀ e : List Expr, starEach (A :: e) X.env = (false, eval A X.env) :: starEach e X.env := by intro _; rfl) :
    SV X W rk ρ [.Return (some (.Tuple [A, Bx, .Call (.Name "tuple" p) [.ListComp (.Call (.Attribute (.Name left p2) "pop" apos) [IX] [] cpos) [⟨.Name x p1, .Call (.Name "range" pr) [N] [] pr2, [], 0⟩] scope pos] [] pos2] k2 pos3)) spos]
      (ra.bd fun a => rb.bd fun b => (rn.bd range1).bd fun ds => onL d0 fun cur => (popsR ix ds cur).bd fun ys => (tupR ys).bd fun t => .ok (.tuple [a, b, t])) Fin.rt := by
  obtain ⟨ta, a1, a2⟩ := ha
  obtain ⟨tb, b1, b2⟩ := hb
  obtain ⟨tn, n1, n2⟩ := hn
  have lc := pe_lc (pos := pos) C.calm C.nd (pi_range1 (tg := .Name x p1) hgr hmr (pa_cons n1 pa_nil hsr) hsr) ok (fun s H c cl fp => pg_name (pos := p1) (blk_nd C.nd) (hn1 s H c cl fp).1 (hn1 s H c cl fp).2.1 (hn1 s H c cl fp).2.2) (fun s H c cl fp => pts_nil) hp hfs
  have tc := pe_callTy (x := "tuple") (pos := pos2) (p := p) call_tuple_of hgt hmt hv (pa_cons lc pa_nil hst) (by decide) (by decide) hst hpl
  refine ⟨_, pss_one (ps_ret (pe_tup (pa_cons a1 (pa_cons b1 (pa_cons tc pa_nil t3) (t2 _)) (t1 _)))), fun B H0 F H σ D g q => a2 B H0 F H σ _ g (KS.kn g q fun a va F1 H1 _ x1 s1 ac g1 q1 => b2 B H0 F1 H1 σ _ g1 (KS.kn g1 q1 fun b vb F2 H2 _ x2 s2 bc g2 q2 => n2 B H0 F2 H2 σ _ g2 (KS.kn (r := rn) (f := fun n => (range1 n).bd fun ds => onL d0 fun cur => (popsR ix ds cur).bd fun ys => (tupR ys).bd fun t => .ok (.tuple [a, b, t])) g2 (q2.of_eq (by rw [bd_bd])) fun n vn F3 H3 _ x3 s3 nc g3 q3 => ?_)))⟩
  cases n <;> first | exact absurd rfl q3.ns | skip
  cases tp_int nc
  rename_i many _
  cases c : in62 many with
  | false => exact absurd (by simp [range1, c]) q3.ns
  | true =>
  have c' := of_decide_eq_true c
  have q4 := q3.of_eq (show _ = onL d0 fun cur => (popsR ix (rangeL 0 many.toNat) cur).bd fun ys => (tupR ys).bd fun t => .ok (.tuple [a, b, t]) by simp [range1, c])
  obtain ⟨cur0, rfl⟩ := onL_ns q4.ns
  rw [onL_list] at q4
  obtain ⟨out, w1⟩ : ∃ out, popsR ix (rangeL 0 many.toNat) cur0 = .ok out := by
    cases e : popsR ix (rangeL 0 many.toNat) cur0 with
    | ok out => exact ⟨out, rfl⟩
    | exc m => exact absurd e (popsR_nx _ _ _ _)
    | stuck => exact absurd (by rw [e]; rfl) q4.ns
  rw [w1, bd_ok] at q4
  cases c2 : fits out.length with
  | false => exact absurd (by simp [tupR, c2]) q4.ns
  | true =>
  have q5 := q4.of_eq (r' := .ok (.tuple [a, b, .tuple out])) (by simp [tupR, c2])
  have w3 := fits_le c2
  refine ⟨many, rfl, c'.1, c'.2, fun L hL => ?_⟩
  have hlen := g3.len
  have hlr : l < ρ.length := by
    rcases Nat.lt_or_ge l ρ.length with z | z
    · exact z
    · rw [List.getElem?_eq_none z] at hρ; cases hρ
  have gw : Good B H0 F3 H3 ((wipeE ρ [j]).set l (cRes (.list cur0))) (wipe σ [j]) := by
    have := g3.wipe [j]
    rwa [set_self (a := cRes (.list cur0)) (by simp only [wipeE]; rw [List.getElem?_set_ne (fun z => hlj z.symm)]; exact hρ)]
  have g4 := gw.push hL (xs := []) (ds := []) .nil
  have d1 : Dp X.K F3 va a := Dp.mono (x2.trans x3).ff _ _ ac
  have d2 : Dp X.K F3 vb b := Dp.mono x3.ff _ _ bc
  refine ⟨fun i m H4 => m = many.toNat - i ∧ i ≤ many.toNat ∧ ∃ F4 done cur more, Same F3 F4 ∧ Good B H0 F4 H4 ((wipeE ρ [j]).set l (cRes (.list cur)) ++ [cRes (.list done)]) (wipe σ [j] ++ [some (.ref L)]) ∧ popsR ix ((rangeL 0 many.toNat).drop i) cur = .ok more ∧ out = done ++ more, ⟨_, rfl, Nat.zero_le _, F3, [], cur0, out, Same.refl _, g4, w1, rfl⟩, ?_⟩
  rintro i m H4 ⟨rfl, hi, F4, done, cur, more, f34, gd, hm, ho⟩
  have lastc : ∀ cur : List PyData, ∀ c : Cell X.K, ((wipeE ρ [j]).set l (cRes (.list cur)) ++ [c])[ρ.length]? = some c := fun cur c => by
    rw [List.getElem?_append_right (by simp [wipeE])]
    simp [wipeE]
  have lasts : ∀ e : Option V, (wipe σ [j] ++ [e])[ρ.length]? = some e := fun e => by
    rw [List.getElem?_append_right (by rw [wipe_length]; omega)]
    simp [wipe_length, hlen]
  by_cases hlt : i < many.toNat
  · refine .inr ⟨hlt, fun H' => i + 1 ≤ many.toNat ∧ ∃ F4 done cur more, Same F3 F4 ∧ Good B H0 F4 H' ((wipeE ρ [j]).set l (cRes (.list cur)) ++ [cRes (.list done)]) (wipe σ [j] ++ [some (.ref L)]) ∧ popsR ix ((rangeL 0 many.toNat).drop (i + 1)) cur = .ok more ∧ out = done ++ more, fun H' z => ⟨many.toNat - (i + 1), by omega, rfl, z⟩, fun xv H5 y => ?_⟩
    obtain ⟨rfl, rfl⟩ := y
    have hdrop : (rangeL 0 many.toNat).drop i = .int (0 + (i : Int)) :: (rangeL 0 many.toNat).drop (i + 1) := by
      rw [List.drop_eq_getElem_cons (by simpa [rangeL] using hlt)]
      simp [rangeL]
    rw [hdrop] at hm
    unfold popsR at hm
    obtain ⟨iv, hiv⟩ : ∃ iv, ix (.int (0 + (i : Int))) cur = .ok iv := nx_ns fun z => by rw [z] at hm; cases hm
    rw [hiv, nx_ok, bd_ok] at hm
    cases hp : popL cur iv with
    | stuck => rw [hp] at hm; cases hm
    | exc n => rw [hp] at hm; cases hm
    | ok pr =>
    rw [hp, bd_ok] at hm
    cases hr : popsR ix ((rangeL 0 many.toNat).drop (i + 1)) pr.2 with
    | stuck => rw [hr] at hm; cases hm
    | exc n => rw [hr] at hm; cases hm
    | ok more' =>
    rw [hr, bd_ok] at hm
    cases hm
    obtain ⟨n, k, rfl, p1', p2', p3', p4', p5'⟩ := popL_ok hp
    have g5 := gd.setV (i := j) (Dp.int (K := X.K) (H := F4) (0 + (i : Int)))
    rw [List.set_append_left _ _ (by simpa [wipeE] using hj), List.set_append_left _ _ (by rw [wipe_length]; omega), rhoP_of hlj] at g5
    refine ⟨set_none, ?_⟩
    dsimp only [tYes]
    rw [if_pos rfl]
    refine ⟨B, H0, F4, .int (0 + (i : Int)), cur, cRes (.list done), some (.ref L), g5, n, k, pr.1, hiv, p1', p2', p3', p4', fun v F6 H6 s46 g7 dv => ?_⟩
    obtain ⟨L', acc, o1, o2, o3, o4, o5⟩ := g7.own (i := ρ.length) (ds := done) (by rw [List.getElem?_append_right (by simp [rhoP_len])]; simp [rhoP_len])
    rw [List.getElem?_append_right (by simp [wipe_length]; omega)] at o1
    simp only [List.length_set, wipe_length, hlen, Nat.sub_self, List.getElem?_cons_zero, Option.some.injEq, V.ref.injEq] at o1
    subst o1
    have la := DpAll.length o4
    have lo := congrArg List.length ho
    rw [List.length_append, List.length_cons] at lo
    refine ⟨acc, o2, by omega, hlt, F6, done ++ [pr.1], pr.2, more', f34.trans s46, ?_, hr, by rw [ho]; simp⟩
    have g8 := (o5 _ _ (DpAll.append o4 (.cons dv .nil))).wipe [j]
    have e1 : wipeE ((rhoP ρ j l (.int (0 + (i : Int))) (cur.eraseIdx k) ++ [cRes (.list done)]).set ρ.length (cRes (.list (done ++ [pr.1])))) [j] = (wipeE ρ [j]).set l (cRes (.list pr.2)) ++ [cRes (.list (done ++ [pr.1]))] := by
      rw [List.set_append_right _ _ (by rw [rhoP_len]; exact Nat.le_refl _), p5']
      show List.set (_ ++ _) j cAny = _
      rw [List.set_append_left _ _ (by rw [rhoP_len]; exact hj), rhoP_wipe hlj, rhoP_len, Nat.sub_self]
      rfl
    have e2 : wipe ((wipe σ [j]).set j (some (.int (0 + (i : Int)))) ++ [some (.ref L)]) [j] = wipe σ [j] ++ [some (.ref L)] := by
      show List.set (_ ++ _) j none = _
      rw [List.set_append_left _ _ (by rw [List.length_set, wipe_length]; omega)]
      show wipe _ [j] ++ _ = _
      rw [set_none]
    rw [e1] at g8
    simp only [List.map_cons, List.map_nil] at g8
    rw [e2] at g8
    exact g8
  · have e : i = many.toNat := by omega
    subst e
    refine .inl ⟨Nat.le_refl _, ?_⟩
    rw [List.drop_eq_nil_of_le (by simp [rangeL])] at hm
    cases hm
    rw [List.append_nil] at ho
    subst ho
    obtain ⟨L', acc, o1, o2, o3, o4, o5⟩ := gd.own (i := ρ.length) (ds := out) (lastc cur _)
    rw [lasts] at o1
    cases o1
    refine ⟨L, acc, rfl, .inl ⟨SqL.of o2, fun t ht => ?_⟩⟩
    refine ⟨by rw [PySem.sizeLine_eq]; exact (by decide : 3 ≤ 16777216), fun p hp => ?_⟩
    have fr1 := Same.free gd.fh ht
    have sb1 := same_both (p := t) (o := .tup acc) gd.fh
    have fr2 := Same.free sb1 hp
    have m1 : Same F4 (upd F4 t (.tup acc)) := same_upd fr1
    have m2 : Same (upd F4 t (.tup acc)) (upd (upd F4 t (.tup acc)) p (.tup [va, vb, .ref t])) := same_upd fr2
    have d3 : Dp X.K (upd F4 t (.tup acc)) (.ref t) (.tuple out) := .tup (SqT.of upd_same) (DpAll.mono m1 _ _ o4)
    refine q5.ok _ rfl (.ref p) _ _ ((gd.ex.trans (Ex.new gd.fh ht)).trans (Ex.new sb1 hp)) (same_both sb1) (acc_flat rfl ?_)
    exact .tup (SqT.of upd_same) (.cons (Dp.mono ((f34.trans m1).trans m2) _ _ d1) (.cons (Dp.mono ((f34.trans m1).trans m2) _ _ d2) (.cons (Dp.mono m2 _ _ d3) .nil)))
end
end DL
/-! enumerate over a tuple. -/
namespace DL
open PySem L2 PyProof.Rows
def IteT (K : PySem.W.Frag) (a : Addr) : It where
  go := fun i H => ∃ (ys : List V) (y : V), SqT K H a ys ∧ ys[i]? = some y
  yld := fun i H v G => ∃ T y, v = .ref T ∧ H T = none ∧ G = upd H T (.tup [.int (i : Nat), y]) ∧ ∀ ys, SqT K H a ys → ys[i]? = some y
  stop := fun i H => ∃ ys : List V, SqT K H a ys ∧ ys.length = i
theorem turn_enumT {P : Program} {w : World} {K : PySem.W.Frag} {elts : List Expr} {kk : Nat} {tpos : Pos} (a e it : Addr) :
    Turn P w K (.Tuple elts kk tpos) (IteT K a) [e, it] e (fun i h => (∃ o, IsEnum h e it ((i : Nat) : Int) o) ∧ h.IsTupleIter it a i ∧ e ≠ it ∧ a ≠ e ∧ a ≠ it) where
  mem := List.mem_cons_self
  obj := fun i h ⟨⟨o, he⟩, ⟨q, hq, _, dq⟩, _⟩ b hb => by
    rcases List.mem_cons.mp hb with rfl | hb
    · exact ⟨_, he, fun v z => nomatch z⟩
    · cases List.mem_singleton.mp hb
      exact ⟨q, hq, fun v z => by rw [dq] at z; cases z⟩
  keep := fun i h h' ⟨⟨o, he⟩, hi, hn⟩ k => ⟨⟨o, k e List.mem_cons_self _ he⟩, hi.at fun o q => k it (by simp) o q, hn⟩
  item := by
    rintro X rfl rfl rfl hc i pins s σ H E I hf ⟨⟨o, he⟩, hit, n1, n2, n3⟩ ⟨ys, y, hq, hy⟩
    obtain ⟨its, rv, p, _⟩ := I.tuple hq
    obtain ⟨u, hu, ru⟩ := rv.get hy
    have hel : e < s.heap.objs.size := Heap.lt_size he
    have hil : it < s.heap.objs.size := by obtain ⟨_, q, _⟩ := hit; exact Heap.lt_size q
    have hh : X.A.in1.handled = none := by simp [I.ok.hd hc]
    have lt : i < its.toArray.size := by
      rcases Nat.lt_or_ge i its.length with z | z
      · simpa using z
      · rw [List.getElem?_eq_none z] at hu; cases hu
    refine wpAny_pyNext_enum_itemC (Draws.tuple hh it a n3 its.toArray) he ⟨hit, show s.heap.IsTuple a its.toArray from p⟩ lt n1 (by simp [n1, Ne.symm n2]) fun x h1 tk px ho st hT hsz hk => ?_
    obtain rfl : x = u := by
      have : its[i]? = some x := by simpa using px
      rw [hu] at this; cases this; rfl
    refine ⟨_, rfl, wpAny_letOwnedTupleGo_enum (s := { s with heap := h1, toks := tk + 1 }) ho fun h2 he2 sb => ?_⟩
    have hT2 : h2.get? s.heap.objs.size = some { cls := .type "tuple", data := .seq #[.int (i : Int) tk, x] } := (sb.2 _ (Nat.ne_of_gt hel)).trans hT
    have new : ObjOk X.prog X.w (upd H s.heap.objs.size (.tup [.int (i : Nat), y])) h2 s.heap.objs.size (.tup [.int (i : Nat), y]) :=
      ⟨(by decide : 2 ≤ sizeLine), [.int (i : Int) tk, x], .cons ⟨_, rfl⟩ (.cons ru .nil), ⟨_, hT2, rfl, _, rfl⟩⟩
    have J : Inv X pins σ (upd H s.heap.objs.size (.tup [.int (i : Nat), y])) { s with heap := h2, toks := tk + 1 } :=
      I.turnedNew (ch := [e, it]) (fun b ob hb q => (sb.2 b fun z => hb (z ▸ List.mem_cons_self)).trans (hk b ob (fun z => hb (z ▸ List.mem_cons_self)) (fun z => hb (by simp [z])) q)) hf (Nat.le_refl _) new
    refine ⟨.ref s.heap.objs.size, _, J, rfl, ⟨_, y, rfl, I.hok.fresh (Nat.le_refl _), rfl, fun zs hz => by rw [I.tuple_inj hz hq]; exact hy⟩, ⟨⟨x, ?_⟩, st.1.at (fun o q => (sb.2 it n1.symm).trans q), n1, n2, n3⟩, fun b hb => ?_⟩
    · rw [show ((i + 1 : Nat) : Int) = (i : Int) + 1 from rfl]; exact he2
    · have lb : b < s.heap.objs.size := by
        rcases List.mem_cons.mp hb with rfl | z
        · exact hel
        · cases List.mem_singleton.mp z; exact hil
      rw [upd_ne (Nat.ne_of_lt lb)]
      exact (hf b hb).1
  done := by
    rintro X rfl rfl rfl hc i pins s σ H E I hf ⟨⟨o, he⟩, hit, n1, n2, n3⟩ ⟨ys, hq, hy⟩
    obtain ⟨its, rv, p, _⟩ := I.tuple hq
    have hh : X.A.in1.handled = none := by simp [I.ok.hd hc]
    obtain ⟨f0, f1, f2, f3, f4, f5⟩ := hf it (by simp)
    have sz : its.toArray.size = i := by rw [← hy]; simpa using rv.length.symm
    refine wpAny_pyNext_enum_endD (Draws.tuple hh it a n3 its.toArray) he ⟨by rw [sz]; exact hit, show s.heap.IsTuple a its.toArray from p⟩ fun h1 eb => ⟨rfl, I.turned (t' := s.toks) (fun b ob hb q => eb b ob hb q) f0 f1 f3 f4 f5⟩
  self := fun A i s Q E ⟨⟨_, he⟩, _⟩ h => wpAny_pyIter_enum he h
/-! ### the call -/
theorem meets_enumT (v : Value) (o : Obj) (G : Heap → Prop) (B : Begins v o G) :
    Meets (Builtin.«enumerate.__new__» ⟨[.type "enumerate", v], []⟩) (fun _ R s => G s.heap ∧
      R (.ok (.ret (.ref (s.heap.push o).objs.size))) { s with heap := (s.heap.push o).push { cls := .type "enumerate", data := .fields #[.none, .bool false, .ref s.heap.objs.size, rawInt 0, .none, .none] } }) :=
  .of_wp fun prog w A R s z => by
    obtain ⟨hp, g, d, tk, os⟩ := s
    obtain ⟨z1, z2⟩ := z
    have hsub := sub_enumerate
    have it : ∀ {A1 : Around} {E1 Q1 : Value → Shared → Prop}, Q1 (.ref hp.objs.size) ⟨hp.push o, g, d, tk, os⟩ → wpAny (model prog w) A1 (pyIter v) Q1 E1 ⟨hp, g, d, tk, os⟩ :=
      fun {A1 E1 Q1} q => B.iter prog w A1 E1 ⟨hp, g, d, tk, os⟩ Q1 z1 q
    wp_walk using it
    refine wpAny_stack_any fun st => wpAny_pure ?_
    split
    · rename_i c _ _ _ _ _
      cases (c == Value.type "enumerate") <;> (wp_walk using it; exact ⟨_, rfl, z2⟩)
    · wp_walk using it
      exact ⟨_, rfl, z2⟩
theorem call_enumT {prog : Program} {w : World} {A : Around} {E : Value → Shared → Prop} {s : Shared} {t : Addr} {items : Array Value} {Q : Value → Shared → Prop} (ht : s.heap.IsTuple t items)
    (h : ∀ G, IsEnum G (s.heap.objs.size + 1) s.heap.objs.size 0 .none → G.IsTupleIter s.heap.objs.size t 0 → (∀ b o, s.heap.get? b = some o → G.get? b = some o) → Q (.ref (s.heap.objs.size + 1)) { s with heap := G }) :
    wpAny (model prog w) A (call (.type "enumerate") [.ref t]) Q E s := by
  refine callType_new F.called_enumerate (by decide) (F.typeCall_enumerate_1 _) (F.newCall_enumerate_1 _) (fun obj => F.args_object_init_2 obj _) F.entry_enumerate_new (meets_enumT _ _ _ (begins_tuple t items)) ⟨ht, ?_⟩
  generalize ho : ({ cls := .type "tuple_iterator", data := .fields #[.ref t, .int 0 0] } : Obj) = o
  have free : o.isFreed = false := by rw [← ho]; rfl
  have size : (s.heap.push o).objs.size = s.heap.objs.size + 1 := Heap.size_push ..
  generalize hp : ({ cls := .type "enumerate", data := .fields #[.none, .bool false, .ref s.heap.objs.size, rawInt 0, .none, .none] } : Obj) = q
  have top : ((s.heap.push o).push q).get? (s.heap.objs.size + 1) = some q := by
    have := Heap.get?_push_size (s.heap.push o) (o := q) (by rw [← hp]; rfl)
    rwa [size] at this
  show _ ∧ _
  rw [size]
  have en : IsEnum ((s.heap.push o).push q) (s.heap.objs.size + 1) s.heap.objs.size 0 .none := top.trans (congrArg some hp.symm)
  exact ⟨⟨_, by rw [top, ← hp], rfl⟩, h _ en ⟨o, Heap.get?_push_of_some _ (Heap.get?_push_size _ free), by rw [← ho], by rw [← ho]; rfl⟩ fun b u x => Heap.get?_push_of_some _ (Heap.get?_push_of_some _ x)⟩
def iEnumT (K : PySem.W.Frag) (ta : TA) : TI := fun σ H R => ta σ H fun vs H1 => ∃ a ys, vs = [.ref a] ∧ SqT K H1 a ys ∧ R (IteT K a) H1
theorem pi_enumT {X : Cx} {e : Expr} {ta : TA} {p pos tpos : Pos} {elts : List Expr} {kk : Nat} (hg : Gl X "enumerate") (hm : X.mg "enumerate" = none) (ha : PA X [e] ta) (hs : starEach [e] X.env = [(false, eval e X.env)] := by rfl) :
    PI X (.Tuple elts kk tpos) (.Call (.Name "enumerate" p) [e] [] pos) (iEnumT X.K ta) := by
  refine ⟨fun pins s σ H R I z => Call_ (ld_blt I hg hm boot_enumerate (PyProof.Rows.callWith_type1 (thn (ha.run pos pins s σ H _ I z) fun us s1 ⟨vs, G, J, r1, q1⟩ => ?_) hs rfl))⟩
  obtain ⟨a, ys, rfl, hq, q⟩ := q1
  cases r1 with
  | cons r rr =>
    cases rr
    cases r
    obtain ⟨its, rv, p', _⟩ := J.tuple hq
    obtain ⟨oa, la, _⟩ := id p'
    have la := Heap.lt_size la
    refine call_enumT (show s1.heap.IsTuple a its.toArray from p') fun h1 he hit hk => wpAny_pyIter_enum he ?_
    have J2 : Inv X pins σ G { s1 with heap := h1 } := J.kept (t' := s1.toks) hk
    refine ⟨s1.heap.objs.size + 1, [s1.heap.objs.size + 1, s1.heap.objs.size], _, _, G, rfl, J2, turn_enumT a (s1.heap.objs.size + 1) s1.heap.objs.size, ⟨⟨.none, he⟩, hit, Nat.succ_ne_self _, Nat.ne_of_lt (Nat.lt_succ_of_lt la), Nat.ne_of_lt la⟩, fun b hb => ?_, q⟩
    have le : s1.heap.objs.size ≤ b := by
      rcases List.mem_cons.mp hb with rfl | y
      · exact Nat.le_succ _
      · cases List.mem_singleton.mp y; exact Nat.le_refl _
    exact J.fpOk le (J.hok.fresh le)
end DL
/-! enumerate and zip as what is walked. -/
namespace DL
open PySem L2 PyProof.Rows
def enumX (xs : List D) : List D := xs.zipIdx.map fun p => .tuple [.int (p.2 : Nat), p.1]
def zipX (xs ys : List D) : List D := (xs.zip ys).map fun p => .tuple [p.1, p.2]
def enumL : D → Res (List D)
  | .list xs => .ok (enumX xs)
  | _ => .stuck
def enumT : D → Res (List D)
  | .tuple xs => .ok (enumX xs)
  | _ => .stuck
def zipLL : D → D → Res (List D)
  | .list xs, .list ys => .ok (zipX xs ys)
  | _, _ => .stuck
def zipTT : D → D → Res (List D)
  | .tuple xs, .tuple ys => .ok (zipX xs ys)
  | _, _ => .stuck
theorem enumX_len (xs : List D) : (enumX xs).length = xs.length := by simp [enumX]
theorem enumX_get {xs : List D} {i : Nat} {d : D} (h : (enumX xs)[i]? = some d) : ∃ e, xs[i]? = some e ∧ d = .tuple [.int (i : Nat), e] := by
  unfold enumX at h
  rw [List.getElem?_map, List.getElem?_zipIdx] at h
  cases e : xs[i]? with
  | none => rw [e] at h; cases h
  | some y => rw [e] at h; simp at h; exact ⟨y, rfl, h.symm⟩
theorem zipX_len (xs ys : List D) : (zipX xs ys).length = min xs.length ys.length := by simp [zipX]
theorem zipX_get {xs ys : List D} {i : Nat} {d : D} (h : (zipX xs ys)[i]? = some d) : ∃ e f, xs[i]? = some e ∧ ys[i]? = some f ∧ d = .tuple [e, f] := by
  unfold zipX at h
  rw [List.getElem?_map] at h
  cases e : (xs.zip ys)[i]? with
  | none => rw [e] at h; cases h
  | some q =>
    rw [e] at h
    obtain ⟨z1, z2⟩ := List.getElem?_zip_eq_some.mp e
    simp at h
    exact ⟨q.1, q.2, z1, z2, h.symm⟩
theorem pair_step {K : PySem.W.Frag} {F H : Hp} {T : Addr} {v w : V} {d e : D} (s : Same F H) (hT : H T = none) (hv : Dp K F v d) (hw : Dp K F w e) : ∃ F3, Ex F H F3 (upd H T (.tup [v, w])) ∧ Same F3 (upd H T (.tup [v, w])) ∧ Dp K F3 (.ref T) (.tuple [d, e]) :=
  ⟨upd F T (.tup [v, w]), Ex.new s hT, same_both s, .tup (SqT.of upd_same) (DpAll.mono (same_upd (Same.free s hT)) _ _ (.cons hv (.cons hw .nil)))⟩
section
variable {X : Cx} {W : WX} {ρ : Env X.K} {a b : Expr} {ra rb : Res D} {p pos tpos : Pos} {elts : List Expr} {kk : Nat}
theorem ig_enumerateL (ha : EG X W ρ .T a ra) (hm : X.mg "enumerate" = none) (hg : Gl X "enumerate" := by rfl) (hs : starEach [a] X.env = [(false, eval a X.env)] := by rfl) : IG X W ρ (.Tuple elts kk tpos) (.Call (.Name "enumerate" p) [a] [] pos) (ra.bd enumL) := by
  obtain ⟨t, h1, h2⟩ := ha
  refine ⟨_, pi_enum hg hm (pa_cons h1 pa_nil hs) hs, fun B H0 F H σ Q gd k => h2 B H0 F H σ _ gd (Kn.bd k aG_base fun d x F1 H1 _ e1 s1 q1 k1 => ?_)⟩
  cases d <;> first | exact absurd rfl k1.ns | skip
  rename_i ds
  obtain ⟨l, xs, rfl, g1, g2⟩ := tp_list q1
  refine ⟨l, xs, rfl, g1, k1.ret (Ex.refl _ _) s1 fun F2 H2 e s => ?_⟩
  have g3 := Same.seq e.hh g1
  refine ⟨⟨xs, g3, by rw [enumX_len, DpAll.length g2]; exact Nat.le_refl _⟩, fun i d hd => ?_⟩
  obtain ⟨y, y1, rfl⟩ := enumX_get hd
  obtain ⟨v, v1, v2⟩ := DpAll.get g2 y1
  refine ⟨⟨xs, v, g3, v1⟩, fun x H3 ⟨T, u, z1, z2, z3, z4⟩ => ?_⟩
  have := z4 xs g3
  rw [v1] at this
  cases this; subst z1; subst z3
  exact pair_step s z2 (.int _) (Dp.mono e.ff _ _ v2)
theorem if_enumerateL (ha : EG X W ρ .V a ra) (hm : X.mg "enumerate" = none) (hg : Gl X "enumerate" := by rfl) (hs : starEach [a] X.env = [(false, eval a X.env)] := by rfl) : IF' X W ρ (.Tuple elts kk tpos) (.Call (.Name "enumerate" p) [a] [] pos) (ra.bd enumL) := by
  obtain ⟨t, h1, h2⟩ := ha
  refine ⟨_, pi_enum hg hm (pa_cons h1 pa_nil hs) hs, fun B H0 F H σ Q gd k => h2 B H0 F H σ _ gd (Kn.bd k aF_base fun d x F1 H1 hq e1 s1 q1 k1 => ?_)⟩
  clear hq
  cases d <;> first | exact absurd rfl k1.ns | skip
  rename_i ds
  have q1 : Dp X.K F1 x (.list ds) := q1
  cases q1 with
  | @lst l xs _ g1 g2 =>
  refine ⟨l, xs, rfl, Same.seq s1 g1, k1.ret (Ex.refl _ _) s1 fun F2 H2 e s => ?_⟩
  have g3 := Same.seq s (Same.seq e g1)
  refine ⟨⟨xs, g3, by rw [enumX_len, DpAll.length g2]; exact Nat.le_refl _⟩, fun i d hd => ?_⟩
  obtain ⟨y, y1, rfl⟩ := enumX_get hd
  obtain ⟨v, v1, v2⟩ := DpAll.get g2 y1
  refine ⟨⟨xs, v, g3, v1⟩, fun x H3 ⟨T, u, z1, z2, z3, z4⟩ => ?_⟩
  have := z4 xs g3
  rw [v1] at this
  cases this; subst z1; subst z3
  exact pair_step s z2 (.int _) (Dp.mono e _ _ v2)
theorem if_enumerateT (ha : EG X W ρ .T a ra) (hm : X.mg "enumerate" = none) (hg : Gl X "enumerate" := by rfl) (hs : starEach [a] X.env = [(false, eval a X.env)] := by rfl) : IF' X W ρ (.Tuple elts kk tpos) (.Call (.Name "enumerate" p) [a] [] pos) (ra.bd enumT) := by
  obtain ⟨t, h1, h2⟩ := ha
  refine ⟨_, pi_enumT hg hm (pa_cons h1 pa_nil hs) hs, fun B H0 F H σ Q gd k => h2 B H0 F H σ _ gd (Kn.bd k aF_base fun d x F1 H1 _ e1 s1 q1 k1 => ?_)⟩
  cases d <;> first | exact absurd rfl k1.ns | skip
  rename_i ds
  obtain ⟨l, xs, rfl, g1, g2⟩ := tp_tup q1
  refine ⟨l, xs, rfl, Same.tup s1 g1, k1.ret (Ex.refl _ _) s1 fun F2 H2 e s => ?_⟩
  have g3 := Same.tup s (Same.tup e g1)
  refine ⟨⟨xs, g3, by rw [enumX_len, DpAll.length g2]⟩, fun i d hd => ?_⟩
  obtain ⟨y, y1, rfl⟩ := enumX_get hd
  obtain ⟨v, v1, v2⟩ := DpAll.get g2 y1
  refine ⟨⟨xs, v, g3, v1⟩, fun x H3 ⟨T, u, z1, z2, z3, z4⟩ => ?_⟩
  have := z4 xs g3
  rw [v1] at this
  cases this; subst z1; subst z3
  exact pair_step s z2 (.int _) (Dp.mono e _ _ v2)
theorem ig_enumerateT (ha : EG X W ρ .T a ra) (hm : X.mg "enumerate" = none) (hg : Gl X "enumerate" := by rfl) (hs : starEach [a] X.env = [(false, eval a X.env)] := by rfl) : IG X W ρ (.Tuple elts kk tpos) (.Call (.Name "enumerate" p) [a] [] pos) (ra.bd enumT) := (if_enumerateT ha hm hg hs).g
/-- both lists -/
theorem ig_zipLL (ha : EG X W ρ .T a ra) (hb : EG X W ρ .T b rb) (hm : X.mg "zip" = none) (hg : Gl X "zip" := by rfl) (hs : starEach [a, b] X.env = [(false, eval a X.env), (false, eval b X.env)] := by rfl) (hs2 : starEach [b] X.env = [(false, eval b X.env)] := by rfl) : IG X W ρ (.Tuple elts kk tpos) (.Call (.Name "zip" p) [a, b] [] pos) (bd2 ra rb zipLL) := by
  obtain ⟨t, h1, h2⟩ := ha
  obtain ⟨u, g1, g2⟩ := hb
  refine ⟨_, pi_zip hg hm (pa_cons h1 (pa_cons g1 pa_nil hs2) (hs.trans (by rw [hs2]))) (hs.trans (by rw [hs2])) (by rw [hs2]; rfl), fun B H0 F H σ Q gd k => h2 B H0 F H σ _ gd (Kn.bd k aG_base fun d x F1 H1 _ e1 s1 q1 k1 => g2 B H0 F1 H1 σ _ (gd.go e1 s1) (Kn.bd k1 aG_base fun d2 y F2 H2 _ e2 s2 q2 k2 => ?_))⟩
  cases d <;> first | exact absurd rfl k2.ns | skip
  cases d2 <;> first | exact absurd rfl k2.ns | skip
  obtain ⟨l, xs, rfl, l1, l2⟩ := tp_list (Tp.go e2 q1)
  obtain ⟨m, ys, rfl, m1, m2⟩ := tp_list q2
  refine ⟨l, m, xs, ys, rfl, l1, m1, k2.ret (Ex.refl _ _) s2 fun F3 H3 e s => ?_⟩
  have l3 := Same.seq e.hh l1
  have m3 := Same.seq e.hh m1
  refine ⟨⟨xs, ys, l3, m3, by rw [zipX_len, DpAll.length l2, DpAll.length m2]; omega⟩, fun i d hd => ?_⟩
  obtain ⟨y1, y2, p1, p2, rfl⟩ := zipX_get hd
  obtain ⟨v, v1, v2⟩ := DpAll.get l2 p1
  obtain ⟨w, w1, w2⟩ := DpAll.get m2 p2
  refine ⟨⟨xs, ys, v, w, l3, m3, v1, w1⟩, fun x H4 ⟨T, u1, u2, z1, z2, z3, z4, z5⟩ => ?_⟩
  have q3 := z4 xs l3
  have q4 := z5 ys m3
  rw [v1] at q3
  rw [w1] at q4
  cases q3; cases q4; subst z1; subst z3
  exact pair_step s z2 (Dp.mono e.ff _ _ v2) (Dp.mono e.ff _ _ w2)
theorem if_zipLL (ha : EG X W ρ .V a ra) (hb : EG X W ρ .V b rb) (hm : X.mg "zip" = none) (hg : Gl X "zip" := by rfl) (hs : starEach [a, b] X.env = [(false, eval a X.env), (false, eval b X.env)] := by rfl) (hs2 : starEach [b] X.env = [(false, eval b X.env)] := by rfl) : IF' X W ρ (.Tuple elts kk tpos) (.Call (.Name "zip" p) [a, b] [] pos) (bd2 ra rb zipLL) := by
  obtain ⟨t, h1, h2⟩ := ha
  obtain ⟨u, g1, g2⟩ := hb
  refine ⟨_, pi_zip hg hm (pa_cons h1 (pa_cons g1 pa_nil hs2) (hs.trans (by rw [hs2]))) (hs.trans (by rw [hs2])) (by rw [hs2]; rfl), fun B H0 F H σ Q gd k => h2 B H0 F H σ _ gd (Kn.bd k aF_base fun d x F1 H1 hq e1 s1 q1 k1 => g2 B H0 F1 H1 σ _ (gd.go e1 s1) (Kn.bd k1 aF_base fun d2 y F2 H2 hq2 e2 s2 q2 k2 => ?_))⟩
  clear hq hq2
  cases d <;> first | exact absurd rfl k2.ns | skip
  cases d2 <;> first | exact absurd rfl k2.ns | skip
  rename_i da db
  have q1 : Dp X.K F1 x (.list da) := q1
  have q2 : Dp X.K F2 y (.list db) := q2
  cases q1 with
  | @lst l xs _ l0 l2 =>
  cases q2 with
  | @lst m ys _ m0 m2 =>
  have l1 := Same.seq e2.ff l0
  refine ⟨l, m, xs, ys, rfl, Same.seq s2 l1, Same.seq s2 m0, k2.ret (Ex.refl _ _) s2 fun F3 H3 e s => ?_⟩
  have l3 := Same.seq s (Same.seq e l1)
  have m3 := Same.seq s (Same.seq e m0)
  refine ⟨⟨xs, ys, l3, m3, by rw [zipX_len, DpAll.length l2, DpAll.length m2]; omega⟩, fun i d hd => ?_⟩
  obtain ⟨y1, y2, p1, p2, rfl⟩ := zipX_get hd
  obtain ⟨v, v1, v2⟩ := DpAll.get l2 p1
  obtain ⟨w, w1, w2⟩ := DpAll.get m2 p2
  refine ⟨⟨xs, ys, v, w, l3, m3, v1, w1⟩, fun x H4 ⟨T, u1, u2, z1, z2, z3, z4, z5⟩ => ?_⟩
  have q3 := z4 xs l3
  have q4 := z5 ys m3
  rw [v1] at q3
  rw [w1] at q4
  cases q3; cases q4; subst z1; subst z3
  exact pair_step s z2 (Dp.mono (e2.ff.trans e) _ _ v2) (Dp.mono e _ _ w2)
theorem if_zipTT (ha : EG X W ρ .T a ra) (hb : EG X W ρ .T b rb) (hm : X.mg "zip" = none) (hg : Gl X "zip" := by rfl) (hs : starEach [a, b] X.env = [(false, eval a X.env), (false, eval b X.env)] := by rfl) (hs2 : starEach [b] X.env = [(false, eval b X.env)] := by rfl) : IF' X W ρ (.Tuple elts kk tpos) (.Call (.Name "zip" p) [a, b] [] pos) (bd2 ra rb zipTT) := by
  obtain ⟨t, h1, h2⟩ := ha
  obtain ⟨u, g1, g2⟩ := hb
  refine ⟨_, RZ.pi_zipA hg hm (pa_cons h1 (pa_cons g1 pa_nil hs2) (hs.trans (by rw [hs2]))) (hs.trans (by rw [hs2])) (by rw [hs2]; rfl), fun B H0 F H σ Q gd k => h2 B H0 F H σ _ gd (Kn.bd k aF_base fun d x F1 H1 _ e1 s1 q1 k1 => g2 B H0 F1 H1 σ _ (gd.go e1 s1) (Kn.bd k1 aF_base fun d2 y F2 H2 _ e2 s2 q2 k2 => ?_))⟩
  cases d <;> first | exact absurd rfl k2.ns | skip
  cases d2 <;> first | exact absurd rfl k2.ns | skip
  obtain ⟨l, xs, rfl, l1, l2⟩ := tp_tup (Tp.go e2 q1)
  obtain ⟨m, ys, rfl, m1, m2⟩ := tp_tup q2
  refine ⟨l, m, xs, ys, rfl, .inr ⟨Same.tup s2 l1, Same.tup s2 m1, k2.ret (Ex.refl _ _) s2 fun F3 H3 e s => ?_⟩⟩
  have l3 := Same.tup s (Same.tup e l1)
  have m3 := Same.tup s (Same.tup e m1)
  refine ⟨⟨xs, ys, l3, m3, by rw [zipX_len, DpAll.length l2, DpAll.length m2]; omega⟩, fun i d hd => ?_⟩
  obtain ⟨y1, y2, p1, p2, rfl⟩ := zipX_get hd
  obtain ⟨v, v1, v2⟩ := DpAll.get l2 p1
  obtain ⟨w, w1, w2⟩ := DpAll.get m2 p2
  refine ⟨⟨xs, ys, v, w, l3, m3, v1, w1⟩, fun x H4 ⟨T, u1, u2, z1, z2, z3, z4, z5⟩ => ?_⟩
  have q3 := z4 xs l3
  have q4 := z5 ys m3
  rw [v1] at q3
  rw [w1] at q4
  cases q3; cases q4; subst z1; subst z3
  exact pair_step s z2 (Dp.mono e _ _ v2) (Dp.mono e _ _ w2)
theorem ig_zipTT (ha : EG X W ρ .T a ra) (hb : EG X W ρ .T b rb) (hm : X.mg "zip" = none) (hg : Gl X "zip" := by rfl) (hs : starEach [a, b] X.env = [(false, eval a X.env), (false, eval b X.env)] := by rfl) (hs2 : starEach [b] X.env = [(false, eval b X.env)] := by rfl) : IG X W ρ (.Tuple elts kk tpos) (.Call (.Name "zip" p) [a, b] [] pos) (bd2 ra rb zipTT) := (if_zipTT ha hb hm hg hs hs2).g
end
end DL
/-! t[::-1] of a tuple; a tuple times a number. -/
namespace DL
open PySem L2 PyProof.Rows HT
theorem places_back (n : Nat) : Builtin.Slice.slicePlaces ((n : Int) - 1) (-1) (-1) = n := by
  unfold Builtin.Slice.slicePlaces
  rw [if_neg (by decide)]
  by_cases z : (n : Int) - 1 > -1
  · rw [if_pos z, show ((n : Int) - 1 - -1 - 1) / (- -1 : Int) + 1 = n by rw [show (- -1 : Int) = 1 by decide, Int.ediv_one]; omega]
    simp
  · rw [if_neg z]
    omega
theorem fm_congr {α β : Type} {f g : α → Option β} : ∀ l : List α, (∀ x ∈ l, f x = g x) → l.filterMap f = l.filterMap g
  | [], _ => rfl
  | x :: l, h => by
    rw [List.filterMap_cons, List.filterMap_cons, h x (by simp), fm_congr l fun y hy => h y (by simp [hy])]
theorem pick_back (xs : Array Value) : ((List.range xs.size).filterMap fun (m : Nat) => xs[((xs.size : Int) - 1 + (m : Int) * -1).toNat]?).toArray = xs.toList.reverse.toArray := by
  congr 1
  rw [← PySem.W.krv_all, ← List.filterMap_reverse, ← PySem.W.krv_range, List.filterMap_map]
  refine fm_congr _ fun m hm => ?_
  have := List.mem_range.mp hm
  show xs[_]? = xs[_]?
  rw [show ((xs.size : Int) - 1 + (m : Int) * -1).toNat = xs.size - 1 - m by omega]
section
variable {prog : Program} {w : World} {A : Around} {E : Value → Shared → Prop} {s : Shared}
theorem applied_back {sl : Addr} {v : Value} {n : Nat} {Q : Int × Int × Nat → Shared → Prop} (hs : s.heap.IsSliceOf sl .none .none v) (pv : IsPart v (some (-1))) (h : Q ((n : Int) - 1, -1, n) s) :
    wpAny (model prog w) A (Builtin.Slice.sliceApplied (.ref sl) (pure (n : Int))) Q E s := by
  obtain ⟨o, ho, hc, hd⟩ := id hs
  unfold Builtin.Slice.sliceApplied Builtin.Slice.sliceFields
  refine wpAny_bind (wpAny_bind (wpAny_field ho hd (x := .none) rfl (wpAny_bind (wpAny_field ho hd (x := .none) rfl (wpAny_bind (wpAny_field ho hd (x := v) rfl (wpAny_pure ?_)))))))
  refine wpAny_bind (slicePart_ pv ?_)
  show wpAny _ _ (if ((-1 : Int) == 0) = true then _ else _) _ _ s
  rw [if_neg (by decide)]
  refine wpAny_bind (slicePart_none (wpAny_bind (slicePart_none (wpAny_bind (wpAny_pure ?_)))))
  show wpAny _ _ (pure ((n : Int) - 1, (-1 : Int), Builtin.Slice.slicePlaces ((n : Int) - 1) (-1) (-1))) _ _ s
  rw [places_back]
  exact wpAny_pure h
theorem getItem_back {t sl : Addr} {items : Array Value} {v : Value} {Q : Value → Shared → Prop} (ht : IsTup s.heap t items) (hs : s.heap.IsSliceOf sl .none .none v) (pv : IsPart v (some (-1)))
    (h : Q (.ref s.heap.objs.size) { s with heap := s.heap.push { cls := .type "tuple", data := .seq items.toList.reverse.toArray } }) (hsz : items.size ≤ sizeLine) : wpAny (model prog w) A (getItem (.ref t) (.ref sl)) Q E s := by
  have fit : sizeOk (.seq items.toList.reverse.toArray) := by
    show items.toList.reverse.toArray.size ≤ sizeLine
    simpa using hsz
  obtain ⟨o, ho, hc, _⟩ := id hs
  have ty : s.TypeIs (.ref sl) "slice" := ⟨o, ho, hc⟩
  unfold getItem
  try with_reducible refine wpAny_holding ?_
  first | refine wpAny_bind (wpAny_pure ?_) | skip
  refine wpAny_bind (wpAny_sequenceKey ht.typeIs (by decide) (wpAny_bind (wpAny_callSpecial?_slot (name := Str.ofString "__getitem__") ht.typeIs slot_tuple_getitem (wpAny_call_entry slot_tuple_getitem ht.typeIs entry_tuple_getitem ?_ (args_tuple_getitem _ _)))))
  show wpAny _ _ (Builtin.Tuple.tupleItemsOf (.ref t) >>= _) _ _ s
  refine wpAny_bind (tupleItemsOf_ ht (wpAny_bind (wpAny_typeOf ty ?_)))
  rw [if_pos (by decide)]
  refine wpAny_bind (applied_back hs pv ?_)
  have no : ¬ ((((items.size : Int) - 1) == 0 && (-1 : Int) == 1 && items.size == items.size) = true) := by simp
  show wpAny _ _ (if (((items.size : Int) - 1) == 0 && (-1 : Int) == 1 && items.size == items.size) = true then _ else _) _ _ s
  rw [if_neg no, pick_back]
  first
    | exact wpAny_bind (m := Builtin.Tuple.tupleExact _) (wpAny_newObj_type (wpAny_pure ⟨_, rfl, wpAny_pure h⟩) fit)
    | exact wpAny_bind (m := Builtin.Tuple.tupleExact _) (wpAny_newObj_type (wpAny_bind (wpAny_pure (wpAny_pure ⟨_, rfl, wpAny_pure h⟩))) fit)
    | exact wpAny_bind (wpAny_bind (m := Builtin.Tuple.tupleExact _) (wpAny_newObj_type (wpAny_pure (wpAny_pure ⟨_, rfl, wpAny_pure h⟩)) fit))
    | exact wpAny_bind (wpAny_bind (m := Builtin.Tuple.tupleExact _) (wpAny_newObj_type (wpAny_pure ⟨_, rfl, wpAny_pure h⟩) fit))
end
def tRevT (K : PySem.W.Frag) (te : TE) : TE := fun σ H Q => te σ H fun x H1 => ∃ a ys, x = .ref a ∧ SqT K H1 a ys ∧ ∀ p, H1 p = none → Q (.ref p) (upd H1 p (.tup ys.reverse))
theorem pe_revT {X : Cx} {e : Expr} {te : TE} {k : Nat} {p1 p2 p3 pos : Pos} (he : PE X e te) : PE X (.Subscript e (.Slice none none (some (.UnaryOp .USub (.Constant (.int 1) k p1) p2)) p3) pos) (tRevT X.K te) := by
  refine ⟨fun pins s σ H Q I z => Subscript_ (thn (he.run pins s σ H _ I z) fun v s1 ⟨x, H1, I1, r1, a, ys, ex, hx, q⟩ => ?_)⟩
  subst ex
  cases r1
  have st : PO X (some (.UnaryOp .USub (.Constant (.int 1) k p1) p2)) (tPart (tUn (rU fun i => .int (-i)) (tC (.int 1)))) := po_some (pe_un un_neg pe_int)
  refine wpAny_Slice (thn (po_none.run pins s1 σ H1 (fun o G => o = none ∧ G = H1) I1 ⟨rfl, rfl⟩) fun vl s2 ⟨l, H2, I2, pl, el, e2⟩ => ?_)
  subst el e2
  refine thn (po_none.run pins s2 σ H2 (fun o G => o = none ∧ G = H2) I2 ⟨rfl, rfl⟩) fun vu s3 ⟨u, H3, I3, pu, eu, e3⟩ => ?_
  subst eu e3
  refine thn (st.run pins s3 σ H3 (fun o G => o = some (-1) ∧ G = H3) I3 ⟨1, rfl, -1, rfl, rfl, rfl⟩) fun vs s4 ⟨o, H4, I4, ps, eo, e4⟩ => ?_
  subst eo e4
  cases pl
  cases pu
  have I5 : Inv X pins σ H4 { s4 with heap := s4.heap.push { cls := .type "slice", data := .fields #[.none, .none, vs] } } := I4.kept (t' := s4.toks) fun b ob q => Heap.get?_push_of_some _ q
  obtain ⟨its, r, ht, hz⟩ := I5.tuple hx
  have hlen := r.length
  show wpAny (model X.prog X.w) X.A (subscriptTail e (.Slice none none (some (.UnaryOp .USub (.Constant (.int 1) k p1) p2)) p3) (.ref a) (.ref s4.heap.objs.size)) (EP X pins σ Q) X.xe { s4 with heap := s4.heap.push { cls := .type "slice", data := .fields #[.none, .none, vs] } }
  refine tail_any (ops := [.ref a, .ref s4.heap.objs.size]) ht.typeIs slot_tuple_getitem.lookup ?_ (by with_unfolding_all rfl)
  refine getItem_back ht (Heap.IsSliceOf.new _ .none .none vs) ps ?_ (by rw [List.size_toArray]; omega)
  refine ⟨.ref _, _, I5.laid (t' := s4.toks) (o := .tup ys.reverse) (fun b ob q => Heap.get?_push_of_some _ q) (Nat.le_refl _) ?_, rfl, q _ (I5.hok.fresh (Nat.le_refl _))⟩
  exact ⟨by rw [List.length_reverse]; exact hz, _, r.reverse, IsTup.new _ _⟩
def revT : D → Res D
  | .tuple ds => .ok (.tuple ds.reverse)
  | _ => .stuck
theorem eg_revT {X : Cx} {W : WX} {ρ : Env X.K} {m : Md} [NPm : m.NP] {a : Expr} {ra : Res D} {pos : Pos} {k : Nat} {q1 q2 q3 : Pos} (ha : EG X W ρ .T a ra) : EG X W ρ m (.Subscript a (.Slice none none (some (.UnaryOp .USub (.Constant (.int 1) k q1) q2)) q3) pos) (ra.bd revT) := by
  obtain ⟨ta, a1, a2⟩ := ha
  refine ⟨_, pe_revT a1, fun B H0 F H σ Q gd k => a2 B H0 F H σ _ gd (Kn.bd k acc_base fun d x F1 H1 _ e1 s1 q1 k1 => ?_)⟩
  cases d <;> first | exact absurd rfl k1.ns | skip
  obtain ⟨l, xs, rfl, g1, g2⟩ := tp_tup q1
  exact ⟨l, xs, rfl, Same.tup s1 g1, fun p hp => kn_newT k1 s1 hp (DpAll.reverse g2)⟩
/-! ### a tuple times a number -/
theorem mul_one_meets (l : Addr) (items : Array Value) (n : Nat) (dd : Option Addr) (sl : Array (Option Value)) (u : Tok) :
    Meets (Builtin.«tuple.__mul__» ⟨[.ref l, .int 1 u], []⟩) (fun _ R s => s.heap.get? l = some { cls := .type "tuple", dict := dd, data := .seq items n, slots := sl } ∧ R (.ok (.ret (Value.ref l))) s) :=
  .of_wp fun prog w A R s h => by
    obtain ⟨hp, g, d, tk, os⟩ := s
    obtain ⟨hl, h⟩ := h
    have f1 := AutoSeq1.idx_int
    wp_walk using wpAny_loadPart' hl
    exact ⟨_, rfl, h⟩
theorem op_rep1 {X : Cx} : OpR X (binaryOp .Mult) (fun x y H Q => ∃ l xs, x = .ref l ∧ y = .int 1 ∧ SqT X.K H l xs ∧ Q (.ref l) H) := by
  intro pins s σ H x y v u Q I rx ry z
  obtain ⟨l, xs, rfl, rfl, hT, q⟩ := z
  cases rx
  obtain ⟨t, rfl⟩ := ry
  obtain ⟨its, r, ⟨⟨cls, dd, data, sl⟩, ho, hc, n, hd⟩, hs⟩ := I.tuple hT
  simp only at hc hd
  subst hc hd
  exact wpAny_binaryOp_repeat_ref (T := "tuple") (U := "int") (by decide) ⟨_, ho, rfl⟩ (fun s' => typeIs_int s' 1 t) noFill_tuple_mul F.fills_int_mul F.slot_int_rmul repeat_tuple F.slot_int_index.lookup
    (call_meets F.slot_int_rmul (typeIs_int s 1 t) F.entry_int_rmul (F.args_int_rmul_2 _ _) (int_rmul_tuple 1 t l its.toArray n dd sl)
      ⟨ho, rfl, ⟨_, ho, rfl⟩, call_meets F.slot_tuple_mul ⟨_, ho, rfl⟩ F.entry_tuple_mul (F.args_tuple_mul_2 _ _) (mul_one_meets l its.toArray n dd sl t) ⟨ho, ⟨.ref l, H, I, rfl, q⟩⟩⟩)
def repT : D → D → Res D
  | .tuple xs, .int k => if k = 1 then .ok (.tuple xs) else if decide (xs ≠ [] ∧ 2 ≤ k ∧ k ≤ 1000 ∧ xs.length ≤ 1000) then .ok (.tuple (List.replicate k.toNat xs).flatten) else .stuck
  | _, _ => .stuck
theorem od_repT {X : Cx} {W : WX} : OpD X W .V (fun x y H Q => (∃ l xs, x = .ref l ∧ y = .int 1 ∧ SqT X.K H l xs ∧ Q (.ref l) H) ∨ rRepT X.K x y H Q) repT := by
  intro F H σ x y d1 d2 Q s h1 h2 k
  cases d1 <;> cases d2 <;> first | exact absurd rfl k.ns | skip
  cases tp_int h2
  rename_i ds n
  obtain ⟨l, xs, rfl, g1, g2⟩ := tp_tup h1
  by_cases e : n = 1
  · subst e
    have k2 := k.of_eq (r' := .ok (.tuple ds)) (by simp [repT])
    exact .inl ⟨l, xs, rfl, rfl, Same.tup s g1, kn_flat k2 s rfl (.tup g1 g2)⟩
  · cases c : decide (ds ≠ [] ∧ 2 ≤ n ∧ n ≤ 1000 ∧ ds.length ≤ 1000) with
    | false => exact absurd (by simp only [repT]; rw [if_neg e, c]; rfl) k.ns
    | true =>
      have k2 := k.of_eq (r' := .ok (.tuple (List.replicate n.toNat ds).flatten)) (by simp only [repT]; rw [if_neg e, c]; rfl)
      obtain ⟨c1, c2, c3, c4⟩ := of_decide_eq_true c
      refine .inr ⟨l, n, xs, rfl, rfl, Same.tup s g1, fun z => c1 ?_, c2, c3, by rw [DpAll.length g2]; exact c4, fun p hp => kn_newT k2 s hp (DpAll.rep g2 _)⟩
      subst z
      have := DpAll.length g2
      exact List.eq_nil_of_length_eq_zero this.symm
theorem eg_repT {X : Cx} {W : WX} {ρ : Env X.K} {a b : Expr} {ra rb : Res D} {pos : Pos} (ha : EG X W ρ .T a ra) (hb : EG X W ρ .T b rb) : EG X W ρ .V (.BinOp a .Mult b pos) (bd2 ra rb repT) := eg_op (op_rep1.or op_repT) od_repT ha hb
end DL
/-! zip of a list or a tuple with a list or a tuple. -/
namespace DL
open PySem L2 PyProof.Rows
def seqItems : D → Res (List D)
  | .list xs => .ok xs
  | .tuple xs => .ok xs
  | _ => .stuck
def zipAA (d e : D) : Res (List D) := (seqItems d).bd fun xs => (seqItems e).bd fun ys => .ok (zipX xs ys)
/-! ### a side: a list (true), a tuple -/
def SqS (K : PySem.W.Frag) (b : Bool) (H : Hp) (a : Addr) (xs : List V) : Prop := match b with | true => SqL K H a xs | false => SqT K H a xs
def IterS (b : Bool) (h : Heap) (it a : Addr) (i : Nat) : Prop := match b with | true => h.IsListIter it a i | false => h.IsTupleIter it a i
def SeqS (b : Bool) (h : Heap) (a : Addr) (its : Array Value) : Prop := match b with | true => h.IsList a its | false => h.IsTuple a its
theorem SqS.mono {K : PySem.W.Frag} {b : Bool} {H H' : Hp} {a : Addr} {xs : List V} (s : Same H H') (h : SqS K b H a xs) : SqS K b H' a xs := by
  cases b with
  | true => exact Same.seq s h
  | false => exact Same.tup s h
theorem IterS.at {b : Bool} {h h' : Heap} {it a : Addr} {i : Nat} (x : IterS b h it a i) (k : ∀ o, h.get? it = some o → h'.get? it = some o) : IterS b h' it a i := by
  cases b with
  | true => exact Heap.IsListIter.at x k
  | false => exact Heap.IsTupleIter.at x k
theorem IterS.obj {b : Bool} {h : Heap} {it a : Addr} {i : Nat} (x : IterS b h it a i) : ∃ o, h.get? it = some o ∧ ∀ v, o.data ≠ .cell v := by
  cases b with
  | true => obtain ⟨o, e, _, d⟩ := x; exact ⟨o, e, fun v z => by rw [d] at z; cases z⟩
  | false => obtain ⟨o, e, _, d⟩ := x; exact ⟨o, e, fun v z => by rw [d] at z; cases z⟩
section
variable {X : Cx} {pins : List (Addr × Obj)} {σ : L2.St} {H : Hp} {s : Shared} {b : Bool} {a : Addr} {xs ys : List V}
theorem invS (I : Inv X pins σ H s) (h : SqS X.K b H a xs) : ∃ its : List Value, Vals xs its ∧ SeqS b s.heap a its.toArray ∧ a < s.heap.objs.size := by
  cases b with
  | true => obtain ⟨its, rv, p, _⟩ := I.list h; exact ⟨its, rv, p.isList, p.lt⟩
  | false => obtain ⟨its, rv, p, _⟩ := I.tuple h; obtain ⟨o, ho, _⟩ := id p; exact ⟨its, rv, p, Heap.lt_size ho⟩
theorem injS (I : Inv X pins σ H s) (h : SqS X.K b H a xs) (h' : SqS X.K b H a ys) : xs = ys := by
  cases b with
  | true => exact I.list_inj h h'
  | false => exact I.tuple_inj h h'
end
theorem drawsS {prog : Program} {w : World} {A : Around} (hh : A.handled = none) (b : Bool) (it l : Addr) (hne : l ≠ it) (items : Array Value) : Draws prog w A it [it, l] items.size (fun i v => items[i]? = some v) (fun i h => IterS b h it l i ∧ SeqS b h l items) := by
  cases b with
  | true => exact Draws.list hh it l hne items
  | false => exact Draws.tuple hh it l hne items
def itObj (b : Bool) (l : Addr) : Obj := match b with | true => { cls := .type "list_iterator", data := .fields #[.ref l, .int 0 0] } | false => { cls := .type "tuple_iterator", data := .fields #[.ref l, .int 0 0] }
theorem beginsS (b : Bool) (l : Addr) (items : Array Value) : Begins (.ref l) (itObj b l) fun h => SeqS b h l items := by
  cases b with
  | true => exact begins_list l items
  | false => exact begins_tuple l items
theorem iterS_new {b : Bool} {h : Heap} {it l : Addr} (e : h.get? it = some (itObj b l)) : IterS b h it l 0 := by
  cases b with
  | true => exact ⟨_, e, rfl, rfl⟩
  | false => exact ⟨_, e, rfl, rfl⟩
/-! ### the walk -/
def ItzS (K : PySem.W.Frag) (b1 b2 : Bool) (a1 a2 : Addr) : It :=
  ⟨fun i H => ∃ (xs ys : List V) (x y : V), SqS K b1 H a1 xs ∧ SqS K b2 H a2 ys ∧ xs[i]? = some x ∧ ys[i]? = some y,
    fun i H v H' => ∃ T x y, v = .ref T ∧ H T = none ∧ H' = upd H T (.tup [x, y]) ∧ (∀ xs, SqS K b1 H a1 xs → xs[i]? = some x) ∧ ∀ ys, SqS K b2 H a2 ys → ys[i]? = some y,
    fun i H => ∃ xs ys : List V, SqS K b1 H a1 xs ∧ SqS K b2 H a2 ys ∧ i ≤ xs.length ∧ i ≤ ys.length ∧ (xs.length = i ∨ ys.length = i)⟩
theorem sep_of {z TI TO i1 i2 a b : Addr} (D : ZipApart z TI TO i1 i2 a b) : ZipSep2 z TI TO i1 i2 [i1, a] [i2, b] where
  TIz := D.TIz
  TOz := D.TOz
  TITO := D.TITO
  TIi1 := D.TIi1
  mem1 := by simp
  zf1 := by simp [Ne.symm D.i1z, Ne.symm D.l1z]
  Tf1 := by simp [D.TOi1, Ne.symm D.l1TO]
  TIi2 := D.TIi2
  mem2 := by simp
  zf2 := by simp [Ne.symm D.i2z, Ne.symm D.l2z]
  Tf2 := by simp [D.TOi2, Ne.symm D.l2TO]
  sep1_2 := by simp [D.i12, Ne.symm D.l2i1]
  sep2_1 := by simp [Ne.symm D.i12, Ne.symm D.l1i2]
theorem turn_zipS {P : Program} {w : World} {K : PySem.W.Frag} {elts : List Expr} {kk : Nat} {tpos : Pos} {b1 b2 : Bool} {a b z TI TO i1 i2 : Addr} (D : ZipApart z TI TO i1 i2 a b) :
    Turn P w K (.Tuple elts kk tpos) (ItzS K b1 b2 a b) [z, TI, TO, i1, i2] z (fun i h => IsZip h z TI TO .none ∧ IsTupOf2 h TI (.ref i1) (.ref i2) ∧ (∃ x y, IsTupOf2 h TO x y) ∧ IterS b1 h i1 a i ∧ IterS b2 h i2 b i) where
  mem := by simp
  obj := fun i h st c hc => by
    obtain ⟨hz, hTI, ⟨x, y, hTO⟩, h1, h2⟩ := st
    have e' : c = z ∨ c = TI ∨ c = TO ∨ c = i1 ∨ c = i2 := by simpa using hc
    rcases e' with q | q | q | q | q <;> subst q
    · exact ⟨_, hz, fun v q => nomatch q⟩
    · exact ⟨_, hTI, fun v q => nomatch q⟩
    · exact ⟨_, hTO, fun v q => nomatch q⟩
    · exact h1.obj
    · exact h2.obj
  keep := fun i h h' st k => by
    obtain ⟨hz, hTI, ⟨x, y, hTO⟩, h1, h2⟩ := st
    exact ⟨k z (by simp) _ hz, k TI (by simp) _ hTI, ⟨x, y, k TO (by simp) _ hTO⟩, h1.at fun o q => k i1 (by simp) o q, h2.at fun o q => k i2 (by simp) o q⟩
  item := by
    intro X hP hw hK hc i pins s σ H E I hf st hg
    subst hP hw hK
    obtain ⟨hz, hTI, ⟨x0, y0, hTO⟩, h1, h2⟩ := st
    obtain ⟨xs, ys, x, y, qx, qy, hx, hy⟩ := hg
    obtain ⟨its, rv, p, _⟩ := invS I qx
    obtain ⟨its2, rv2, p2, _⟩ := invS I qy
    obtain ⟨u, hu, ru⟩ := rv.get hx
    obtain ⟨u2, hu2, ru2⟩ := rv2.get hy
    have hzl : z < s.heap.objs.size := Heap.lt_size hz
    have hh : X.A.in1.handled = none := I.ok.hd hc
    have n1 : i < its.toArray.size := by simpa using (List.getElem?_eq_some_iff.mp hu).1
    have n2 : i < its2.toArray.size := by simpa using (List.getElem?_eq_some_iff.mp hu2).1
    refine wpAny_pyNext_zipD2_item (sep_of D) (drawsS hh b1 i1 a D.l1i1 its.toArray) (drawsS hh b2 i2 b D.l2i2 its2.toArray) hz hTI hTO ⟨h1, p⟩ ⟨h2, p2⟩ n1 n2 fun v1 v2 h' tk w1 w2 z' TO' st1 st2 hT hsz hk => ?_
    have e1 : v1 = u := Option.some.inj (w1.symm.trans (by simpa using hu))
    have e2 : v2 = u2 := Option.some.inj (w2.symm.trans (by simpa using hu2))
    subst e1 e2
    refine ⟨_, rfl, wpAny_letOwnedTupleGo_zip (s := { s with heap := h', toks := tk }) z' fun h'' z'' sb => ?_⟩
    have hT2 : h''.get? s.heap.objs.size = some { cls := .type "tuple", data := .seq #[v1, v2] } := (sb.2 _ (Nat.ne_of_gt hzl)).trans hT
    have new : ObjOk X.prog X.w (upd H s.heap.objs.size (.tup [x, y])) h'' s.heap.objs.size (.tup [x, y]) :=
      ⟨by show 2 ≤ sizeLine; decide, [v1, v2], .cons ru (.cons ru2 .nil), ⟨_, hT2, rfl, _, rfl⟩⟩
    have I1 : Inv X pins σ (upd H s.heap.objs.size (.tup [x, y])) { s with heap := h'', toks := tk } :=
      I.turnedNew (t' := tk) (ch := [z, TI, TO, i1, i2]) (fun c o hb q => by
        have nz : c ≠ z := fun e => hb (by simp [e])
        exact (sb.2 c nz).trans (hk c o nz (fun e => hb (by simp [e])) (fun e => hb (by simp [e])) (fun e => hb (by simp [e])) q)) hf (Nat.le_refl _) new
    refine ⟨.ref s.heap.objs.size, _, I1, rfl, ⟨_, x, y, rfl, I.hok.fresh (Nat.le_refl _), rfl, fun l hl => by rw [injS I hl qx]; exact hx, fun l hl => by rw [injS I hl qy]; exact hy⟩, ⟨z'', ?_, ⟨v1, v2, ?_⟩, ?_, ?_⟩, fun c hcm => ?_⟩
    · exact (sb.2 _ D.TIz).trans (hk _ _ D.TIz D.TITO D.TIi1 D.TIi2 hTI)
    · exact (sb.2 _ D.TOz).trans TO'
    · exact st1.1.at fun o q => (sb.2 _ D.i1z).trans q
    · exact st2.1.at fun o q => (sb.2 _ D.i2z).trans q
    · have hlt : c < s.heap.objs.size := by
        have e' : c = z ∨ c = TI ∨ c = TO ∨ c = i1 ∨ c = i2 := by simpa using hcm
        rcases e' with q | q | q | q | q <;> subst q
        · exact hzl
        · exact Heap.lt_size hTI
        · exact Heap.lt_size hTO
        · obtain ⟨_, e1, _⟩ := h1.obj; exact Heap.lt_size e1
        · obtain ⟨_, e2, _⟩ := h2.obj; exact Heap.lt_size e2
      rw [upd_ne (Nat.ne_of_lt hlt)]
      exact (hf c hcm).1
  done := by
    intro X hP hw hK hc i pins s σ H E I hf st hg
    subst hP hw hK
    obtain ⟨hz, hTI, ⟨x0, y0, hTO⟩, h1, h2⟩ := st
    obtain ⟨xs, ys, qx, qy, hx, hy, hend⟩ := hg
    obtain ⟨its, rv, p, _⟩ := invS I qx
    obtain ⟨its2, rv2, p2, _⟩ := invS I qy
    have l1 := rv.length
    have l2 := rv2.length
    have hh : X.A.in1.handled = none := I.ok.hd hc
    refine wpAny_pyNext_zipD2_end (sep_of D) (drawsS hh b1 i1 a D.l1i1 its.toArray) (drawsS hh b2 i2 b D.l2i2 its2.toArray) hz hTI hTO ⟨h1, p⟩ ⟨h2, p2⟩ (by simp; omega) (by simp; omega) (by simp; omega) fun h' tk hk => ⟨rfl, ?_⟩
    exact I.turnedL (t' := tk) (ch := [z, TI, TO, i1, i2]) (fun c o hb q => hk c o (fun e => hb (by simp [e])) (fun e => hb (by simp [e])) (fun e => hb (by simp [e])) (fun e => hb (by simp [e])) q) hf
  self := fun A i s Q E st h => wpAny_pyIter_zip st.1 h
def iZipS (K : PySem.W.Frag) (ta : TA) : TI := fun σ H R => ta σ H fun vs H1 => ∃ b1 b2 a b xs ys, vs = [.ref a, .ref b] ∧ SqS K b1 H1 a xs ∧ SqS K b2 H1 b ys ∧ R (ItzS K b1 b2 a b) H1
theorem pi_zipS {X : Cx} {e e2 : Expr} {ta : TA} {p pos tpos : Pos} {elts : List Expr} {kk : Nat} (hg : Gl X "zip") (hm : X.mg "zip" = none) (ha : PA X [e, e2] ta)
    (hs : starEach [e, e2] X.env = (false, eval e X.env) :: starEach [e2] X.env := by rfl) (hpl : (backTo pos (starEach [e2] X.env)).any (·.1) = false := by rfl) :
    PI X (.Tuple elts kk tpos) (.Call (.Name "zip" p) [e, e2] [] pos) (iZipS X.K ta) := by
  refine ⟨fun pins s σ H R I h => ?_⟩
  refine Call_ (ld_blt I hg hm PyProof.Rows.boot_zip (PyProof.Rows.callWith_type1 (thn (ha.run pos pins s σ H _ I h) fun us s1 ⟨vs, H1, I1, r1, b1, b2, a, b, xs, ys, ex, qx, qy, q⟩ => ?_) hs hpl))
  subst ex
  cases r1 with
  | cons r rr =>
    cases rr with
    | cons r' rr =>
      cases rr
      cases r
      cases r'
      obtain ⟨its, rv, p1, l1⟩ := invS I1 qx
      obtain ⟨its2, rv2, p2, l2⟩ := invS I1 qy
      refine zip_begins2 (beginsS b1 a its.toArray) (beginsS b2 b its2.toArray) p1 p2 fun h' hz hTI hTO g1 g2 hsz hk => wpAny_pyIter_zip hz ?_
      have I2 : Inv X pins σ H1 { s1 with heap := h' } := I1.kept (t' := s1.toks) hk
      refine ⟨s1.heap.objs.size + 4, [s1.heap.objs.size + 4, s1.heap.objs.size + 2, s1.heap.objs.size + 3, s1.heap.objs.size, s1.heap.objs.size + 1], _, _, H1, rfl, I2, turn_zipS (PySem.W.ktu_apart s1.heap.objs.size a b l1 l2), ⟨hz, hTI, ⟨_, _, hTO⟩, iterS_new g1, iterS_new g2⟩, fun c hcm => ?_, q⟩
      have hle : s1.heap.objs.size ≤ c := by
        have e' : c = s1.heap.objs.size + 4 ∨ c = s1.heap.objs.size + 2 ∨ c = s1.heap.objs.size + 3 ∨ c = s1.heap.objs.size ∨ c = s1.heap.objs.size + 1 := by simpa using hcm
        rcases e' with z | z | z | z | z <;> subst z <;> first | exact Nat.le_add_right _ _ | exact Nat.le_refl _
      exact I1.fpOk hle (I1.hok.fresh hle)
theorem tp_seq {K : PySem.W.Frag} {F H : Hp} {x : V} {d : D} {ds : List D} (s : Same F H) (h : Tp K F H x d) (e : seqItems d = .ok ds) : ∃ b a xs, x = .ref a ∧ SqS K b H a xs ∧ DpAll K F xs ds := by
  cases d <;> first | (cases e; done) | skip
  · cases e; obtain ⟨a, xs, h1, h2, h3⟩ := tp_list h; exact ⟨true, a, xs, h1, h2, h3⟩
  · cases e; obtain ⟨a, xs, h1, h2, h3⟩ := tp_tup h; exact ⟨false, a, xs, h1, Same.tup s h2, h3⟩
theorem dp_seq {K : PySem.W.Frag} {F : Hp} {x : V} {d : D} {ds : List D} (h : Dp K F x d) (e : seqItems d = .ok ds) : ∃ b a xs, x = .ref a ∧ SqS K b F a xs ∧ DpAll K F xs ds := by
  cases d <;> first | (cases e; done) | skip
  · cases e; cases h with | lst h2 h3 => exact ⟨true, _, _, rfl, h2, h3⟩
  · cases e; cases h with | tup h2 h3 => exact ⟨false, _, _, rfl, h2, h3⟩
theorem zip_ns {d e : D} (h : zipAA d e ≠ .stuck) : ∃ xs ys, seqItems d = .ok xs ∧ seqItems e = .ok ys ∧ zipAA d e = .ok (zipX xs ys) := by
  unfold zipAA at h ⊢
  cases c : seqItems d with
  | stuck => rw [c] at h; exact absurd rfl h
  | exc n => cases d <;> cases c
  | ok xs =>
    cases c2 : seqItems e with
    | stuck => rw [c, c2] at h; exact absurd rfl h
    | exc n => cases e <;> cases c2
    | ok ys => exact ⟨xs, ys, rfl, rfl, rfl⟩
section
variable {X : Cx} {W : WX} {ρ : Env X.K} {a b : Expr} {ra rb : Res D} {p pos tpos : Pos} {elts : List Expr} {kk : Nat}
theorem ig_zipAA (ha : EG X W ρ .T a ra) (hb : EG X W ρ .T b rb) (hm : X.mg "zip" = none) (hg : Gl X "zip" := by rfl) (hs : starEach [a, b] X.env = [(false, eval a X.env), (false, eval b X.env)] := by rfl) (hs2 : starEach [b] X.env = [(false, eval b X.env)] := by rfl) : IG X W ρ (.Tuple elts kk tpos) (.Call (.Name "zip" p) [a, b] [] pos) (bd2 ra rb zipAA) := by
  obtain ⟨t, h1, h2⟩ := ha
  obtain ⟨u, g1, g2⟩ := hb
  refine ⟨_, pi_zipS hg hm (pa_cons h1 (pa_cons g1 pa_nil hs2) (hs.trans (by rw [hs2]))) (hs.trans (by rw [hs2])) (by rw [hs2]; rfl), fun B H0 F H σ Q gd k => h2 B H0 F H σ _ gd (Kn.bd k aG_base fun d x F1 H1 _ e1 s1 q1 k1 => g2 B H0 F1 H1 σ _ (gd.go e1 s1) (Kn.bd k1 aG_base fun d2 y F2 H2 _ e2 s2 q2 k2 => ?_))⟩
  obtain ⟨ds, es, ed, ee, ez⟩ := zip_ns k2.ns
  obtain ⟨b1, l, xs, rfl, l1, l2⟩ := tp_seq s2 (Tp.go e2 q1) ed
  obtain ⟨b2, m, ys, rfl, m1, m2⟩ := tp_seq s2 q2 ee
  refine ⟨b1, b2, l, m, xs, ys, rfl, l1, m1, (k2.of_eq ez).ret (Ex.refl _ _) s2 fun F3 H3 e s => ?_⟩
  have l3 := l1.mono e.hh
  have m3 := m1.mono e.hh
  have n1 := DpAll.length l2
  have n2 := DpAll.length m2
  have n3 := zipX_len ds es
  refine ⟨⟨xs, ys, l3, m3, by omega, by omega, by omega⟩, fun i d hd => ?_⟩
  obtain ⟨y1, y2, p1, p2, rfl⟩ := zipX_get hd
  obtain ⟨v, v1, v2⟩ := DpAll.get l2 p1
  obtain ⟨w, w1, w2⟩ := DpAll.get m2 p2
  refine ⟨⟨xs, ys, v, w, l3, m3, v1, w1⟩, fun x H4 ⟨T, u1, u2, z1, z2, z3, z4, z5⟩ => ?_⟩
  have q3 := z4 xs l3
  have q4 := z5 ys m3
  rw [v1] at q3
  rw [w1] at q4
  cases q3; cases q4; subst z1; subst z3
  exact pair_step s z2 (Dp.mono e.ff _ _ v2) (Dp.mono e.ff _ _ w2)
theorem if_zipAA (ha : EG X W ρ .V a ra) (hb : EG X W ρ .V b rb) (hm : X.mg "zip" = none) (hg : Gl X "zip" := by rfl) (hs : starEach [a, b] X.env = [(false, eval a X.env), (false, eval b X.env)] := by rfl) (hs2 : starEach [b] X.env = [(false, eval b X.env)] := by rfl) : IF' X W ρ (.Tuple elts kk tpos) (.Call (.Name "zip" p) [a, b] [] pos) (bd2 ra rb zipAA) := by
  obtain ⟨t, h1, h2⟩ := ha
  obtain ⟨u, g1, g2⟩ := hb
  refine ⟨_, pi_zipS hg hm (pa_cons h1 (pa_cons g1 pa_nil hs2) (hs.trans (by rw [hs2]))) (hs.trans (by rw [hs2])) (by rw [hs2]; rfl), fun B H0 F H σ Q gd k => h2 B H0 F H σ _ gd (Kn.bd k aF_base fun d x F1 H1 hq e1 s1 q1 k1 => g2 B H0 F1 H1 σ _ (gd.go e1 s1) (Kn.bd k1 aF_base fun d2 y F2 H2 hq2 e2 s2 q2 k2 => ?_))⟩
  obtain ⟨ds, es, ed, ee, ez⟩ := zip_ns k2.ns
  obtain ⟨b1, l, xs, rfl, l0, l2⟩ := dp_seq q1 ed
  obtain ⟨b2, m, ys, rfl, m0, m2⟩ := dp_seq q2 ee
  have l1 := l0.mono e2.ff
  refine ⟨b1, b2, l, m, xs, ys, rfl, l1.mono s2, m0.mono s2, (k2.of_eq ez).ret (Ex.refl _ _) s2 fun F3 H3 e s => ?_⟩
  have l3 := (l1.mono e).mono s
  have m3 := (m0.mono e).mono s
  have n1 := DpAll.length l2
  have n2 := DpAll.length m2
  have n3 := zipX_len ds es
  refine ⟨⟨xs, ys, l3, m3, by omega, by omega, by omega⟩, fun i d hd => ?_⟩
  obtain ⟨y1, y2, p1, p2, rfl⟩ := zipX_get hd
  obtain ⟨v, v1, v2⟩ := DpAll.get l2 p1
  obtain ⟨w, w1, w2⟩ := DpAll.get m2 p2
  refine ⟨⟨xs, ys, v, w, l3, m3, v1, w1⟩, fun x H4 ⟨T, u1, u2, z1, z2, z3, z4, z5⟩ => ?_⟩
  have q3 := z4 xs l3
  have q4 := z5 ys m3
  rw [v1] at q3
  rw [w1] at q4
  cases q3; cases q4; subst z1; subst z3
  exact pair_step s z2 (Dp.mono (e2.ff.trans e) _ _ v2) (Dp.mono e _ _ w2)
end
end DL
/-! What is walked, list or tuple. -/
namespace DL
open PySem L2 PyProof.Rows
def enumA : D → Res (List D)
  | .list xs => .ok (enumX xs)
  | .tuple xs => .ok (enumX xs)
  | _ => .stuck
def revA : D → Res D
  | .list ds => .ok (.list ds.reverse)
  | .tuple ds => .ok (.tuple ds.reverse)
  | _ => .stuck
theorem bd_two {α : Type} {f g h : D → Res α} (e : ∀ d, h d = f d ∨ h d = g d) (r : Res D) : r.bd h = r.bd f ∨ r.bd h = r.bd g := by
  cases r with
  | ok d => exact e d
  | exc n => exact .inl rfl
  | stuck => exact .inl rfl
theorem bd2_two {α : Type} {f g h : D → D → Res α} (e : ∀ d d', h d d' = f d d' ∨ h d d' = g d d') (r r' : Res D) : bd2 r r' h = bd2 r r' f ∨ bd2 r r' h = bd2 r r' g := by
  cases r with
  | ok d =>
    cases r' with
    | ok d' => exact e d d'
    | exc n => exact .inl rfl
    | stuck => exact .inl rfl
  | exc n => exact .inl rfl
  | stuck => exact .inl rfl
section
variable {X : Cx} {W : WX} {ρ : Env X.K} {a b : Expr} {ra rb : Res D} {p pos tpos : Pos} {elts : List Expr} {kk : Nat} {tg : Expr}
theorem if_seq (ha : EG X W ρ .V a ra) : IF' X W ρ tg a (ra.bd seqItems) := by
  rcases bd_two (f := lstItems) (g := tupItems) (h := seqItems) (fun d => by cases d <;> first | exact .inl rfl | exact .inr rfl) ra with e | e <;> rw [e]
  · exact if_list ha
  · exact if_tup ha.vt
theorem ig_seq (ha : EG X W ρ .T a ra) : IG X W ρ tg a (ra.bd seqItems) := by
  rcases bd_two (f := lstItems) (g := tupItems) (h := seqItems) (fun d => by cases d <;> first | exact .inl rfl | exact .inr rfl) ra with e | e <;> rw [e]
  · exact ig_list ha
  · exact (if_tup ha).g
theorem if_enumerateA (ha : EG X W ρ .V a ra) (hm : X.mg "enumerate" = none) (hg : Gl X "enumerate" := by rfl) (hs : starEach [a] X.env = [(false, eval a X.env)] := by rfl) : IF' X W ρ (.Tuple elts kk tpos) (.Call (.Name "enumerate" p) [a] [] pos) (ra.bd enumA) := by
  rcases bd_two (f := enumL) (g := enumT) (h := enumA) (fun d => by cases d <;> first | exact .inl rfl | exact .inr rfl) ra with e | e <;> rw [e]
  · exact if_enumerateL ha hm hg hs
  · exact if_enumerateT ha.vt hm hg hs
theorem ig_enumerateA (ha : EG X W ρ .T a ra) (hm : X.mg "enumerate" = none) (hg : Gl X "enumerate" := by rfl) (hs : starEach [a] X.env = [(false, eval a X.env)] := by rfl) : IG X W ρ (.Tuple elts kk tpos) (.Call (.Name "enumerate" p) [a] [] pos) (ra.bd enumA) := by
  rcases bd_two (f := enumL) (g := enumT) (h := enumA) (fun d => by cases d <;> first | exact .inl rfl | exact .inr rfl) ra with e | e <;> rw [e]
  · exact ig_enumerateL ha hm hg hs
  · exact ig_enumerateT ha hm hg hs
theorem eg_rev {k : Nat} {q1 q2 q3 : Pos} (ha : EG X W ρ .T a ra) : EG X W ρ .O (.Subscript a (.Slice none none (some (.UnaryOp .USub (.Constant (.int 1) k q1) q2)) q3) pos) (ra.bd revA) := by
  rcases bd_two (f := revV) (g := revT) (h := revA) (fun d => by cases d <;> first | exact .inl rfl | exact .inr rfl) ra with e | e <;> rw [e]
  · exact eg_revL ha
  · exact eg_revT ha
end
end DL
/-! What a def hands out: one's own list, or another thing. -/
namespace DL
open PySem L2 PyProof.Rows
structure RG (X : Cx) (W : WX) (rk : Md) (ρ : Env X.K) (e : Expr) (r : Res D) : Prop where
  ex : ∃ t, PE X e t ∧ ∀ B H0 F H σ D, Good B H0 F H ρ σ → KS X W rk B H0 r Fin.rt D → t σ H D.rt
section
variable {X : Cx} {W : WX} {rk : Md} {ρ : Env X.K} {e a b c : Expr} {r ra rb : Res D} {rc : Res Bool} {pos p : Pos}
theorem rg_of (he : EG X W ρ rk e r) : RG X W rk ρ e r := by
  obtain ⟨t, h1, h2⟩ := he
  refine ⟨_, h1, fun B H0 F H σ D g q => h2 B H0 F H σ _ g (KS.kn (f := fun d => .ok d) g (q.of_eq (bd_ret r).symm) fun d v F1 H1 _ x s a g' q' => ?_)⟩
  exact q'.ok d rfl v F1 H1 g'.ex s (a.base g.ex.hh)
theorem rg_own {x : Str} {d : D} (i : Nat) (hρ : ρ[i]? = some (cRes d)) (hN : X.N[i]? = some x := by rfl) (hv : Vis X.env.scope x := by first | exact Or.inl rfl | exact Or.inr (Or.inl rfl) | exact Or.inr (Or.inr rfl)) (hd : (x == ("__debug__" : Str)) = false := by decide)
    (hcd : (x == ("__classdict__" : Str)) = false := by decide) : RG X W .O ρ (.Name x p) (.ok d) := by
  refine ⟨_, pe_var hN hv hd hcd, fun B H0 F H σ D g q => ?_⟩
  obtain ⟨ex, fh, ass, sl, hn, ho⟩ := g
  obtain ⟨v, as, h1, h2, y, h3, h4⟩ := sl.get hρ
  subst h3
  exact ⟨y, h1, q.ok d rfl y F H ex fh ⟨as, h4, fun a ha => by
    have := ho a (List.mem_flatten.mpr ⟨as, List.mem_of_getElem? h2, ha⟩)
    exact ⟨this.2, this.1⟩⟩⟩
theorem rg_if (hc : TG' X W ρ c rc) (ha : RG X W rk ρ a ra) (hb : RG X W rk ρ b rb) : RG X W rk ρ (.IfExp c a b pos) (ifR rc ra rb) := by
  obtain ⟨t, h1, h2⟩ := hc
  obtain ⟨ta, a1, a2⟩ := ha
  obtain ⟨tb, b1, b2⟩ := hb
  refine ⟨_, pe_ifExp h1 a1 b1, fun B H0 F H σ D g q => h2 B H0 F H σ _ g (KS.kn g q fun k y F1 H1 _ x s ac g' q' => ?_)⟩
  cases ac
  cases k with
  | true => rw [if_pos rfl]; exact a2 B H0 F1 H1 σ D g' (q'.of_eq (if_pos rfl))
  | false => rw [if_neg Bool.false_ne_true]; exact b2 B H0 F1 H1 σ D g' (q'.of_eq (if_neg Bool.false_ne_true))
theorem sv_retR (h : RG X W rk ρ e r) : SV X W rk ρ [.Return (some e) pos] r Fin.rt := by
  obtain ⟨t, h1, h2⟩ := h
  exact ⟨_, pss_one (ps_ret h1), fun B H0 F H σ D g q => h2 B H0 F H σ D g q⟩
end
end DL
/-! Numbers: sets of them, sorted ones; is True, is False. -/
namespace DL
open PySem L2 PySem.Spec PyProof.Rows
/-! ### plain -/
def stepI (acc : List Int) (x : Int) : List Int := if acc.any (· == x) then acc else acc ++ [x]
/-- each number once -/
def uqI (ns : List Int) : List Int := ns.foldl stepI []
theorem stepI_mem {acc : List Int} {x y : Int} : y ∈ stepI acc x ↔ y ∈ acc ∨ y = x := by
  unfold stepI
  cases h : acc.any (· == x) with
  | false => rw [if_neg Bool.false_ne_true, List.mem_append, List.mem_singleton]
  | true =>
    rw [if_pos rfl]
    obtain ⟨z, hz, e⟩ := List.any_eq_true.mp h
    have e : z = x := eq_of_beq e
    exact ⟨.inl, fun q => q.elim id fun q => by rw [q, ← e]; exact hz⟩
theorem stepI_nodup {acc : List Int} {x : Int} (h : acc.Nodup) : (stepI acc x).Nodup := by
  unfold stepI
  cases q : acc.any (· == x) with
  | true => rw [if_pos rfl]; exact h
  | false =>
    rw [if_neg Bool.false_ne_true]
    refine List.nodup_append.mpr ⟨h, by simp, fun a ha b hb e => ?_⟩
    rw [List.mem_singleton.mp hb] at e
    rw [e] at ha
    have := List.any_eq_false.mp q x ha
    simp at this
theorem foldI : ∀ (ns acc : List Int), acc.Nodup → (ns.foldl stepI acc).Nodup ∧ ∀ y, y ∈ ns.foldl stepI acc ↔ y ∈ acc ∨ y ∈ ns
  | [], acc, h => ⟨h, fun y => by simp⟩
  | n :: ns, acc, h => by
    obtain ⟨h1, h2⟩ := foldI ns (stepI acc n) (stepI_nodup h)
    refine ⟨h1, fun y => ?_⟩
    rw [List.foldl_cons, h2, stepI_mem, List.mem_cons]
    exact or_assoc
theorem uqI_nodup (ns : List Int) : (uqI ns).Nodup := (foldI ns [] List.nodup_nil).1
theorem uqI_mem {ns : List Int} {y : Int} : y ∈ uqI ns ↔ y ∈ ns := by
  have := (foldI ns [] List.nodup_nil).2 y
  simpa [uqI] using this
theorem nodup_sub {α : Type} [DecidableEq α] : ∀ {l m : List α}, l.Nodup → (∀ x ∈ l, x ∈ m) → l.length ≤ m.length
  | [], _, _, _ => Nat.zero_le _
  | x :: l, m, hn, hs => by
    obtain ⟨h1, h2⟩ := List.nodup_cons.mp hn
    have hx : x ∈ m := hs x (by simp)
    have ih := nodup_sub (l := l) (m := m.erase x) h2 fun y hy => (List.mem_erase_of_ne (fun e : y = x => h1 (by rw [← e]; exact hy))).2 (hs y (by simp [hy]))
    have := List.length_erase_of_mem hx
    have := List.length_pos_of_mem hx
    simp only [List.length_cons]
    omega
theorem nodup_len {α : Type} [DecidableEq α] {l m : List α} (h1 : l.Nodup) (h2 : m.Nodup) (h : ∀ x, x ∈ l ↔ x ∈ m) : l.length = m.length :=
  Nat.le_antisymm (nodup_sub h1 fun x hx => (h x).mp hx) (nodup_sub h2 fun x hx => (h x).mpr hx)
/-- sorted -/
def sortI (ns : List Int) : List Int := ns.mergeSort fun a b => decide (a ≤ b)
theorem sortI_perm (ns : List Int) : (sortI ns).Perm ns := List.mergeSort_perm ns _
theorem sortI_pw (ns : List Int) : (sortI ns).Pairwise (· ≤ ·) := by
  have := List.pairwise_mergeSort (le := fun a b : Int => decide (a ≤ b)) (fun a b c h1 h2 => decide_eq_true (Int.le_trans (of_decide_eq_true h1) (of_decide_eq_true h2))) (fun a b => by
    rcases Int.le_total a b with h | h <;> simp [h]) ns
  exact this.imp fun h => of_decide_eq_true h
theorem sort_uniq : ∀ {l m : List Int}, l.Perm m → l.Pairwise (· ≤ ·) → m.Pairwise (· ≤ ·) → l = m
  | [], m, h, _, _ => (List.Perm.nil_eq h)
  | x :: l, [], h, _, _ => absurd h.length_eq (by simp)
  | x :: l, y :: m, h, h1, h2 => by
    obtain ⟨a1, a2⟩ := List.pairwise_cons.mp h1
    obtain ⟨b1, b2⟩ := List.pairwise_cons.mp h2
    have e : x = y := by
      have hx : x ∈ y :: m := h.mem_iff.mp (by simp)
      have hy : y ∈ x :: l := h.mem_iff.mpr (by simp)
      rcases List.mem_cons.mp hx with e | hx
      · exact e
      · rcases List.mem_cons.mp hy with e | hy
        · exact e.symm
        · exact Int.le_antisymm (a1 y hy) (b1 x hx)
    subst e
    rw [sort_uniq h.cons_inv a2 b2]
theorem sortI_of {ns ms : List Int} (h : ms.Perm ns) (p : ms.Pairwise (· ≤ ·)) : ms = sortI ns := sort_uniq (h.trans (sortI_perm ns).symm) p (sortI_pw ns)
theorem perm_of_mem {α : Type} [DecidableEq α] {l m : List α} (h1 : l.Nodup) (h2 : m.Nodup) (h : ∀ x, x ∈ l ↔ x ∈ m) : l.Perm m := by
  rw [List.perm_iff_count]
  intro a
  rw [h1.count, h2.count]
  simp only [h a]
/-! ### the rules -/
def lenSetV : D → Res D
  | .list xs => match intsOf xs with | some ns => if decide (ns.length ≤ 4000) then .ok (.int (uqI ns).length) else .stuck | none => .stuck
  | .tuple xs => match intsOf xs with | some ns => if decide (ns.length ≤ 4000) then .ok (.int (uqI ns).length) else .stuck | none => .stuck
  | _ => .stuck
def sortedSetV : D → Res D
  | .tuple xs => match intsOf xs with | some ns => if decide (ns.length ≤ 4000 ∧ (uqI ns).length < 64) then .ok (.list ((sortI (uqI ns)).map .int)) else .stuck | none => .stuck
  | _ => .stuck
theorem firstMet_uq (ns : List Int) : PyProof.Rows.firstMet (fun i => ns.getD i 0) ns.length = uqI ns := by
  have e : (List.range ns.length).map (fun i => ns.getD i 0) = ns := by
    apply List.ext_getElem
    · simp
    · intro i h1 h2
      simp [List.getD_eq_getElem?_getD, List.getElem?_eq_getElem h2]
  unfold PyProof.Rows.firstMet
  rw [e]
  rfl
theorem setR_len {w : World} {h : Heap} {a : Addr} {ns : List Int} {c : Nat} (R : SetR w h a (fun j => decide (j ∈ ns)) c) : c = (uqI ns).length := by
  obtain ⟨o, es, ep, t, _, _, _, _, nd, mem, _, _, hn, _⟩ := R
  rw [← hn, ← Array.length_toList, ← List.length_map (f := keyOf)]
  refine nodup_len nd (uqI_nodup ns) fun x => ?_
  rw [← mem x, uqI_mem]
  simp
section
variable {X : Cx} {W : WX} {ρ : Env X.K} {e a : Expr} {r ra : Res D} {pos p p2 q : Pos}
theorem sets_tup {pins : List (Addr × Obj)} {σ : L2.St} {H : Hp} {s : Shared} {l : Addr} {ns : List Int} {Q : Value → Shared → Prop} (hc : X.calm = true) (I : Inv X pins σ H s) (h : SqT X.K H l (ns.map V.int)) (hl : ns.length ≤ 4000)
    (k : ∀ (h' : Heap) (tk c : Nat), SetR X.w h' s.heap.objs.size (fun j => decide (j ∈ ns)) c → (∀ b o, s.heap.get? b = some o → h'.get? b = some o) → Q (.ref s.heap.objs.size) { s with heap := h', toks := tk }) :
    wpAny (model X.prog X.w) X.A (call (.type "set") [.ref l]) Q X.xe s := by
  obtain ⟨its, rv, pl, _⟩ := I.tuple h
  exact call_set_tupI ns (I.ok.hd hc) pl (by simpa using intsAre_of rv) (by unfold scanBound; omega) fun h' tk c R _ hk => k h' tk c R hk
theorem eg_lenSet [C : Ctx X W] (ha : EG X W ρ .T a ra) (hm : X.mg "len" = none) (hm2 : X.mg "set" = none) (hg : Gl X "len" := by rfl) (hg2 : Gl X "set" := by rfl) (na : starEach [a] X.env = (false, eval a X.env) :: starEach [] X.env := by rfl)
    (n2 : starEach [.Call (.Name "set" p2) [a] [] q] X.env = (false, eval (.Call (.Name "set" p2) [a] [] q) X.env) :: starEach [] X.env := by rfl) (hp : (backTo q (starEach [] X.env)).any (·.1) = false := by rfl) (hp2 : (backTo pos (starEach [] X.env)).any (·.1) = false := by rfl) :
    EG X W ρ .V (.Call (.Name "len" p) [.Call (.Name "set" p2) [a] [] q] [] pos) (ra.bd lenSetV) := by
  obtain ⟨ta, a1, a2⟩ := ha
  refine ⟨fun σ H Q => ta σ H fun x H1 => ∃ (l : Addr) (ns : List Int), x = .ref l ∧ (SqL X.K H1 l (ns.map V.int) ∨ SqT X.K H1 l (ns.map V.int)) ∧ ns.length ≤ 4000 ∧ Q (.int ((uqI ns).length : Nat)) H1, ⟨fun pins s σ H Q I h => ?_⟩, fun B H0 F H σ Q gd k => a2 B H0 F H σ _ gd (Kn.bd k acc_base fun d x F1 H1 _ e1 s1 q1 k1 => ?_)⟩
  · refine Call_ (ld_blt I hg hm boot_len (PyProof.Rows.callWith_builtin1 (args_cons ?_ n2) n2 hp2))
    refine Call_ (ld_blt I hg2 hm2 PyProof.Rows.boot_set (PyProof.Rows.callWith_type1 (args_cons (thn (a1.run pins s σ H _ I h) fun v s1 ⟨x, H1, I1, r1, q1⟩ => args_nil ?_) na) na hp))
    obtain ⟨l, ns, rfl, hx, hl, q2⟩ := q1
    cases r1
    rcases hx with hx | hx
    · obtain ⟨its, rv, pl, _⟩ := I1.list hx
      have hlen : its.toArray.size = ns.length := by rw [List.size_toArray, ← rv.length, List.length_map]
      refine call_set_list (I1.ok.hd C.calm) pl.isList (by simpa using intsAre_of rv) (by rw [hlen]; unfold scanBound; omega) fun h' tk hS hk => args_nil ?_
      rw [hlen, firstMet_uq] at hS
      obtain ⟨o, es, ep, t, ho, hex, hd, _, _, _, hf, hn⟩ := hS
      have I2 : Inv X pins σ H1 { s1 with heap := h', toks := tk } := I1.kept fun b o e => hk b o (Heap.lt_size e) e
      have hle : (uqI ns).length ≤ ns.length := nodup_sub (uqI_nodup ns) fun x hx => uqI_mem.mp hx
      exact call_len_set ho hex hd hf (by rw [hn]; omega) ⟨.int ((uqI ns).length : Nat), H1, I2.tok _, ⟨_, by rw [hn]⟩, q2⟩
    · refine sets_tup C.calm I1 hx hl fun h' tk c R hk => args_nil ?_
      have ec := setR_len R
      obtain ⟨o, es, ep, t, ho, hex, hd, _, _, _, _, hf, hn, _⟩ := R
      have I2 : Inv X pins σ H1 { s1 with heap := h', toks := tk } := I1.kept fun b o e => hk b o e
      have hle : (uqI ns).length ≤ ns.length := nodup_sub (uqI_nodup ns) fun x hx => uqI_mem.mp hx
      exact call_len_set ho hex hd hf (by rw [hn]; omega) ⟨.int ((uqI ns).length : Nat), H1, I2.tok _, ⟨_, by rw [hn, ec]⟩, q2⟩
  · have fin : ∀ {xs : List D} {vs : List V}, DpAll X.K F1 vs xs → lenSetV d = (match intsOf xs with | some ns => if decide (ns.length ≤ 4000) then .ok (.int (uqI ns).length) else .stuck | none => .stuck) →
        ∃ ns : List Int, vs = ns.map V.int ∧ ns.length ≤ 4000 ∧ lenSetV d = .ok (.int (uqI ns).length) := fun {xs vs} q ed => by
      cases e : intsOf xs with
      | none => rw [e] at ed; exact absurd ed k1.ns
      | some ns =>
        rw [e] at ed
        by_cases hl : ns.length ≤ 4000
        · exact ⟨ns, (intsOf_dp e q).1, hl, ed.trans (if_pos (decide_eq_true hl))⟩
        · exact absurd (ed.trans (if_neg (by simpa using hl))) k1.ns
    cases d <;> first | exact absurd rfl k1.ns | skip
    · obtain ⟨l, xs, rfl, g1, g2⟩ := tp_list q1
      obtain ⟨ns, rfl, hl, ed⟩ := fin g2 rfl
      exact ⟨l, ns, rfl, .inl g1, hl, kn_flat (k1.of_eq ed) s1 rfl (.int _)⟩
    · obtain ⟨l, xs, rfl, g1, g2⟩ := tp_tup q1
      obtain ⟨ns, rfl, hl, ed⟩ := fin g2 rfl
      exact ⟨l, ns, rfl, .inr (Same.tup s1 g1), hl, kn_flat (k1.of_eq ed) s1 rfl (.int _)⟩
theorem eg_sortedSet [C : Ctx X W] (ha : EG X W ρ .T a ra) (hm : X.mg "sorted" = none) (hm2 : X.mg "set" = none) (hg : Gl X "sorted" := by rfl) (hg2 : Gl X "set" := by rfl) (na : starEach [a] X.env = (false, eval a X.env) :: starEach [] X.env := by rfl)
    (n2 : starEach [.Call (.Name "set" p2) [a] [] q] X.env = (false, eval (.Call (.Name "set" p2) [a] [] q) X.env) :: starEach [] X.env := by rfl) (hp : (backTo q (starEach [] X.env)).any (·.1) = false := by rfl) (hp2 : (backTo pos (starEach [] X.env)).any (·.1) = false := by rfl) :
    EG X W ρ .O (.Call (.Name "sorted" p) [.Call (.Name "set" p2) [a] [] q] [] pos) (ra.bd sortedSetV) := by
  obtain ⟨ta, a1, a2⟩ := ha
  refine ⟨fun σ H Q => ta σ H fun x H1 => ∃ (l : Addr) (ns : List Int), x = .ref l ∧ SqT X.K H1 l (ns.map V.int) ∧ ns.length ≤ 4000 ∧ (uqI ns).length < 64 ∧ ∀ p, H1 p = none → Q (.ref p) (upd H1 p (.lst ((sortI (uqI ns)).map V.int))), ⟨fun pins s σ H Q I h => ?_⟩, fun B H0 F H σ Q gd k => a2 B H0 F H σ _ gd (Kn.bd k acc_base fun d x F1 H1 _ e1 s1 q1 k1 => ?_)⟩
  · refine Call_ (ld_blt I hg hm DL.boot_sorted (PyProof.Rows.callWith_builtin1 (args_cons ?_ n2) n2 hp2))
    refine Call_ (ld_blt I hg2 hm2 PyProof.Rows.boot_set (PyProof.Rows.callWith_type1 (args_cons (thn (a1.run pins s σ H _ I h) fun v s1 ⟨x, H1, I1, r1, q1⟩ => args_nil ?_) na) na hp))
    obtain ⟨l, ns, rfl, hx, hl, h64, q2⟩ := q1
    cases r1
    refine sets_tup C.calm I1 hx hl fun h' tk c R hk => args_nil ?_
    have ec := setR_len R
    have I2 : Inv X pins σ H1 { s1 with heap := h', toks := tk } := I1.kept fun b o e => hk b o e
    refine sorted_set R (I2.ok.hd C.calm) (by omega) fun s' p out cc ms kk g o hp hg hi hs hm hl => ?_
    have em : ms = sortI (uqI ns) := sortI_of (perm_of_mem (hs.imp fun h => Int.ne_of_lt h) (uqI_nodup ns) fun x => by rw [hm x, uqI_mem]; simp) (hs.imp fun h => Int.le_of_lt h)
    have hlen : (ms.map V.int).length ≤ sizeLine := by rw [List.length_map, hl, PySem.sizeLine_eq]; omega
    have hn : H1 p = none := I2.hok.fresh hp
    rw [em] at hi hlen
    have J := I2.call (h' := s'.heap) (g' := s'.gens) (t' := s'.toks) (d' := s'.drawn) (ch := []) (Un.laid (o := .lst ((sortI (uqI ns)).map V.int)) kk hp hn) (I2.hok.laid kk hp ⟨hlen, out.toList, cc, vals_of_ints hi, hg⟩) (by rw [g]; exact I2.bare) (fun _ z => nomatch z)
    have es : s' = { s1 with heap := s'.heap, gens := s'.gens, drawn := s'.drawn, toks := s'.toks } := by
      obtain ⟨_, _, _, _, _⟩ := s'
      cases o
      rfl
    rw [es]
    exact ⟨.ref p, _, J, rfl, q2 p hn⟩
  · cases d <;> first | exact absurd rfl k1.ns | skip
    obtain ⟨l, xs, rfl, g1, g2⟩ := tp_tup q1
    rename_i ds _
    cases e : intsOf ds with
    | none => exact absurd (show (match intsOf ds with | some ns => if decide (ns.length ≤ 4000 ∧ (uqI ns).length < 64) then Res.ok (PyData.list ((sortI (uqI ns)).map .int)) else .stuck | none => .stuck) = .stuck by rw [e]) k1.ns
    | some ns =>
      have ed : sortedSetV (.tuple ds) = if decide (ns.length ≤ 4000 ∧ (uqI ns).length < 64) then .ok (.list ((sortI (uqI ns)).map .int)) else .stuck := by simp only [sortedSetV, e]
      by_cases hl : ns.length ≤ 4000 ∧ (uqI ns).length < 64
      · obtain ⟨rfl, _⟩ := intsOf_dp e g2
        refine ⟨l, ns, rfl, Same.tup s1 g1, hl.1, hl.2, fun p hp => kn_newL (k1.of_eq (ed.trans (if_pos (decide_eq_true hl)))) s1 hp ?_⟩
        generalize sortI (uqI ns) = ms
        induction ms with
        | nil => exact .nil
        | cons m ms ih => exact .cons (.int m) ih
      · exact absurd (ed.trans (if_neg (by simpa using hl))) k1.ns
/-! is True, is False -/
theorem od_isB : OpD X W .V rIsB (fun d e => match d, e with | .bool x, .bool y => .ok (.bool (decide (x = y))) | _, _ => .stuck) := by
  intro F H σ x y d1 d2 Q s h1 h2 k
  cases d1 <;> cases d2 <;> first | exact absurd rfl k.ns | skip
  cases tp_bool h1; cases tp_bool h2
  exact ⟨_, _, rfl, rfl, kn_flat k s rfl (.bl _)⟩
def isBB (d e : D) : Res D := match d, e with | .bool x, .bool y => .ok (.bool (decide (x = y))) | _, _ => .stuck
def notBB (d e : D) : Res D := match d, e with | .bool x, .bool y => .ok (.bool (!decide (x = y))) | _, _ => .stuck
theorem od_notB : OpD X W .V rNotB notBB := by
  intro F H σ x y d1 d2 Q s h1 h2 k
  cases d1 <;> cases d2 <;> first | exact absurd rfl k.ns | skip
  cases tp_bool h1; cases tp_bool h2
  exact ⟨_, _, rfl, rfl, kn_flat k s rfl (.bl _)⟩
theorem c_isB : CmpD X W .Is isBB := ⟨_, op_isBl, od_isB⟩
theorem c_notB : CmpD X W .IsNot notBB := ⟨_, op_notBl, od_notB⟩
end
end DL
/-! sorted(x): data that are alike, from a list, a tuple, or what is collected. -/
namespace DL
open PySem L2 PySem.Spec PyProof.Rows PySem.W
/-! ### plain -/
def alikeB (ds : List D) : Bool := ds.all fun d => ds.all fun e => alike d e
def tupHd : D → Bool
  | .tuple (_ :: _) => true
  | _ => false
def plainK : D → Bool
  | .none => false
  | .tuple _ => false
  | _ => true
def sortOk (ds : List D) : Bool := alikeB ds && (ds.all tupHd || ds.all plainK) && ds.all (fun d => decide (d.depth ≤ 8)) && fits ds.length
def sortD (ds : List D) : List D := ds.mergeSort (dataLe false id)
def sortR (ds : List D) : Res D := if sortOk ds then .ok (.list (sortD ds)) else .stuck
def sortedV : D → Res D
  | .list ds => sortR ds
  | .tuple ds => sortR ds
  | _ => .stuck
theorem sortOk_of {ds : List D} (h : sortOk ds = true) : AllAlike (ds.map id) ∧ Sortable (ds.map id) ∧ (∀ d ∈ ds, d.depth ≤ 8) ∧ ds.length ≤ sizeLine := by
  unfold sortOk at h
  rw [Bool.and_eq_true, Bool.and_eq_true, Bool.and_eq_true] at h
  obtain ⟨⟨⟨h1, h2⟩, h3⟩, h4⟩ := h
  rw [List.map_id]
  refine ⟨fun d hd d' hd' => ?_, ?_, fun d hd => of_decide_eq_true (List.all_eq_true.mp h3 d hd), fits_le h4⟩
  · exact List.all_eq_true.mp (List.all_eq_true.mp h1 d hd) d' hd'
  · rcases Bool.or_eq_true _ _ ▸ h2 with h2 | h2
    · refine .inl fun d hd => ?_
      have := List.all_eq_true.mp h2 d hd
      cases d with
      | tuple xs =>
        cases xs with
        | nil => cases this
        | cons x r => exact ⟨x, r, rfl⟩
      | _ => cases this
    · refine .inr fun d hd => ?_
      have := List.all_eq_true.mp h2 d hd
      exact ⟨(fun z => by subst z; cases this), (fun xs z => by subst z; cases this)⟩
/-! ### from values -/
section
variable {prog : Program} {w : World} {A : Around} {s : Shared}
/-- what is collected stands in old objects and new ones -/
def Collects (prog : Program) (w : World) (A : Around) (s : Shared) (x : Value) (vs : List Value) : Prop :=
  ∀ (E : Value → Shared → Prop) (R : List Value → Shared → Prop), (∀ h' tk, (∀ b o, s.heap.get? b = some o → h'.get? b = some o) → R vs { s with heap := h', toks := tk }) → wpAny (model prog w) A (collect x) R E s
theorem collects_list {l : Addr} {vs : List Value} (hl : s.heap.IsList l vs.toArray) (hz : vs.length ≤ sizeLine) : Collects prog w A s (.ref l) vs := fun E R h =>
  collect_list hl (h _ s.toks fun b o e => by
    have hlt : b < s.heap.objs.size := Heap.lt_size e
    rw [Heap.get?_update_ne _ _ _ _ (Nat.ne_of_lt hlt)]
    exact Heap.get?_push_of_some _ e) hz
theorem collects_tup {l : Addr} {vs : List Value} (hl : IsTup s.heap l vs.toArray) (hz : vs.length ≤ sizeLine) : Collects prog w A s (.ref l) vs := fun E R h => by
  obtain ⟨o, ho, hc, n, hd⟩ := hl
  have hT : Shared.TypeIs { s with heap := s.heap.push (seqObj "list" #[] 0) } (.ref l) "tuple" := ⟨o, Heap.get?_push_of_some _ ho, hc⟩
  have h2 : (s.heap.push (seqObj "list" #[] 0)).get? s.heap.objs.size = some (seqObj "list" #[] 0) := Heap.get?_push_size _ rfl
  have hu := get?_update_seq h2 (· ++ vs.toArray)
  unfold collect; refine wpAny_bind (wpAny_runValue (codeAny_builtin entry_proto_collect' (wpAny_bind (wpAny_newList (wpAny_pure ⟨Code.quiet_builtin _ (by decide +kernel), codeAny_builtin entry_list_iadd' ?_⟩)))))
  show wpAny _ _ (Builtin.List.listExtendWith (.ref s.heap.objs.size) (.ref l) _) _ _ _
  unfold Builtin.List.listExtendWith; refine wpAny_bind (wpAny_typeOf hT ?_)
  rw [if_pos (by rw [show (Value.type "tuple" == Value.type "tuple") = true from by rfl, Bool.or_true])]
  refine wpAny_bind (listItems_at (Heap.get?_push_of_some _ ho) hd (wpAny_bind (listItems_at (xs := #[]) (n := 0) h2 rfl ?_)))
  rw [if_neg (by simp)]
  refine wpAny_bind (listUpdate_at (xs := #[]) (n := 0) h2 rfl (wpAny_pure ?_) (Nat.zero_le _) (by show (#[] ++ vs.toArray).size ≤ sizeLine + 1; rw [Array.size_append, List.size_toArray, List.size_toArray, List.length_nil]; omega))
  show wpAny _ A (load s.heap.objs.size >>= _) _ _ _
  refine wpAny_bind (wpAny_load hu ?_)
  show wpAny _ _ (pure (#[] ++ vs.toArray : Array Value).toList) _ _ _
  rw [show (#[] ++ vs.toArray : Array Value).toList = vs by simp]
  exact wpAny_pure (h _ s.toks fun b o e => by
    have hlt : b < s.heap.objs.size := Heap.lt_size e
    rw [Heap.get?_update_ne _ _ _ _ (Nat.ne_of_lt hlt)]
    exact Heap.get?_push_of_some _ e)
/-- sorted(x), by what is collected -/
theorem sorted_any {x : Value} {vs : List Value} {ds : List D} {R : Value → D → Prop} {kw : List (Str × Value)} {rev : Bool} {Q : Value → Shared → Prop} {E : Value → Shared → Prop} (hkw : (kw = [] ∧ rev = false) ∨ kw = [(Str.ofString "reverse", .bool rev)])
    (hc : Collects prog w A.in1 s x vs) (e : EachIs R vs ds) (er : EachIs (fun v d => ∃ as, Reads s.heap v d as) vs ds) (ok : sortOk ds = true) (hu : A.units + 16 < cLine)
    (h : ∀ (h1 h' : Heap) (tk : Nat) (out : List Value) (n : Nat), (∀ b o, s.heap.get? b = some o → h1.get? b = some o) → (∀ b o, h1.get? b = some o → h'.get? b = some o) → h'.get? h1.objs.size = some (seqObj "list" out.toArray n) → out.length = ds.length → EachIs R out (ds.mergeSort (dataLe rev id)) → Q (.ref h1.objs.size) { s with heap := h', toks := tk }) :
    wpAny (model prog w) A (call (.builtin "sorted") [x] kw) Q E s := by
  obtain ⟨hal, hk, hdp, hL⟩ := sortOk_of ok
  have hlen : vs.length = ds.length := e.length
  have ha1 : argsOk "sorted" ⟨[x], kw⟩ := by
    rcases hkw with ⟨rfl, _⟩ | rfl
    · exact args_sorted1 _
    · exact args_sorted_rev _ _
  have ha2 : ∀ y, argsOk "list.sort" ⟨[.ref y], kw⟩ := fun y => by
    rcases hkw with ⟨rfl, _⟩ | rfl
    · exact args_list_sort _
    · exact args_list_sort_rev _ _
  refine PyProof.Rows.call_function_entry_kw kind_sorted plain_sorted entry_sorted ha1 ?_
  unfold Builtin.«sorted»; refine wpAny_bind (m := checkCount "sorted" 1 1 _) (wpAny_pure (wpAny_bind (hc _ _ fun h1 tk1 k1 => wpAny_bind (wpAny_newList ?_ (by rw [hlen]; exact hL)))))
  have hat : (h1.push (seqObj "list" vs.toArray 0)).get? h1.objs.size = some (seqObj "list" vs.toArray 0) := Heap.get?_push_size _ rfl
  show wpAny _ _ _ _ _ { s with heap := h1.push (seqObj "list" vs.toArray 0), toks := tk1 }
  have k2 : ∀ b o, s.heap.get? b = some o → (sortingHeap (h1.push (seqObj "list" vs.toArray 0)) h1.objs.size vs).get? b = some o := fun b o q =>
    sortingHeap_old (Nat.ne_of_lt (Heap.lt_size (k1 b o q))) (Heap.get?_push_of_some _ (k1 b o q))
  have er' : EachIs (fun v d => ∃ as, Reads (sortingHeap (h1.push (seqObj "list" vs.toArray 0)) h1.objs.size vs) v (id d) as) vs ds := er.mono fun _ _ ⟨as, r⟩ => ⟨as, PyProof.Rows.Reads.keeps k2 r⟩
  have S : SortsAt prog w A.in1.in1 { s with heap := sortingHeap (h1.push (seqObj "list" vs.toArray 0)) h1.objs.size vs, toks := tk1 } (dataKind (sortingHeap (h1.push (seqObj "list" vs.toArray 0)) h1.objs.size vs) (ds.map id)) vs :=
    SortsAt.data (s := { s with heap := sortingHeap (h1.push (seqObj "list" vs.toArray 0)) h1.objs.size vs, toks := tk1 }) (each_map (R := fun v d => ∃ as, Reads (sortingHeap (h1.push (seqObj "list" vs.toArray 0)) h1.objs.size vs) v d as) id er') hal hk (fun d hd => by
      rw [List.map_id] at hd
      have := hdp d hd
      show A.units + 1 + 1 + d.depth < cLine
      omega)
  have fin : ∀ P : PySem.Fin → Shared → Prop, P (.done (.ret .none)) { s with heap := sortedHeap (h1.push (seqObj "list" vs.toArray 0)) h1.objs.size vs (sortVals (dataKind (sortingHeap (h1.push (seqObj "list" vs.toArray 0)) h1.objs.size vs) (ds.map id)) rev vs vs).toArray, toks := tk1 } →
      ∀ E', wpAny (model prog w) A.in1.in1 (Builtin.«list.sort» ⟨[.ref h1.objs.size], kw⟩) P E' { s with heap := h1.push (seqObj "list" vs.toArray 0), toks := tk1 } := fun P hP E' => by
    rcases hkw with ⟨rfl, rfl⟩ | rfl
    · exact list_sort_vals (s := { s with heap := h1.push (seqObj "list" vs.toArray 0), toks := tk1 }) hat S (by rw [hlen]; exact hL) hP
    · exact list_sort_rev_vals (s := { s with heap := h1.push (seqObj "list" vs.toArray 0), toks := tk1 }) hat S (by rw [hlen]; exact hL) hP
  refine wpAny_bind (wpAny_holding (wpAny_call_entry_kw slot_list_sort ⟨_, hat, rfl⟩ entry_list_sort (fin _ ⟨_, rfl, wpAny_pure ⟨_, rfl, ?_⟩⟩ _) (ha2 _)))
  obtain ⟨n, hn⟩ := sortedHeap_at (vs := vs) (out := (sortVals (dataKind (sortingHeap (h1.push (seqObj "list" vs.toArray 0)) h1.objs.size vs) (ds.map id)) rev vs vs).toArray) hat
  refine h h1 _ tk1 _ n k1 (fun b o q => ?_) hn (by rw [sortVals_length rev rfl]; exact hlen) (sortVals_data rev e er' hal)
  rw [sortedHeap_old (Nat.ne_of_lt (Heap.lt_size q)) (Heap.lt_size (Heap.get?_push_of_some _ q))]
  exact Heap.get?_push_of_some _ q
end
/-! ### the rule -/
def RelD (K : PySem.W.Frag) (F : Hp) (u : Value) (d : D) : Prop := ∃ v, RelV v u ∧ Dp K F v d
theorem each_of {K : PySem.W.Frag} {F : Hp} : ∀ {xs : List V} {us : List Value} {ds : List D}, Vals xs us → DpAll K F xs ds → EachIs (RelD K F) us ds
  | _, _, _, .nil, .nil => .nil
  | _, _, _, .cons r t, .cons h q => .cons ⟨_, r, h⟩ (each_of t q)
theorem of_each {K : PySem.W.Frag} {F : Hp} : ∀ {us : List Value} {ds : List D}, EachIs (RelD K F) us ds → ∃ ys : List V, Vals ys us ∧ DpAll K F ys ds
  | _, _, .nil => ⟨[], .nil, .nil⟩
  | _, _, .cons ⟨v, r, h⟩ t => by
    obtain ⟨ys, h1, h2⟩ := of_each t
    exact ⟨v :: ys, .cons r h1, .cons h h2⟩
theorem each_reads {X : Cx} {pins : List (Addr × Obj)} {σ : L2.St} {F H : Hp} {s : Shared} (I : Inv X pins σ H s) (fh : Same F H) : ∀ {us : List Value} {ds : List D}, EachIs (RelD X.K F) us ds → EachIs (fun v d => ∃ as, Reads s.heap v d as) us ds
  | _, _, .nil => .nil
  | _, _, .cons ⟨v, r, h⟩ t => .cons (Dp.reads I _ v _ (Dp.mono fh _ _ h) r) (each_reads I fh t)
/-- behind a sort: the new list, tracked -/
theorem sorted_laid {X : Cx} {pins : List (Addr × Obj)} {σ : L2.St} {F H : Hp} {s : Shared} {h1 h' : Heap} {tk n : Nat} {out : List Value} {ds : List D} (I : Inv X pins σ H s) (k1 : ∀ b o, s.heap.get? b = some o → h1.get? b = some o) (k2 : ∀ b o, h1.get? b = some o → h'.get? b = some o)
    (hn : h'.get? h1.objs.size = some (seqObj "list" out.toArray n)) (hz : out.length ≤ sizeLine) (e : EachIs (RelD X.K F) out ds) : ∃ ys, DpAll X.K F ys ds ∧ H h1.objs.size = none ∧ Inv X pins σ (upd H h1.objs.size (.lst ys)) { s with heap := h', toks := tk } := by
  obtain ⟨ys, r, q⟩ := of_each e
  have I1 : Inv X pins σ H { s with heap := h1, toks := tk } := I.kept k1
  exact ⟨ys, q, I1.hok.fresh (Nat.le_refl _), I1.laid (t' := tk) k2 (Nat.le_refl _) ⟨by rw [r.length]; exact hz, out, n, r, hn⟩⟩
def rSortD (K : PySem.W.Frag) : List V → Hp → VK → Prop := fun vs H Q => ∃ a F ds xs, vs = [.ref a] ∧ Same F H ∧ (SqL K H a xs ∨ SqT K H a xs) ∧ DpAll K F xs ds ∧ sortOk ds = true ∧ ∀ p ys, H p = none → DpAll K F ys (sortD ds) → Q (.ref p) (upd H p (.lst ys))
section
variable {X : Cx} {W : WX} {ρ : Env X.K} {e a : Expr} {r ra : Res D} {pos p p2 q : Pos}
theorem cr_sortD (hu : X.A.units + 16 < cLine) : CallR X (.builtin "sorted") (rSortD X.K) := by
  intro pins s σ H vs us Q I r h
  obtain ⟨a, F, ds, xs, rfl, fh, hx, dp, ok, q⟩ := h
  rw [Vals.ref1 r]
  have key : ∃ its, Vals xs its ∧ Collects X.prog X.w X.A.in1 s (.ref a) its := by
    rcases hx with hx | hx
    · obtain ⟨its, rv, pl, hz⟩ := I.list hx
      exact ⟨its, rv, collects_list pl.isList (by rw [← rv.length]; exact hz)⟩
    · obtain ⟨its, rv, pl, hz⟩ := I.tuple hx
      exact ⟨its, rv, collects_tup pl (by rw [← rv.length]; exact hz)⟩
  obtain ⟨its, rv, hc⟩ := key
  have e := each_of rv dp
  refine sorted_any (.inl ⟨rfl, rfl⟩) hc e (each_reads I fh e) ok hu fun h1 h' tk out n k1 k2 hn hl he => ?_
  obtain ⟨ys, g1, g2, J⟩ := sorted_laid (tk := tk) I k1 k2 hn (by rw [hl]; exact (sortOk_of ok).2.2.2) he
  exact ⟨.ref _, _, J, rfl, q _ ys g2 g1⟩
theorem b_sorted [C : Ctx X W] : C1D X W (.builtin "sorted") .O sortedV := by
  refine ⟨_, cr_sortD (by have := C.hu; omega), fun F H σ x d Q s h k => ?_⟩
  have fin : ∀ {a : Addr} {xs : List V} {ds : List D}, (SqL X.K H a xs ∨ SqT X.K H a xs) → DpAll X.K F xs ds → x = .ref a → sortedV d = sortR ds → rSortD X.K [x] H Q := fun {a xs ds} hx dp ex ed => by
    subst ex
    cases ok : sortOk ds with
    | false => exact absurd (ed.trans (by unfold sortR; rw [ok]; rfl)) k.ns
    | true => exact ⟨a, F, ds, xs, rfl, s, hx, dp, ok, fun p ys hp q => kn_newL (k.of_eq (ed.trans (by unfold sortR; rw [ok]; rfl))) s hp q⟩
  cases d <;> first | exact absurd rfl k.ns | skip
  · obtain ⟨a, xs, rfl, q1, q2⟩ := tp_list h
    exact fin (.inl q1) q2 rfl rfl
  · obtain ⟨a, xs, rfl, q1, q2⟩ := tp_tup h
    exact fin (.inr (Same.tup s q1)) q2 rfl rfl
theorem eg_sorted [C : Ctx X W] (ha : EG X W ρ .T a ra) (hm : X.mg "sorted" = none) (hg : Gl X "sorted" := by rfl) (he : starEach [a] X.env = (false, eval a X.env) :: starEach [] X.env := by rfl) (hpl : (backTo pos (starEach [] X.env)).any (·.1) = false := by rfl) :
    EG X W ρ .O (.Call (.Name "sorted" p) [a] [] pos) (ra.bd sortedV) := eg_cB1 b_sorted ha hm DL.boot_sorted hg (by decide) (by decide) he hpl
end
end DL
/-! Exceptions: raise, statements of a call alone, what an except suite asks of the exception, try. -/
namespace DL
open PySem L2 PySem.Spec PyProof.Rows
/-- a global that is a class of exceptions of one's own, without an own __init__ -/
structure ExF (K : PySem.W.Frag) (mg : Str → Option Value) (x : Str) : Prop where
  ex : ∃ C, mg x = some (.ref C) ∧ PySem.W.excIn K C He.veBase "ValueError.__new__" = true ∧ PySem.W.keepIn K (.ref C) = true ∧ PySem.W.subIn K (.ref C) (.type "BaseException") = some true ∧ PySem.W.typeIn K (.ref C) = some (.type "type")
section
variable {X : Cx} {W : WX} {rk m : Md} {ρ : Env X.K} {S T : Type} {st : Stmt} {ss rest : List Stmt} {e a c : Expr} {r ra rb : Res D} {rc : Res Bool} {fin : T → Fin X.K} {pos p p2 p3 p4 : Pos}
theorem sv_raise [C : Ctx X W] {x m : Str} {j : Nat} (h : ExF X.K X.mg x) (hg : Gl X x := by rfl) (hdb : (x == ("__debug__" : Str)) = false := by decide) : SV X W rk ρ [.Raise (some (.Call (.Name x p) [.Constant (.str m) j p2] [] p3)) none p4] (.exc x) fin := by
  obtain ⟨c, h1, h2, h3, h4, h5⟩ := h
  exact ⟨_, pss_one (L2N.ps_raise C.calm C.tk (L2N.pmk_own PySem.F.excBase_ValueError h2 h1 h3 (raises_own h4 h5) hg hdb)), fun B H0 F H σ D g q => q.xc x rfl H _ σ h1 g.ex.hh⟩
/-- a call alone -/
theorem s1_expr (he : EG X W ρ m e r) (hs : swapsWith e none pos.line X.env = pure false := by rfl) : S1 X W rk ρ (.Expr e pos) r (fun _ => .nx ρ) := by
  obtain ⟨t, h1, h2⟩ := he
  exact ⟨_, ps_expr h1 hs, fun B H0 F H σ D g q => h2 B H0 F H σ _ g ⟨q.ns, fun d ed v F' H' x s a => q.ok d ed F' H' _ (g.go x s), fun n en H' C c s => q.xc n en H' C σ c (g.ex.hh.trans s)⟩⟩
/-! ### count, index of data -/
def countL (ds : List D) (e : D) : Res D := if SeqAt.shaped (.list ds) && SeqAt.shaped e then .ok (.int ((ds.countP fun z => PyData.eqv z e : Nat) : Int)) else .stuck
def indexL (ds : List D) (e : D) : Res D := if SeqAt.shaped (.list ds) && SeqAt.shaped e then (match ds.findIdx? (fun z => PyData.eqv z e) with | some j => .ok (.int (j : Nat)) | none => .stuck) else .stuck
def rCountD (K : PySem.W.Frag) : V → List V → Hp → VK → Prop := fun x xs H Q => ∃ (a : Addr) (y : V) (d : D) (ds : List D), x = V.ref a ∧ xs = [y] ∧ Dp K H (V.ref a) (.list ds) ∧ Dp K H y d ∧ SeqAt.shaped (.list ds) = true ∧ SeqAt.shaped d = true ∧
  Q (.int ((ds.countP fun z => PyData.eqv z d : Nat) : Int)) H
theorem mt_countD (hu : X.A.units + 65 < cLine) : MtR X "list.count" (rCountD X.K) := by
  intro pins s σ H x xs v us Q I rx rxs h
  obtain ⟨a, y, d, ds, rfl, rfl, hl, hy, sl, sd, q⟩ := h
  cases rx
  obtain ⟨uy, rfl, ry⟩ := rxs.one
  obtain ⟨bs, r1⟩ := Dp.reads I d y uy hy ry
  have lay := SeqAt.canLay_of_shaped sl
  cases hl with
  | lst hs ha =>
    obtain ⟨its, rv, ⟨⟨cls, dd, data, sls⟩, n, ho, hc, hdn, hdt⟩, _⟩ := I.list hs
    simp only at hc hdt
    subst hc hdt
    obtain ⟨as, h4⟩ := Dp.readsAll I ds _ its ha rv
    have em : its.map (SeqAt.readOf s.heap) = ds := SeqAt.readsAll_map ds its as lay h4
    refine call_meets PySem.F.slot_list_count ⟨_, ho, rfl⟩ PySem.F.entry_list_count (PySem.F.args_list_count_2 _ _)
      (SeqAt.list_countAt a its.toArray n dd sls uy fun u => PyData.eqv (SeqAt.readOf s.heap u) d) ⟨ho, SeqAt.items_eqAt (vs := its.toArray) (show ReadsAll s.heap its.toArray.toList ds as from h4) r1 lay (SeqAt.canLay_of_shaped sd) (room_in_shaped sd hu), ?_⟩
    have ec : its.toArray.toList.countP (fun u => PyData.eqv (SeqAt.readOf s.heap u) d) = ds.countP fun z => PyData.eqv z d := by
      rw [← em, List.countP_map]
      rfl
    rw [ec]
    exact ⟨.int ((ds.countP fun z => PyData.eqv z d : Nat) : Int), H, I.tok _, ⟨s.toks, rfl⟩, q⟩
/-- a method of a list, of one argument, that changes nothing -/
theorem eg_lm {id : String} {nm : Str} {rr : V → List V → Hp → VK → Prop} {g : List D → D → Res D} {apos : Pos} (slot : Slot "list" nm id) (hty : typeOf (.builtin id) = pure (.type "method_descriptor")) (hm : MtR X id rr)
    (hg : ∀ F H σ l ds y d Q, Same F H → Tp X.K F H (.ref l) (.list ds) → Tp X.K F H y d → Kn X W F H σ (g ds d) (Acc X.K .V) Q → rr (.ref l) [y] H Q) (ha : EG X W ρ .T a ra) (hb : EG X W ρ .T c rb)
    (hbase : attributeBase a nm X.env (eval a X.env) = eval a X.env := by rfl)
    (hfew : ((backTo p (starEach [c] X.env)).all (fun x => !x.1) && (backToKw p (keywordEach [] X.env)).all (fun x => x.1.isSome) && decide (([c] : List Expr).length + ([] : List Keyword).length + (if ([] : List Keyword).isEmpty then 0 else 1) < 30)) = true := by rfl)
    (hline : (apos.endLine == p.line) = true := by rfl) (hs : starEach [c] X.env = (false, eval c X.env) :: starEach [] X.env := by rfl) (hplain : (backTo p (starEach [] X.env)).any (·.1) = false := by rfl) :
    EG X W ρ .V (.Call (.Attribute a nm apos) [c] [] p) (ra.bd fun d => onL d fun ds => rb.bd fun e => g ds e) := by
  obtain ⟨ta, a1, a2⟩ := ha
  obtain ⟨tb, b1, b2⟩ := hb
  refine ⟨_, pe_bm PySem.F.plainAttrs_list slot hty hm a1 (pa_cons b1 pa_nil hs) hbase hfew hline hs hplain, fun B H0 F H σ Q gd k => a2 B H0 F H σ _ gd (Kn.bd k acc_base fun d1 x F1 H1 z1 e1 s1 q1 k1 => ?_)⟩
  clear z1
  obtain ⟨ds, rfl⟩ := onL_ns k1.ns
  rw [onL_list] at k1
  have q1 : Tp X.K F1 H1 x (.list ds) := q1
  obtain ⟨l, xs, rfl, g1, g2⟩ := tp_list q1
  exact ⟨.inl ⟨rfl, _, g1⟩, b2 B H0 F1 H1 σ _ (gd.go e1 s1) (Kn.bd k1 acc_base fun d2 y F2 H2 _ e2 s2 q2 k2 => hg F2 H2 σ l ds y d2 Q s2 (Tp.go e2 q1) q2 k2)⟩
theorem od_countL {F H : Hp} {σ : L2.St} {l : Addr} {ds : List D} {y : V} {d : D} {Q : VK} (s : Same F H) (h1 : Tp X.K F H (.ref l) (.list ds)) (h2 : Tp X.K F H y d) (k : Kn X W F H σ (countL ds d) (Acc X.K .V) Q) : rCountD X.K (.ref l) [y] H Q := by
  cases c : (SeqAt.shaped (.list ds) && SeqAt.shaped d) with
  | false => exact absurd (by unfold countL; rw [c]; rfl) k.ns
  | true =>
    have k3 := k.of_eq (r' := .ok (.int ((ds.countP fun z => PyData.eqv z d : Nat) : Int))) (by unfold countL; rw [c]; rfl)
    rw [Bool.and_eq_true] at c
    exact ⟨l, y, d, ds, rfl, rfl, Tp.dp s h1, Tp.dp s h2, c.1, c.2, kn_flat k3 s rfl (.int _)⟩
theorem od_indexL {F H : Hp} {σ : L2.St} {l : Addr} {ds : List D} {y : V} {d : D} {Q : VK} (s : Same F H) (h1 : Tp X.K F H (.ref l) (.list ds)) (h2 : Tp X.K F H y d) (k : Kn X W F H σ (indexL ds d) (Acc X.K .V) Q) : rIndexD X.K (.ref l) [y] H Q := by
  cases c : (SeqAt.shaped (.list ds) && SeqAt.shaped d) with
  | false => exact absurd (by unfold indexL; rw [c]; rfl) k.ns
  | true =>
    cases f : ds.findIdx? (fun z => PyData.eqv z d) with
    | none => exact absurd (by unfold indexL; rw [c, f]; rfl) k.ns
    | some j =>
      have k3 := k.of_eq (r' := .ok (.int (j : Nat))) (by unfold indexL; rw [c, f]; rfl)
      rw [Bool.and_eq_true] at c
      obtain ⟨hj, h3, h4⟩ := List.findIdx?_eq_some_iff_getElem.mp f
      refine ⟨l, y, d, ds, j, ds[j], rfl, rfl, Tp.dp s h1, Tp.dp s h2, c.1, c.2, List.getElem?_eq_getElem hj, h3, fun i z hi hz => ?_, kn_flat k3 s rfl (.int _)⟩
      have := h4 i hi
      rw [List.getElem?_eq_getElem (by omega)] at hz
      cases hz
      simpa using this
theorem eg_count [C : CtxB X W] {apos : Pos} (ha : EG X W ρ .T a ra) (hb : EG X W ρ .T c rb)
    (hbase : attributeBase a "count" X.env (eval a X.env) = eval a X.env := by rfl)
    (hfew : ((backTo p (starEach [c] X.env)).all (fun x => !x.1) && (backToKw p (keywordEach [] X.env)).all (fun x => x.1.isSome) && decide (([c] : List Expr).length + ([] : List Keyword).length + (if ([] : List Keyword).isEmpty then 0 else 1) < 30)) = true := by rfl)
    (hline : (apos.endLine == p.line) = true := by rfl) (hs : starEach [c] X.env = (false, eval c X.env) :: starEach [] X.env := by rfl) (hplain : (backTo p (starEach [] X.env)).any (·.1) = false := by rfl) :
    EG X W ρ .V (.Call (.Attribute a "count" apos) [c] [] p) (ra.bd fun d => onL d fun ds => rb.bd fun e => countL ds e) :=
  eg_lm PySem.F.slot_list_count PySem.F.type_list_count (mt_countD (by have := C.hu; omega)) (fun _ _ _ _ _ _ _ _ s h1 h2 k => od_countL s h1 h2 k) ha hb hbase hfew hline hs hplain
theorem eg_index [C : CtxB X W] {apos : Pos} (ha : EG X W ρ .T a ra) (hb : EG X W ρ .T c rb)
    (hbase : attributeBase a "index" X.env (eval a X.env) = eval a X.env := by rfl)
    (hfew : ((backTo p (starEach [c] X.env)).all (fun x => !x.1) && (backToKw p (keywordEach [] X.env)).all (fun x => x.1.isSome) && decide (([c] : List Expr).length + ([] : List Keyword).length + (if ([] : List Keyword).isEmpty then 0 else 1) < 30)) = true := by rfl)
    (hline : (apos.endLine == p.line) = true := by rfl) (hs : starEach [c] X.env = (false, eval c X.env) :: starEach [] X.env := by rfl) (hplain : (backTo p (starEach [] X.env)).any (·.1) = false := by rfl) :
    EG X W ρ .V (.Call (.Attribute a "index" apos) [c] [] p) (ra.bd fun d => onL d fun ds => rb.bd fun e => indexL ds e) :=
  eg_lm PySem.F.slot_list_index PySem.F.type_list_index (mt_indexD (by have := C.hu; omega)) (fun _ _ _ _ _ _ _ _ s h1 h2 k => od_indexL s h1 h2 k) ha hb hbase hfew hline hs hplain
/-! ### isinstance of the exception that is handled -/
def cIs {K : PySem.W.Frag} (x : V) : Cell K := ⟨fun _ _ v as => v = some x ∧ as = [], fun _ _ h => h, fun h a ha => by obtain ⟨_, rfl⟩ := h; cases ha⟩
theorem call_isP {D : Addr} {q : Addr × Obj} (hq : q ∈ X.pn) (G : ExcC X.K D) (hz : Zc (.ref D) none q.2) (hf : ∃ vs, q.2.data = .fields vs) : CallR X (.builtin "isinstance") (rIsE X.K D q.1) := by
  intro pins s σ H xs us Q I r h
  obtain ⟨c, cv, b, rfl, hcv, e, w⟩ := h
  cases r with
  | cons rx rr =>
    obtain ⟨u2, rfl, rt⟩ := Vals.one rr
    cases rx
    cases hcv _ rt
    have here := (I.pin q (List.mem_append_left _ hq)).1
    obtain ⟨vs, hv⟩ := hf
    obtain ⟨a0, ⟨oc, od, oda, osl⟩⟩ := q
    obtain ⟨h1, h2⟩ := hz
    dsimp only at h1 h2 hv here
    subst h1 h2 hv
    exact PySem.W.kia_one (PySem.W.handS_kitx_exc G.hg G.hk G.hs G.hd G.ha G.hn G.ht G.hm) I.kIn ⟨here, rfl, rfl, trivial⟩ e (fun z => nomatch z) fun tk => ⟨.bl b, H, I.kept (t' := tk) fun _ _ z => z, rfl, w⟩
/-- what the handled exception's class D says of a name -/
structure IsE (K : PySem.W.Frag) (mg : Str → Option Value) (D : Addr) (y : Str) (b : Bool) : Prop where
  ex : ∃ (v : V) (u : Value), (∀ w, RelV v w → w = u) ∧ PySem.W.kitOne K (.ref D) u = some b ∧ RelV v u ∧ (mg y = some u ∨ (mg y = none ∧ bootBuiltins y = some u ∧ y ≠ "__name__"))
theorem eg_isE (i : Nat) {q : Addr × Obj} {D : Addr} {x y : Str} {b : Bool} {p2 p3 : Pos} (hρ : ρ[i]? = some (cIs (.ref q.1))) (hq : q ∈ X.pn) (G : ExcC X.K D) (hz : Zc (.ref D) none q.2) (hf : ∃ vs, q.2.data = .fields vs) (k : IsE X.K X.mg D y b) (hm : X.mg "isinstance" = none)
    (hN : X.N[i]? = some x := by rfl) (hv : Vis X.env.scope x := by first | exact Or.inl rfl | exact Or.inr (Or.inl rfl) | exact Or.inr (Or.inr rfl)) (hd : (x == ("__debug__" : Str)) = false := by decide) (hcd : (x == ("__classdict__" : Str)) = false := by decide)
    (hg : Gl X "isinstance" := by rfl) (hg2 : Gl X y := by rfl) (hd2 : (y == ("__debug__" : Str)) = false := by decide)
    (he : starEach [.Name x p2, .Name y p3] X.env = (false, eval (.Name x p2) X.env) :: starEach [.Name y p3] X.env := by rfl) (he2 : starEach [.Name y p3] X.env = (false, eval (.Name y p3) X.env) :: starEach [] X.env := by rfl) (hpl : (backTo pos (starEach [.Name y p3] X.env)).any (·.1) = false := by rfl) :
    EG X W ρ .V (.Call (.Name "isinstance" p) [.Name x p2, .Name y p3] [] pos) (.ok (.bool b)) := by
  obtain ⟨v, u, ku, kb, kr, kn⟩ := k
  have hy : PE X (.Name y p3) (tC v) := by
    rcases kn with kn | ⟨kn, k2, k3⟩
    · exact pe_glob hg2 kn kr hd2
    · exact pe_bltn hg2 kn k2 kr k3 hd2
  refine ⟨_, pe_callB (call_isP hq G hz hf) hg hm (by decide +kernel) (pa_cons (pe_var hN hv hd hcd) (pa_cons hy pa_nil he2) he) (by decide) (by decide) he hpl, fun B H0 F H σ Q gd kk => ?_⟩
  obtain ⟨_, fh, ass, sl, _⟩ := gd
  obtain ⟨w, as, h1, _, h3, _⟩ := sl.get hρ
  subst h3
  exact ⟨_, h1, v, u, b, rfl, ku, kb, kn_flat kk fh rfl (.bl _)⟩
end
end DL
/-! A def that is called within an except suite with the suite's exception; try: x = e / except SlipError as y: x = _law_word(y). -/
namespace DL
open PySem L2 PySem.Spec PyProof.Rows
/-- such a def: q is the exception that the suite holds; nothing is raised -/
structure FnW (P : Program) (w : World) (K : PySem.W.Frag) (mg : Str → Option Value) (base : Heap) (CX : CXT) (k : Nat) (f : Addr) (fd : FuncData) (ps : List Str) (sp : Addr × Obj → Sp) : Prop where
  len : ∀ q vs H Q E, sp q vs H Q E → vs.length = ps.length
  run : ∀ (q : Addr × Obj) (A : Around) (outer : List PySem.Env) (s : Shared) (H : Hp) (args : Args) (vs : List V) (us : List Value) (Q : VK) (E : XK),
    L2H.RoomH k A → L2H.PinOk outer H s q → Env0 P w K mg base A outer s H → BindsTo s fd args (ps.zip us) → Vals vs us → sp q vs H Q E → codeAny (model P w) A (.call (.ref f) args) (CR CX outer P w H s Q E) s
theorem fnW_of {CX : CXT} {P : Program} {w : World} {K : PySem.W.Frag} {mg : Str → Option Value} {base : Heap} {k : Nat} {x qual : Str} {st : Stmt} {f : Addr} {fd : FuncData} {N ps : List Str} {sp : Addr × Obj → Sp} (F : Fun K x qual st f fd) (S : FnScope N ps (defScope st))
    (len : ∀ q vs H Q E, sp q vs H Q E → vs.length = ps.length)
    (bod : ∀ (q : Addr × Obj) (cdv : Value) (A : Around) (outer : List PySem.Env) (s : Shared) (H : Hp) (vs : List V) (Q : VK) (E : XK), L2H.RoomH k (A.deeper (envOfC qual (defScope st) s.heap.objs.size f cdv)) → sp q vs H Q E →
      ∃ t, PSs (L2H.cxH CX P w K mg base N qual (defScope st) f cdv A outer s H E q) (defBody st) t ∧ t { nx := fun _ H' => Q .non H', rt := Q } (L2.start N vs) H) : FnW P w K mg base CX (k + 1) f fd ps sp := by
  obtain ⟨oc, od, kV, doc, pm, an, cdv, ct, osl, rfl, lk, hcd⟩ := F.ex
  refine ⟨len, fun q A outer s H args vs us Q E room pin e0 bind rel hsp => ?_⟩
  have here : K.In s.heap := e0.mod.kin.keeps fun a o h => (e0.bs a o h).1
  have noLim : s.heap.NoLimit := e0.mod.nolimit.keeps fun a o h => (e0.bs a o h).1
  have kinds : ∀ y ∈ ps.zip us, (defScope st).names.lookup y.1 = some .local ∨ ((defScope st).names.lookup y.1 = some .cell ∧ ((cellsFrom (s.heap.objs.size + 1) (defScope st).names []).lookup y.1).isSome = true) := by
    rintro ⟨y, u⟩ hy
    exact (S.par y (List.of_mem_zip hy).1).imp id fun z => ⟨z, PySem.W.cellsFrom_some _ _ _ (.inl z)⟩
  refine codeAny_call_function room.depth (here _ _ lk) rfl S.co S.gen rfl (PySem.W.codeRec_of here hcd) (bind _ _ _ _ (wpAny_newFunctionEnv_cells S.kind kinds ?_))
  intro en een s1 made
  subst een
  obtain ⟨t, run, post⟩ := bod q cdv A outer s H vs Q E (room.deeper _) hsp
  have I := L2H.inv_startH (CX := CX) (E := E) S pin e0 (len _ _ _ _ _ hsp) rel made
  refine ⟨noLim.keeps made.toInCall.keep, codeAny_func (wpAny_mono (run.run [] s1 _ H _ I post) (fun fl s2 h2 => ?_) fun _ _ h => h)⟩
  cases fl with
  | next =>
    obtain ⟨σ2, H2, J, h⟩ := h2
    exact ⟨.non, H2, J.os, J.bare, J.base, J.hok, rfl, h⟩
  | ret u =>
    obtain ⟨v, σ2, H2, J, rv, h⟩ := h2
    exact ⟨v, H2, J.os, J.bare, J.base, J.hok, rv, h⟩
  | brk => exact h2.elim fun _ ⟨_, _, z⟩ => z.elim
  | cont => exact h2.elim fun _ ⟨_, _, z⟩ => z.elim
section
variable {X : Cx} {W : WX} {rk m : Md} {ρ : Env X.K} {CX : CXT} {k : Nat} {f : Addr} {fd : FuncData} {ps : List Str} {E : L2.St → XK} {x : Str} {pos p : Pos} {e : Expr} {es : List Expr} {t : TA}
theorem pe_callW {q : Addr × Obj} {sp : Addr × Obj → Sp} (F : FnW X.prog X.w X.K X.mg X.base CX k f fd ps sp) (hr : L2H.RoomH k X.A) (hq : q ∈ X.pn) (hg : Gl X x) (hm : X.mg x = some (.ref f)) (hk : PySem.W.keepIn X.K (.ref f) = true) (hb : Binds X.K fd ps [])
    (hx : ∀ σ, PassesAt CX X σ (E σ)) (ha : PA X (e :: es) t) (hdb : (x == ("__debug__" : Str)) = false := by decide) (he : starEach (e :: es) X.env = (false, eval e X.env) :: starEach es X.env := by rfl) (hpl : (backTo pos (starEach es X.env)).any (·.1) = false := by rfl) :
    PE X (.Call (.Name x p) (e :: es) [] pos) (tCallS (sp q) E t) := by
  refine ⟨fun pins s σ H Q I h => wpAny_Call_Name_kw (ld_glob I hg hm (PySem.W.callWith_K (h₀ := X.base) I.ok.mod.kin hk (thn (ha.run pos pins s σ H _ I h) fun us s1 => ?_) he hpl) hdb)⟩
  rintro ⟨vs, H1, I1, rel, h1⟩
  refine ⟨I1.kIn, ?_⟩
  obtain ⟨g1, g2, g3, g4, g5⟩ := I1.pin q (List.mem_append_left _ hq)
  have bd := hb s1 us I1.kIn (by rw [List.append_nil, ← rel.length]; exact F.len _ _ _ _ _ h1)
  rw [List.append_nil] at bd
  have pin : L2H.PinOk X.stack H1 s1 q := ⟨g1, g2, fun z => (List.mem_cons.mp (I1.stkSub q.1 z)).elim g3 g4, g5⟩
  refine wpAny_call (codeAny_mono (F.run q X.A X.stack s1 H1 ⟨us, []⟩ vs us Q (E σ) hr pin I1.env0 bd rel h1) fun res s2 h2 => ?_)
  match res, h2 with
  | .error er, h2 => exact hx σ pins H1 s1 er s2 I1 h2
  | .ok (.ret u), h2 => exact I1.after h2
  | .ok .next, h2 => exact h2.elim
  | .ok .brk, h2 => exact h2.elim
  | .ok .cont, h2 => exact h2.elim
end
/-! ### words -/
def slips : List (Str × Str) := [("TooFew", "few"), ("NoCurve", "curve"), ("NoPaper", "paper"), ("NoPlace", "place"), ("NoNumber", "number"), ("Heard", "heard"), ("NotHeard", "not heard"), ("NothingLeft", "nothing"), ("NoText", "text"), ("NoRow", "row")]
def wordOf (n : Str) : Option Str := slips.lookup n
/-- what the heap says of these classes -/
structure WordC (K : PySem.W.Frag) (mg : Str → Option Value) : Prop where
  all : ∀ n w, wordOf n = some w → ∃ D S, mg n = some (.ref D) ∧ ExcC K D ∧ mg "SlipError" = some (.ref S) ∧ PySem.W.exmOne K (.ref D) (.ref S) = some true ∧
    (∀ n', n' ∈ slips.map (·.1) → ∃ D', mg n' = some (.ref D') ∧ PySem.W.kitOne K (.ref D) (.ref D') = some (decide (n = n'))) ∧ PySem.W.kitOne K (.ref D) (.type "ValueError") = some true
  noV : mg "ValueError" = none
/-- the def that tells an exception's word -/
def spW (K : PySem.W.Frag) (mg : Str → Option Value) (q : Addr × Obj) : Sp := fun vs H Q _ => vs = [.ref q.1] ∧ ∃ D n w, ExcC K D ∧ Zc (.ref D) none q.2 ∧ (∃ us, q.2.data = .fields us) ∧ mg n = some (.ref D) ∧ wordOf n = some w ∧ ∀ H', Same H H' → Q (.str w) H'
structure DefW (P : Program) (w : World) (K : PySem.W.Frag) (mg : Str → Option Value) (base : Heap) (x : Str) (k : Nat) : Prop where
  ex : ∃ f fd ps, FnW P w K mg base (L2N.CX P w) k f fd ps (spW K mg) ∧ mg x = some (.ref f) ∧ PySem.W.keepIn K (.ref f) = true ∧ Binds K fd ps []
def wordR (r : Res D) : Res D := match r with
  | .ok d => .ok d
  | .exc n => match wordOf n with | some w => .ok (.str w) | none => .stuck
  | .stuck => .stuck
theorem wordR_exc (n : Str) : wordR (.exc n) = match wordOf n with | some w => .ok (.str w) | none => .stuck := rfl
@[simp] theorem wordR_ok (d : D) : wordR (.ok d) = .ok d := id rfl
section
variable {X : Cx} {W : WX} {rk m : Md} {ρ : Env X.K} {k : Nat} {r : Res D}
theorem Good.drop {B H0 F H : Hp} {σ : L2.St} {v : Option V} {i : Nat} (g : Good B H0 F H ρ σ) : Good B H0 F H (ρ.set i cAny) (σ.set i v) := by
  obtain ⟨ex, fh, ass, sl, nd, ow⟩ := g
  refine ⟨ex, fh, ass.set i [], sl.set (c := cAny) rfl, nodup_flatten_set nd List.nodup_nil (fun _ z => nomatch z), fun a ha => ?_⟩
  rcases mem_flatten_set ha with z | z
  · exact ow a z
  · cases z
theorem tr_ctx (C : Ctx X W) {pn : List (Addr × Obj)} {xe : Value → Shared → Prop} {W' : WX} (tk : L2N.Takes (X.tr pn xe) W') (po : PassesOwn (model X.prog X.w) X.A X.env xe) : Ctx (X.tr pn xe) W' :=
  { tk := tk, po := po, nd := C.nd, hu := C.hu, calm := C.calm }
/-- what the suite wishes -/
def tsW (K : PySem.W.Frag) (mg : Str → Option Value) (i ix : Nat) : Addr → Value → Option Addr → TS := fun a cls d D σ H => ∃ Dd n w, cls = .ref Dd ∧ d = none ∧ ExcC K Dd ∧ mg n = some (.ref Dd) ∧ wordOf n = some w ∧ σ[i]? = some (some (.ref a)) ∧
  ∀ H', Same H H' → D.nx (σ.set ix (some (.str w))) H'
variable {x y f : Str} {p1 p2 p3 p4 p5 p6 p7 p8 p8' pos : Pos} {e : Expr} {i ix : Nat}
theorem suite_word [C : Ctx X W] (Dw : DefW X.prog X.w X.K X.mg X.base f k) (hr : Room k X.A) {a : Addr} {oe : Obj} {cls : Value} {d : Option Addr} {pn : List (Addr × Obj)} (hz : L2N.Zn cls d oe) (hf : ∃ vs, oe.data = .fields vs) (hi : X.N[i]? = some y) (hix : X.N[ix]? = some x)
    (hg : Gl X f) (hdf : (f == ("__debug__" : Str)) = false) (hx : Loc X.env.scope x) (hv : Vis X.env.scope y) (hd : (y == ("__debug__" : Str)) = false) (hcd : (y == ("__classdict__" : Str)) = false) (hst : starEach [.Name y p1] X.env = (false, eval (.Name y p1) X.env) :: starEach [] X.env) (hpl : (backTo p3 (starEach [] X.env)).any (·.1) = false)
    (hs : swapsWith (.Call (.Name f p2) [.Name y p1] [] p3) (some (.Name x p4)) p5.line X.env = pure false) (hfn : X.fn x = true ∨ X.env.scope.names.lookup x = some .local) :
    PSs (X.suite a ((a, oe) :: pn)) [.Assign [.Name x p4] (.Call (.Name f p2) [.Name y p1] [] p3) p5] (tsW X.K X.mg i ix a cls d) := by
  obtain ⟨f0, fd, ps, F, hm, hk, hb⟩ := Dw
  refine ⟨fun pins s σ H D I ⟨Dd, n, w, e1, e2, G, hmn, hw, hσ, post⟩ => ?_⟩
  subst e1 e2
  have ps : PSs (X.suite a ((a, oe) :: pn)) [.Assign [.Name x p4] (.Call (.Name f p2) [.Name y p1] [] p3) p5] _ := pss_one (ps_set (X := X.suite a ((a, oe) :: pn)) C.nd hix hx
    (pe_callW (X := X.suite a ((a, oe) :: pn)) (CX := L2N.CX X.prog X.w) (E := fun _ => E0) (q := (a, oe)) F ⟨hr.dp, hr.un⟩ List.mem_cons_self hg hm hk hb (fun σ pins H s e s' I c => by
      obtain ⟨_, _, _, _, _, _, _, _, _, _, _, _, z⟩ := c
      exact z.elim) (pa_cons (pe_var hi hv hd hcd) pa_nil hst) hdf hst hpl) hs hfn)
  exact ps.run pins s σ H D I ⟨_, hσ, rfl, Dd, n, w, G, hz.zc, hf, hmn, hw, post⟩
/-- try: x = e / except SlipError as y: x = f(y) -/
theorem s1_tryWordG [C : Ctx X W] (i ix : Nat) (Dw : DefW X.prog X.w X.K X.mg X.base f k) (hr : Room k X.A) (Wc : WordC X.K X.mg)
    (he : ∀ (pn : List (Addr × Obj)) (xe : Value → Shared → Prop) (W' : WX), Ctx (X.tr pn xe) W' → EG (X.tr pn xe) W' ρ m e r) {c : D → Cell X.K}
    (hc : ∀ {B H0 F H F' H' : Hp} {ρ : Env X.K} {σ : L2.St} {d : D} {v : V} {i : Nat}, Good B H0 F H ρ σ → Ex F H F' H' → Same F' H' → Acc X.K m H F' H' d v → Good B H0 F' H' (ρ.set i (c d)) (σ.set i (some v)))
    (hse : ∀ c : Cell X.K, ((ρ.set i cAny).set ix c).set i cAny = (ρ.set i cAny).set ix c) (hsw : ∀ c : Cell X.K, (ρ.set ix c).set i cAny = (ρ.set i cAny).set ix c) (hlt : i < ρ.length)
    (hstk : X.stack = X.env :: X.outer := by rfl) (hfr : X.env.frame = some X.env.locals := by rfl) (hln : X.env.kindOf y = some .local := by rfl) (hgS : Gl X "SlipError" := by rfl)
    (hi : X.N[i]? = some y := by rfl) (hix : X.N[ix]? = some x := by rfl) (hg : Gl X f := by rfl) (hdf : (f == ("__debug__" : Str)) = false := by decide) (hx : Loc X.env.scope x := by first | exact Or.inl rfl | exact Or.inr rfl)
    (hv : Vis X.env.scope y := by first | exact Or.inl rfl | exact Or.inr (Or.inl rfl) | exact Or.inr (Or.inr rfl)) (hd : (y == ("__debug__" : Str)) = false := by decide) (hcd : (y == ("__classdict__" : Str)) = false := by decide)
    (hst : starEach [.Name y p1] X.env = (false, eval (.Name y p1) X.env) :: starEach [] X.env := by rfl) (hpl : (backTo p3 (starEach [] X.env)).any (·.1) = false := by rfl)
    (hs : swapsWith (.Call (.Name f p2) [.Name y p1] [] p3) (some (.Name x p4)) p5.line X.env = pure false := by rfl) (hfn : X.fn x = true ∨ X.env.scope.names.lookup x = some .local := by first | exact .inl rfl | exact .inr rfl)
    (hs2 : swapsWith e (some (.Name x p6)) p7.line X.env = pure false := by rfl) :
    S1 X W rk ρ (.Try [.Assign [.Name x p6] e p7] [.ExceptHandler (some (.Name "SlipError" p8)) (some y) [.Assign [.Name x p4] (.Call (.Name f p2) [.Name y p1] [] p3) p5] p8'] [] [] pos) (wordR r) (fun d => .nx ((ρ.set i cAny).set ix (c d))) := by
  obtain ⟨_, S, _, _, hS, _⟩ := Wc.all "TooFew" "few" (by decide)
  have run := L2N.ps_try_as (X := X) (i := i) (np := p8) (pos' := p8') (pos := pos) (body := [.Assign [.Name x p6] e p7]) (c := .ref S) (Wout := W) (ts := tsW X.K X.mg i ix) hstk hfr C.nd hi hln ⟨hgS, by decide, .inl hS⟩ C.tk
    (tb := fun W' => tAsg (tS X.K X W' ρ m r) (gName ix)) (fun W' pn xe tk po => pss_one (ps_set (X := X.tr pn xe) C.nd hix hx ((he pn xe W' (tr_ctx C tk po)).sem (Y := X) rfl) hs2 hfn))
    (fun a oe cls d pn hz hf => suite_word Dw hr hz hf hi hix hg hdf hx hv hd hcd hst hpl hs hfn)
  refine ⟨_, run, fun B H0 F H σ D g q => ⟨B, H0, F, g, fun z => q.ns (by rw [z]; rfl), fun d ed v F' H' xx s a => ?_, fun n en H' Cv hC ss => ?_⟩⟩
  · have g1 := hc (i := ix) g xx s a
    obtain ⟨F2, _, g2⟩ := wk_any i B H0 F' H' _ g1
    rw [hsw] at g2
    exact q.ok d (by rw [ed]; rfl) F2 H' _ g2
  · subst en
    have : ∃ w, wordOf n = some w := by
      cases ew : wordOf n with
      | some w => exact ⟨w, rfl⟩
      | none => exact absurd (by rw [wordR_exc, ew]) q.ns
    obtain ⟨w, hw⟩ := this
    obtain ⟨Dd, S', hmn, G, hS', hex, _⟩ := Wc.all n w hw
    rw [hS] at hS'
    cases hS'
    rw [hmn] at hC
    cases hC
    refine ⟨true, hex, fun _ a ha => ⟨Dd, n, w, rfl, rfl, G, hmn, hw, ?_, fun H2 s2 => ?_⟩, fun z => Bool.noConfusion z⟩
    · rw [List.getElem?_set_self]
      obtain ⟨_, _, ass, sl, _⟩ := id g
      have := sl.len
      omega
    · have g1 : Good B H0 F H2 ρ σ := g.go ⟨Same.refl _, ss.trans s2, fun _ _ => rfl⟩ (g.fh.trans (ss.trans s2))
      have g2 := hc (i := ix) (d := .str w) (v := .str w) (g1.drop (i := i) (v := some (.ref a))) (Ex.refl _ _) g1.fh (acc_flat' rfl rfl (.str _))
      have g3 := g2.drop (i := i) (v := none)
      rw [hse] at g3
      exact q.ok (.str w) (by rw [wordR_exc, hw]) F H2 _ g3
end
/-! ### the def that tells the word -/
theorem boot_ValueError : bootBuiltins "ValueError" = some (.type "ValueError") := by decide +kernel
theorem word_mem {n w : Str} (h : wordOf n = some w) : (n, w) ∈ slips := by
  have : ∀ l : List (Str × Str), l.lookup n = some w → (n, w) ∈ l := fun l => by
    induction l with
    | nil => exact fun z => nomatch z
    | cons a l ih =>
      obtain ⟨a, b⟩ := a
      rw [List.lookup_cons]
      cases e : n == a with
      | true => intro h; cases h; rw [beq_iff_eq.mp e]; exact List.mem_cons_self
      | false => exact fun h => List.mem_cons_of_mem _ (ih h)
  exact this _ h
theorem fnWord {P : Program} {w : World} {K : PySem.W.Frag} {mg : Str → Option Value} {base : Heap} {x qual y : Str} {st : Stmt} {f : Addr} {fd : FuncData} {N : List Str} {g : Str → Res D} (F : Fun K x qual st f fd) (S : FnScope N [y] (defScope st))
    (hg : ∀ n w, wordOf n = some w → g n = .ok (.str w)) (Wc : WordC K mg)
    (hb : ∀ (q : Addr × Obj) (cdv : Value) (A : Around) (outer : List PySem.Env) (s : Shared) (H : Hp) (E : XK) (D : Addr) (n : Str), ExcC K D → Zc (.ref D) none q.2 → (∃ us, q.2.data = .fields us) → (∀ y ∈ slips.map (·.1), IsE K mg D y (decide (n = y))) → IsE K mg D "ValueError" true →
      CtxB (L2H.cxH (L2N.CX P w) P w K mg base N qual (defScope st) f cdv A outer s H E q) (Wf E) →
      SV (L2H.cxH (L2N.CX P w) P w K mg base N qual (defScope st) f cdv A outer s H E q) (Wf E) .V (cIs (.ref q.1) :: List.replicate (N.length - 1) cAny) (defBody st) (g n) Fin.rt) : FnW P w K mg base (L2N.CX P w) 1 f fd [y] (spW K mg) := by
  refine fnW_of F S (fun q vs H Q E h => by rw [h.1]; rfl) fun q cdv A outer s H vs Q E hr h => ?_
  obtain ⟨rfl, D, n, w0, G, hz, hf, hm, hw, post⟩ := h
  obtain ⟨D', S0, hm', G', hS, _, hk, hv⟩ := Wc.all n w0 hw
  rw [hm] at hm'
  cases hm'
  have hI : ∀ y ∈ slips.map (·.1), IsE K mg D y (decide (n = y)) := fun y hy => by
    obtain ⟨D2, h1, h2⟩ := hk y hy
    exact ⟨.ref D2, .ref D2, fun w e => e, h2, rfl, .inl h1⟩
  have hV : IsE K mg D "ValueError" true := ⟨.ty "ValueError", .type "ValueError", fun w e => e, hv, rfl, .inr ⟨Wc.noV, boot_ValueError, by decide⟩⟩
  have hu : (A.deeper (envOfC qual (defScope st) s.heap.objs.size f cdv)).units + 90 < cLine := by
    have := hr.un
    omega
  obtain ⟨t, t1, t2⟩ := hb q cdv A outer s H E D n G hz hf hI hV { tk := L2N.takes_of rfl rfl rfl rfl, po := passes_of (K := fun e s'' => L2N.CX P w outer H s E e s'') rfl, nd := S.nd, hu := hu }
  refine ⟨t, t1, t2 (fun _ => none) H (fun _ => none) H _ _ ⟨Ex.refl _ _, (fun a o e => nomatch e), List.replicate (1 + (N.length - 1)) [], ?_, by rw [flat_nil]; exact List.nodup_nil, fun a ha => by rw [flat_nil] at ha; cases ha⟩ ⟨by rw [hg n w0 hw]; exact ok_ns _, fun d ed => ?_, fun m em => ?_⟩⟩
  · have h0 : ∀ m, Slots (fun _ => none) H (List.replicate m (cAny : Cell K)) (List.replicate m none) (List.replicate m []) := fun m => by
      induction m with
      | zero => trivial
      | succ m ih => exact ⟨rfl, ih⟩
    rw [Nat.add_comm]
    exact ⟨⟨rfl, rfl⟩, h0 _⟩
  · rw [hg n w0 hw] at ed
    cases ed
    exact fun v F' H' e s a => by
      have a : Dp K F' v (.str w0) := a
      cases a
      exact post H' e.hh
  · rw [hg n w0 hw] at em; cases em
theorem defW_mk {P : Program} {w : World} {K : PySem.W.Frag} {mg : Str → Option Value} {base : Heap} {x : Str} {st : Stmt} {k : Nat} {f : Addr} {fd : FuncData} {ps : List Str} (F : Fun K x x st f fd) (hm : mg x = some (.ref f)) (hb : Binds K fd ps []) (h : FnW P w K mg base (L2N.CX P w) k f fd ps (spW K mg)) :
    DefW P w K mg base x k := ⟨f, fd, ps, h, hm, F.kp, hb⟩
/-- a def of n parameters that may come to its end -/
theorem fn_okN {P : Program} {w : World} {K : PySem.W.Frag} {mg : Str → Option Value} {base : Heap} {x qual : Str} {st : Stmt} {f : Addr} {fd : FuncData} {N ps : List Str} {k n : Nat} {rk : Md} {g : List D → Res D} (F : Fun K x qual st f fd) (S : FnScope N ps (defScope st)) (hn : ps.length = n)
    (hb : ∀ (cdv : Value) (A : Around) (outer : List PySem.Env) (s : Shared) (H : Hp) (E : XK) (ds : List D), Room k (A.deeper (envOfC qual (defScope st) s.heap.objs.size f cdv)) → ds.length = n → Ctx (cxD P w K mg base N qual st f cdv A outer s H E) (Wf E) →
      ∃ (r : Res (Ctl Unit)) (ρe : Env K), g ds = r.thenC id (fun _ => .ok .none) ∧ SV (cxD P w K mg base N qual st f cdv A outer s H E) (Wf E) rk (env0 N.length ds) (defBody st) r (fun s => match s with | Ctl.next _ => .nx ρe | .ret d => .rt d)) : FnOk P w K mg base (L2N.CX P w) (k + 1) f fd ps (spD K mg n rk g) := by
  obtain ⟨oc, od, kV, doc, pm, an, cdv, ct, osl, rfl, lk, hcd⟩ := F.ex
  refine fn_of lk hcd S (fun vs H Q E h => ?_) (fun A outer s H vs Q E hr h => ?_)
  · obtain ⟨_, _, _, _, h, _⟩ := h
    rw [h, hn]
  · obtain ⟨F0, ds, fh, dp, hl, ns, hok, hxc⟩ := h
    have hld : ds.length = n := by rw [← DpAll.length dp, hl]
    obtain ⟨r, ρe, eg, t, t1, t2⟩ := hb cdv A outer s H E ds hr hld (ctx_fn S.nd hr)
    rw [eg] at ns hok hxc
    refine ⟨t, t1, t2 F0 H F0 H _ _ ⟨Ex.refl _ _, fh, List.replicate (ds.length + (N.length - ds.length)) [], ?_, by rw [flat_nil]; exact List.nodup_nil, fun a ha => by rw [flat_nil] at ha; cases ha⟩ ⟨fun z => ns (by rw [z]; rfl), fun a ea => ?_, fun n en H' C σ' c s => hxc n (by rw [en]; rfl) H' C c s⟩⟩
    · have := slots_vals (n := n) dp (N.length - ds.length) (H := H)
      unfold L2.start env0
      rwa [DpAll.length dp]
    · cases a with
      | next u =>
        intro F' H' σ' g'
        refine hok .none (by rw [ea]; rfl) .non F' H' g'.ex g'.fh (acc_flat' rfl rfl .non)
      | ret d => exact fun v F' H' x s a => hok d (by rw [ea]; rfl) v F' H' x s a
end DL
/-! Dicts whose keys are tuples (nested ones too), of one's own; values plain data. -/
namespace DL
open PySem L2
mutual
/-- a value as a key -/
def keyOf : D → Option NestedKey
  | .none => some .none
  | .bool b => some (.num (if b = true then 1 else 0))
  | .int i => some (.num i)
  | .str x => some (.text x)
  | .tuple ds => (keysOf ds).map .tup
  | .list _ => none
  | .dict _ => none
def keysOf : List D → Option (List NestedKey)
  | [] => some []
  | d :: ds => match keyOf d, keysOf ds with
    | some k, some ks => some (k :: ks)
    | _, _ => none
end
/-- a tuple as a key -/
def keyT (d : D) : Option NestedKey := if isTupV d then (keyOf d).filter fun k => decide (k.depth ≤ 8) else none
theorem keyT_ok {d : D} {k : NestedKey} (h : keyT d = some k) : (∃ ds, d = .tuple ds) ∧ keyOf d = some k ∧ k.depth ≤ 8 := by
  unfold keyT at h
  split at h
  · rename_i t
    obtain ⟨h1, h2⟩ := Option.filter_eq_some_iff.mp h
    exact ⟨by cases d <;> first | cases t; done | exact ⟨_, rfl⟩, h1, of_decide_eq_true h2⟩
  · cases h
section
variable {X : Cx} {pins : List (Addr × Obj)} {σ : L2.St} {H : Hp} {s : Shared}
mutual
theorem Dp.key (I : Inv X pins σ H s) : ∀ (d : D) (k : NestedKey) (v : V) (u : Value), Dp X.K H v d → RelV v u → keyOf d = some k → NestedIs s.heap k u
  | .none, k, _, _, h, r, e => by cases h; cases r; cases e; exact .none
  | .bool b, k, _, _, h, r, e => by cases h; cases r; cases e; exact .bool rfl
  | .int i, k, _, _, h, r, e => by
    cases h
    obtain ⟨t, rfl⟩ := r
    cases e
    exact .int i t
  | .str x, k, _, _, h, r, e => by
    cases h
    obtain ⟨t, rfl⟩ := r
    cases e
    exact .text x t
  | .list _, _, _, _, _, _, e => by cases e
  | .dict _, _, _, _, _, _, e => by cases e
  | .tuple ds, k, v, u, h, r, e => by
    unfold keyOf at e
    obtain ⟨ks, h1, rfl⟩ := Option.map_eq_some_iff.mp e
    cases h with
    | tup hs ha =>
      cases r
      obtain ⟨its, rv, ⟨o, ho, hc, n, hd⟩, _⟩ := I.tuple hs
      exact .tup ho hc hd (by simpa using Dp.keys I ds ks _ its ha rv h1)
theorem Dp.keys (I : Inv X pins σ H s) : ∀ (ds : List D) (ks : List NestedKey) (vs : List V) (us : List Value), DpAll X.K H vs ds → Vals vs us → keysOf ds = some ks → NestedAll s.heap ks us
  | [], ks, _, _, h, r, e => by cases h; cases r; cases e; exact .nil
  | d :: ds, ks, _, _, h, r, e => by
    unfold keysOf at e
    cases h with
    | cons h1 h2 =>
      cases r with
      | cons r1 r2 =>
        cases e1 : keyOf d with
        | none => rw [e1] at e; cases e
        | some k =>
          cases e2 : keysOf ds with
          | none => rw [e1, e2] at e; cases e
          | some ks' =>
            rw [e1, e2] at e
            cases e
            exact .cons (Dp.key I d k _ _ h1 r1 e1) (Dp.keys I ds ks' _ _ h2 r2 e2)
end
end
/-! ### what stands there -/
abbrev Ent : Type := NestedKey × Addr × V
abbrev EntR : List Ent → List (NestedKey × Addr × Value) → Prop := Paired fun p q => p.1 = q.1 ∧ p.2.1 = q.2.1 ∧ RelV p.2.2 q.2.2
def DRaw (w : World) (a : Addr) (xs : List Ent) (ep : Nat) (h : Heap) : Prop :=
  (a == sysModules) = false ∧ (xs.map (·.1)).Nodup ∧ ∃ (vs : List (NestedKey × Addr × Value)) (o : Obj) (es : Array DictEntry), EntR xs vs ∧ h.get? a = some o ∧ o.ExactDict ∧ o.data = .dict es ep ∧ es.toList = vs.map fun x => ⟨x.1.hash w, .ref x.2.1, x.2.2⟩
abbrev HDct (w : World) (a : Addr) (xs : List Ent) (ep : Nat) : HO := .ext (DRaw w a xs ep)
def Ents (K : PySem.W.Frag) (F : Hp) : List (D × D) → List Ent → Prop := Paired fun p x => keyT p.1 = some x.1 ∧ Dp K F (.ref x.2.1) p.1 ∧ Dp K F x.2.2 p.2
theorem Ents.mono {K : PySem.W.Frag} {F F' : Hp} (s : Same F F') {kvs : List (D × D)} {xs : List Ent} (h : Ents K F kvs xs) : Ents K F' kvs xs := Paired.mapP h fun _ _ z => ⟨z.1, Dp.mono s _ _ z.2.1, Dp.mono s _ _ z.2.2⟩
def cDct {K : PySem.W.Frag} (w : World) (d : D) : Cell K := ⟨fun F H v as => ∃ a kvs xs ep, d = .dict kvs ∧ v = some (.ref a) ∧ as = [a] ∧ H a = some (HDct w a xs ep) ∧ Ents K F kvs xs,
  fun s e ⟨a, kvs, xs, ep, h1, h2, h3, h4, h5⟩ => ⟨a, kvs, xs, ep, h1, h2, h3, by rw [e a (by rw [h3]; simp)]; exact h4, h5.mono s⟩,
  fun ⟨a, kvs, xs, ep, _, _, h3, h4, _⟩ b hb => by rw [h3] at hb; rw [List.mem_singleton.mp hb, h4]; exact fun z => nomatch z⟩
theorem entR_keys : ∀ {xs : List Ent} {vs : List (NestedKey × Addr × Value)}, EntR xs vs → xs.map (·.1) = vs.map (·.1)
  | _, _, .nil => rfl
  | _, _, .cons h t => by rw [List.map_cons, List.map_cons, h.1, entR_keys t]
section
variable {X : Cx} {pins : List (Addr × Obj)} {σ : L2.St} {H : Hp} {s : Shared} {a : Addr} {xs : List Ent} {ep : Nat} {kvs : List (D × D)}
theorem draw_of (I : Inv X pins σ H s) (h : H a = some (HDct X.w a xs ep)) (e : Ents X.K H kvs xs) : (a == sysModules) = false ∧ ∃ vs, EntR xs vs ∧ s.heap.DictOfH (nestedKind X.prog X.w) a vs ∧ ∃ o es, s.heap.get? a = some o ∧ o.ExactDict ∧ o.data = .dict es ep ∧ es.toList = vs.map fun x => ⟨x.1.hash X.w, .ref x.2.1, x.2.2⟩ := by
  have ok : ObjOk X.prog X.w H s.heap a (HDct X.w a xs ep) := I.hok a _ h
  obtain ⟨⟨h1, h2, vs, o, es, h3, h4, h5, h6, h7⟩, ok2⟩ := ok
  clear ok2
  refine ⟨h1, vs, h3, ⟨o, es, ep, h4, h5, h6, h7, ?_, by rw [← entR_keys h3]; exact h2⟩, o, es, h4, h5, h6, h7⟩
  clear h7 h6 h2 h
  induction h3 generalizing kvs with
  | nil => exact fun x hx => nomatch hx
  | @cons p q ps qs hq t ih =>
    cases e with
    | cons e1 e2 =>
      intro x hx
      rcases List.mem_cons.mp hx with rfl | hx
      · obtain ⟨k1, k2, k3⟩ := keyT_ok e1.1
        exact ⟨hq.1 ▸ Dp.key I _ _ _ _ e1.2.1 (by rw [← hq.2.1]; rfl) k2, hq.1 ▸ k3⟩
      · exact ih e2 x hx
theorem draw_new {P : Program} {w : World} {H' : Hp} {h' : Heap} {vs : List (NestedKey × Addr × Value)} (hs : (a == sysModules) = false) (r : EntR xs vs) (d : h'.DictOfH (nestedKind P w) a vs) : ∃ ep, ObjOk P w H' h' a (HDct w a xs ep) := by
  obtain ⟨o, es, ep, h1, h2, h3, h4, h5, h6⟩ := d
  exact ⟨ep, ⟨hs, by rw [entR_keys r]; exact h6, vs, o, es, r, h1, h2, h3, h4⟩, ⟨o, h1⟩, fun g1 g2 ⟨q1, q2, vs', o', es', q3, q4, q5⟩ k => ⟨q1, q2, vs', o', es', q3, k _ q4, q5⟩⟩
end
/-! ### the data side -/
def sameK (e : D) (p : D × D) : Bool := decide (keyT p.1 = keyT e)
def valD (kvs : List (D × D)) (e : D) : Option D := (kvs.find? (sameK e)).map (·.2)
def putD (kvs : List (D × D)) (e v : D) : List (D × D) := if (kvs.find? (sameK e)).isSome then kvs.map (fun p => if sameK e p then (p.1, v) else p) else kvs ++ [(e, v)]
def putX (xs : List Ent) (k : NestedKey) (b : Addr) (v : V) : List Ent := if (xs.find? fun x => decide (x.1 = k)).isSome then xs.map (fun x => if x.1 = k then (x.1, x.2.1, v) else x) else xs ++ [(k, b, v)]
section
variable {K : PySem.W.Frag} {F : Hp} {kvs : List (D × D)} {xs : List Ent} {e : D} {k : NestedKey}
theorem ents_find (hk : keyT e = some k) : ∀ {kvs : List (D × D)} {xs : List Ent}, Ents K F kvs xs →
    match kvs.find? (sameK e), xs.find? (fun x => decide (x.1 = k)) with
    | some p, some x => Dp K F x.2.2 p.2
    | none, none => True
    | _, _ => False
  | _, _, .nil => trivial
  | _, _, .cons (a := p) (b := x) h t => by
    have hp : sameK e p = decide (x.1 = k) := by
      unfold sameK
      rw [h.1, hk]
      simp
    rw [List.find?_cons, List.find?_cons, hp]
    by_cases c : x.1 = k
    · simp only [c, decide_true]; exact h.2.2
    · simp only [c, decide_false]; exact ents_find hk t
theorem ents_isSome (hk : keyT e = some k) (h : Ents K F kvs xs) : (kvs.find? (sameK e)).isSome = (xs.find? fun x => decide (x.1 = k)).isSome := by
  have := ents_find hk h
  cases c : kvs.find? (sameK e) <;> cases c2 : xs.find? (fun x => decide (x.1 = k)) <;> rw [c, c2] at this <;> first | rfl | exact this.elim
theorem entR_find (k : NestedKey) : ∀ {xs : List Ent} {vs : List (NestedKey × Addr × Value)}, EntR xs vs → RelO ((xs.find? fun x => decide (x.1 = k)).map (·.2.2)) ((atKey vs k).map (·.2))
  | _, _, .nil => trivial
  | _, _, .cons (a := p) (b := q) h t => by
    have ih := entR_find k t
    unfold atKey at ih ⊢
    rw [List.find?_cons, List.find?_cons, h.1]
    by_cases c : q.1 = k
    · simp only [c, decide_true]; exact h.2.2
    · simp only [c, decide_false]; exact ih
theorem entR_isSome {vs : List (NestedKey × Addr × Value)} (h : EntR xs vs) : (xs.find? fun x => decide (x.1 = k)).isSome = (atKey vs k).isSome := by
  have := (entR_find k h).isSome_eq
  rwa [Option.isSome_map, Option.isSome_map] at this
theorem entR_put {vs : List (NestedKey × Addr × Value)} {b : Addr} {v : V} {u : Value} (h : EntR xs vs) (r : RelV v u) : EntR (putX xs k b v) (storedH vs k b u) := by
  unfold putX storedH
  rw [entR_isSome h]
  split
  · rename_i z; clear z
    induction h with
    | nil => exact .nil
    | @cons p q ps qs hq t ih =>
      rw [List.map_cons, List.map_cons]
      refine .cons ?_ ih
      unfold putAt
      by_cases c : q.1 = k
      · rw [if_pos (hq.1.trans c), if_pos c]; exact ⟨hq.1, hq.2.1, r⟩
      · rw [if_neg (fun z => c (hq.1.symm.trans z)), if_neg c]; exact hq
  · exact Paired.snoc h ⟨rfl, rfl, r⟩
theorem ents_put {b : Addr} {v : V} {d : D} (h : Ents K F kvs xs) (hk : keyT e = some k) (hb : Dp K F (.ref b) e) (r : Dp K F v d) : Ents K F (putD kvs e d) (putX xs k b v) := by
  unfold putD putX
  rw [ents_isSome hk h]
  split
  · rename_i z; clear z
    induction h with
    | nil => exact .nil
    | @cons p q ps qs hq t ih =>
      rw [List.map_cons, List.map_cons]
      refine .cons ?_ ih
      have hp : sameK e p = decide (q.1 = k) := by
        unfold sameK
        rw [hq.1, hk]
        simp
      rw [hp]
      by_cases c : q.1 = k
      · simp only [c, decide_true, if_true]; exact ⟨c ▸ hq.1, hq.2.1, r⟩
      · simp only [c, decide_false, if_false]; exact hq
  · exact Paired.snoc h ⟨hk, hb, r⟩
end
/-! ### mirrors -/
def inD (d e : D) : Res D := match d with
  | .dict kvs => if (keyT e).isSome then .ok (.bool (kvs.find? (sameK e)).isSome) else .stuck
  | _ => .stuck
def notInD (d e : D) : Res D := match d with
  | .dict kvs => if (keyT e).isSome then .ok (.bool (!(kvs.find? (sameK e)).isSome)) else .stuck
  | _ => .stuck
def getD (d e : D) : Res D := match d with
  | .dict kvs => if (keyT e).isSome then (match valD kvs e with | some v => .ok v | none => .stuck) else .stuck
  | _ => .stuck
def setD (d e v : D) : Res D := match d with
  | .dict kvs => if (keyT e).isSome && decide (kvs.length < 16777216) then .ok (.dict (putD kvs e v)) else .stuck
  | _ => .stuck
def dictKeys (d : D) : Res (List D) := match d with
  | .dict kvs => .ok (kvs.map (·.1))
  | _ => .stuck
theorem Good.dct {K : PySem.W.Frag} {w : World} {B H0 F H : Hp} {ρ : Env K} {σ : L2.St} {i : Nat} {d : D} (g : Good B H0 F H ρ σ) (h : ρ[i]? = some (cDct w d)) :
    ∃ a kvs xs ep, d = .dict kvs ∧ σ[i]? = some (some (.ref a)) ∧ H a = some (HDct w a xs ep) ∧ Ents K F kvs xs ∧ ∀ ys ep' es, Ents K F es ys → Good B H0 F (upd H a (HDct w a ys ep')) (ρ.set i (cDct w (.dict es))) σ := by
  obtain ⟨e, f, ass, h1, h2, h3⟩ := g
  obtain ⟨v, as, g1, g2, a, kvs, xs, ep, g3, g4, g5, g6, g7⟩ := h1.get h
  subst g3 g4 g5
  have ha : a ∈ ass.flatten := List.mem_flatten.mpr ⟨[a], List.mem_of_getElem? g2, by simp⟩
  have hF := (h3 a ha).1
  refine ⟨a, kvs, xs, ep, rfl, g1, g6, g7, fun ys ep' es q => ?_⟩
  have s3 := Slots.set (i := i) (c := (cAny : Cell K)) (v := some (V.ref a)) (as := []) h1 rfl
  rw [set_self g1] at s3
  have na : a ∉ (ass.set i []).flatten := not_in_set h2 g2 (by simp) List.not_mem_nil
  have s4 : Slots F (upd H a (HDct w a ys ep')) (ρ.set i cAny) σ (ass.set i []) := s3.mono (Same.refl F) fun b hb => upd_ne fun z => na (z ▸ hb)
  have s5 := Slots.set (i := i) (c := (cDct w (.dict es) : Cell K)) (v := some (V.ref a)) (as := [a]) s4 ⟨a, es, ys, ep', rfl, rfl, rfl, upd_same, q⟩
  rw [set_self g1, List.set_set, List.set_set, set_self g2] at s5
  refine ⟨⟨e.ff, fun b o hb => ?_, e.eq⟩, Same.updO f hF, ass, s5, h2, h3⟩
  rw [upd_ne (fun z => by rw [z, (h3 a ha).2] at hb; cases hb)]
  exact e.hh b o hb
/-- a new dict in a slot -/
theorem Good.newD {K : PySem.W.Frag} {w : World} {B H0 F H : Hp} {ρ : Env K} {σ : L2.St} {i : Nat} {p : Addr} (g : Good B H0 F H ρ σ) (hp : H p = none) : Good B H0 F (upd H p (HDct w p [] 0)) (ρ.set i (cDct w (.dict []))) (σ.set i (some (.ref p))) := by
  obtain ⟨e, f, ass, h1, h2, h3⟩ := g
  have th := h1.there
  have x : Ex F H F (upd H p (HDct w p [] 0)) := Ex.newO hp
  have h1' : Slots F (upd H p (HDct w p [] 0)) ρ σ ass := h1.mono x.ff fun a ha => Same.ne x.hh (th a ha)
  refine ⟨e.trans x, Same.updO f (Same.free f hp), ass.set i [p], h1'.set (c := cDct w (.dict [])) ⟨p, [], [], 0, rfl, rfl, rfl, upd_same, .nil⟩, nodup_flatten_set h2 (by simp) fun b hb hm => th b hm (by rw [List.mem_singleton.mp hb]; exact hp), fun b hb => ?_⟩
  rcases mem_flatten_set hb with z | z
  · exact h3 b z
  · rw [List.mem_singleton.mp z]
    exact ⟨Same.free f hp, Same.free e.hh hp⟩
section
variable {X : Cx} {W : WX} {rk m : Md} {ρ : Env X.K} {e a c : Expr} {r ra rb : Res D} {pos p p2 p3 : Pos} {x : Str} {d : D}
theorem draw_ok {P : Program} {w : World} {H' : Hp} {h' : Heap} {a : Addr} {xs : List Ent} {ep : Nat} (d : DRaw w a xs ep h') : ObjOk P w H' h' a (HDct w a xs ep) := by
  obtain ⟨q1, q2, vs, o, es, q3, q4, q5⟩ := d
  exact ⟨⟨q1, q2, vs, o, es, q3, q4, q5⟩, ⟨o, q4⟩, fun g1 g2 ⟨q1, q2, vs', o', es', q3, q4, q5⟩ k => ⟨q1, q2, vs', o', es', q3, k _ q4, q5⟩⟩
theorem pe_dnewX : PE X (.Dict [] [] pos) (fun _ H Q => ∀ p, H p = none → Q (.ref p) (upd H p (HDct X.w p [] 0))) := ⟨fun pins s σ H Q I h =>
  wpAny_Dict_empty ⟨.ref s.heap.objs.size, _, I.laid (a := s.heap.objs.size) (o := HDct X.w s.heap.objs.size [] 0) (t' := s.toks) (fun _ _ q => Heap.get?_push_of_some _ q) (Nat.le_refl _)
    (draw_ok ⟨beq_eq_false_iff_ne.mpr (Nat.ne_of_gt I.big), List.nodup_nil, [], _, #[], .nil, Heap.get?_push_size _ rfl, ⟨rfl, rfl, rfl⟩, rfl, rfl⟩), rfl, h _ (I.hok.fresh (Nat.le_refl _))⟩⟩
/-- x = {} -/
theorem s1_dnew [C : CtxB X W] {pos' : Pos} (i : Nat) (hi : X.N[i]? = some x := by rfl) (hx : Loc X.env.scope x := by first | exact Or.inl rfl | exact Or.inr rfl) (hs : swapsWith (.Dict [] [] p) (some (.Name x pos')) pos.line X.env = pure false := by rfl) (hf : X.fn x = true ∨ X.env.scope.names.lookup x = some .local := by first | exact .inl rfl | exact .inr rfl) :
    S1 X W rk ρ (.Assign [.Name x pos'] (.Dict [] [] p) pos) (.ok (.dict [])) (fun d => .nx (ρ.set i (cDct X.w d))) :=
  ⟨_, ps_set C.nd hi hx pe_dnewX hs hf, fun B H0 F H σ D g q p hp => q.ok _ rfl F _ _ (g.newD hp)⟩
def rInX (K : PySem.W.Frag) (w : World) (f : Bool → Bool) : R2 := fun x y H Q => ∃ a xs ep kvs b e k, y = .ref a ∧ H a = some (HDct w a xs ep) ∧ Ents K H kvs xs ∧ x = .ref b ∧ Dp K H (.ref b) e ∧ keyT e = some k ∧ Q (.bl (f (kvs.find? (sameK e)).isSome)) H
theorem key_is {pins : List (Addr × Obj)} {σ : L2.St} {H : Hp} {s : Shared} {b : Addr} {e : D} {k : NestedKey} (I : Inv X pins σ H s) (h : Dp X.K H (.ref b) e) (hk : keyT e = some k) : (nestedKind X.prog X.w).is s.heap k b := by
  obtain ⟨_, h1, h2⟩ := keyT_ok hk
  exact ⟨Dp.key I _ _ _ _ h rfl h1, h2⟩
theorem dp_key {K : PySem.W.Frag} {F : Hp} {x : V} {e : D} {k : NestedKey} (h : Dp K F x e) (hk : keyT e = some k) : ∃ b, x = .ref b := by
  obtain ⟨⟨ds, rfl⟩, _⟩ := keyT_ok hk
  cases h with
  | tup _ _ => exact ⟨_, rfl⟩
theorem op_inX (hu : X.A.units + 20 < cLine) : OpR X (compareOp .In) (rInX X.K X.w id) := by
  intro pins s σ H x y v u Q I rx ry h
  obtain ⟨a, xs, ep, kvs, b, e, k, rfl, hH, he, rfl, hd, hk, q⟩ := h
  cases rx
  cases ry
  obtain ⟨hs, vs, r, dd, _⟩ := draw_of I hH he
  refine wpAny_in_heap (knd := nestedKind X.prog X.w) (by show X.A.units + 1 + 8 < cLine; omega) (key_is I hd hk) hs dd ?_
  rw [← entR_isSome r, ← ents_isSome hk he]
  exact ⟨.bl _, H, I.tok _, rfl, q⟩
theorem op_ninX (hu : X.A.units + 20 < cLine) : OpR X (compareOp .NotIn) (rInX X.K X.w (!·)) := by
  intro pins s σ H x y v u Q I rx ry h
  obtain ⟨a, xs, ep, kvs, b, e, k, rfl, hH, he, rfl, hd, hk, q⟩ := h
  cases rx
  cases ry
  obtain ⟨hs, vs, r, dd, _⟩ := draw_of I hH he
  refine PyProof.Rows.wpAny_notIn_heap (knd := nestedKind X.prog X.w) (by show X.A.units + 1 + 8 < cLine; omega) (key_is I hd hk) hs dd ?_
  rw [← entR_isSome r, ← ents_isSome hk he]
  exact ⟨.bl _, H, I.tok _, rfl, q⟩
/-- what an operand that is a dict's name tells -/
theorem inX_eval {f : Bool → Bool} {g : D → D → Res D} {B H0 F H : Hp} {σ : L2.St} {i : Nat} {x : V} {e : D} {Q : V → Hp → Prop} (gd : Good B H0 F H ρ σ) (hρ : ρ[i]? = some (cDct X.w d)) (hx : Dp X.K F x e)
    (hg : ∀ kvs, g (.dict kvs) e = if (keyT e).isSome then .ok (.bool (f (kvs.find? (sameK e)).isSome)) else .stuck) (k : Kn X W F H σ (g d e) (Acc X.K .V) Q) : ∃ y, σ[i]? = some (some y) ∧ rInX X.K X.w f x y H Q := by
  obtain ⟨a, kvs, xs, ep, rfl, h1, h2, h3, _⟩ := gd.dct hρ
  have s := gd.fh
  rw [hg] at k
  cases hk : keyT e with
  | none => rw [hk] at k; exact absurd rfl k.ns
  | some key =>
    obtain ⟨b, rfl⟩ := dp_key hx hk
    exact ⟨_, h1, a, xs, ep, kvs, b, e, key, rfl, h2, h3.mono s, rfl, Dp.mono s _ _ hx, hk, kn_flat (k.of_eq (by rw [hk]; rfl)) s rfl (.bl _)⟩
theorem eg_inX [C : CtxB X W] (i : Nat) (hρ : ρ[i]? = some (cDct X.w d)) (ha : EG X W ρ .V a ra) (hN : X.N[i]? = some x := by rfl) (hv : Vis X.env.scope x := by first | exact Or.inl rfl | exact Or.inr (Or.inl rfl) | exact Or.inr (Or.inr rfl)) (hd : (x == ("__debug__" : Str)) = false := by decide)
    (hcd : (x == ("__classdict__" : Str)) = false := by decide) (hm : behindInMarks .In (.Name x p) = false := by rfl) : EG X W ρ .V (.Compare a [.In] [.Name x p] pos) (ra.bd fun e => inD d e) := by
  obtain ⟨ta, a1, a2⟩ := ha
  exact ⟨_, pe_cmpR (op_inX (by have := C.hu; omega)) a1 (pe_var hN hv hd hcd) hm, fun B H0 F H σ Q gd k => a2 B H0 F H σ _ gd (Kn.bd k acc_base fun e y F1 H1 _ e1 s1 q1 k1 => inX_eval (f := id) (g := inD) (gd.go e1 s1) hρ q1 (fun _ => rfl) k1)⟩
theorem eg_ninX [C : CtxB X W] (i : Nat) (hρ : ρ[i]? = some (cDct X.w d)) (ha : EG X W ρ .V a ra) (hN : X.N[i]? = some x := by rfl) (hv : Vis X.env.scope x := by first | exact Or.inl rfl | exact Or.inr (Or.inl rfl) | exact Or.inr (Or.inr rfl)) (hd : (x == ("__debug__" : Str)) = false := by decide)
    (hcd : (x == ("__classdict__" : Str)) = false := by decide) (hm : behindInMarks .NotIn (.Name x p) = false := by rfl) : EG X W ρ .V (.Compare a [.NotIn] [.Name x p] pos) (ra.bd fun e => notInD d e) := by
  obtain ⟨ta, a1, a2⟩ := ha
  exact ⟨_, pe_cmpR (op_ninX (by have := C.hu; omega)) a1 (pe_var hN hv hd hcd) hm, fun B H0 F H σ Q gd k => a2 B H0 F H σ _ gd (Kn.bd k acc_base fun e y F1 H1 _ e1 s1 q1 k1 => inX_eval (f := (!·)) (g := notInD) (gd.go e1 s1) hρ q1 (fun _ => rfl) k1)⟩
theorem inX_test {f : Bool → Bool} {g : D → D → Res D} {B H0 F H : Hp} {σ : L2.St} {i : Nat} {x : V} {e : D} {Q : Bool → Hp → Prop} (gd : Good B H0 F H ρ σ) (hρ : ρ[i]? = some (cDct X.w d)) (hx : Dp X.K F x e)
    (hg : ∀ kvs, g (.dict kvs) e = if (keyT e).isSome then .ok (.bool (f (kvs.find? (sameK e)).isSome)) else .stuck) (k : Kn X W F H σ ((g d e).bd bl) aB Q) : ∃ y, σ[i]? = some (some y) ∧ rInX X.K X.w f x y H (fun v H' => ∃ b, v = .bl b ∧ Q b H') := by
  refine inX_eval gd hρ hx hg (Kn.bd k aB_base fun z v F1 H1 _ e1 s1 q1 k1 => ?_)
  cases z <;> first | exact absurd rfl k1.ns | skip
  cases q1
  exact ⟨_, rfl, k1.ret (Ex.refl _ _) s1 rfl⟩
theorem tg_inX [C : CtxB X W] (i : Nat) (hρ : ρ[i]? = some (cDct X.w d)) (ha : EG X W ρ .V a ra) (hN : X.N[i]? = some x := by rfl) (hv : Vis X.env.scope x := by first | exact Or.inl rfl | exact Or.inr (Or.inl rfl) | exact Or.inr (Or.inr rfl)) (hd : (x == ("__debug__" : Str)) = false := by decide)
    (hcd : (x == ("__classdict__" : Str)) = false := by decide) (hm : behindInMarks .In (.Name x p) = false := by rfl) : TG' X W ρ (.Compare a [.In] [.Name x p] pos) ((ra.bd fun e => inD d e).bd bl) := by
  obtain ⟨ta, a1, a2⟩ := ha
  rw [bd_bd]
  exact ⟨_, pt_cmpR (op_inX (by have := C.hu; omega)) a1 (pe_var hN hv hd hcd) hm, fun B H0 F H σ Q gd k => a2 B H0 F H σ _ gd (Kn.bd k aB_base fun e y F1 H1 _ e1 s1 q1 k1 => inX_test (f := id) (g := inD) (gd.go e1 s1) hρ q1 (fun _ => rfl) k1)⟩
theorem tg_ninX [C : CtxB X W] (i : Nat) (hρ : ρ[i]? = some (cDct X.w d)) (ha : EG X W ρ .V a ra) (hN : X.N[i]? = some x := by rfl) (hv : Vis X.env.scope x := by first | exact Or.inl rfl | exact Or.inr (Or.inl rfl) | exact Or.inr (Or.inr rfl)) (hd : (x == ("__debug__" : Str)) = false := by decide)
    (hcd : (x == ("__classdict__" : Str)) = false := by decide) (hm : behindInMarks .NotIn (.Name x p) = false := by rfl) : TG' X W ρ (.Compare a [.NotIn] [.Name x p] pos) ((ra.bd fun e => notInD d e).bd bl) := by
  obtain ⟨ta, a1, a2⟩ := ha
  rw [bd_bd]
  exact ⟨_, pt_cmpR (op_ninX (by have := C.hu; omega)) a1 (pe_var hN hv hd hcd) hm, fun B H0 F H σ Q gd k => a2 B H0 F H σ _ gd (Kn.bd k aB_base fun e y F1 H1 _ e1 s1 q1 k1 => inX_test (f := (!·)) (g := notInD) (gd.go e1 s1) hρ q1 (fun _ => rfl) k1)⟩
/-- d[e] -/
def rGetX (K : PySem.W.Frag) (w : World) (x y : V) (H : Hp) (Q : VK) : Prop := ∃ a xs ep kvs b e k v, x = .ref a ∧ H a = some (HDct w a xs ep) ∧ Ents K H kvs xs ∧ y = .ref b ∧ Dp K H (.ref b) e ∧ keyT e = some k ∧ (xs.find? fun x => decide (x.1 = k)).map (·.2.2) = some v ∧ Q v H
theorem pe_dgetX {o i : Expr} {td ty : TE} (hu : X.A.units + 20 < cLine) (ho : PE X o td) (hi : PE X i ty) (hs : NoSl i) : PE X (.Subscript o i pos) (fun σ H Q => td σ H fun x H1 => ty σ H1 fun y H2 => rGetX X.K X.w x y H2 Q) := by
  refine ⟨fun pins s σ H Q I h => ?_⟩
  refine subD_of PySem.F.slot_dict_getitem.lookup hs (thn (ho.run pins s σ H _ I h) fun u s1 ⟨x, H1, I1, rx, q1⟩ => thn (hi.run pins s1 σ H1 _ I1 q1) fun iv s2 ⟨y, H2, I2, ry, q2⟩ => ?_)
  obtain ⟨a, xs, ep, kvs, b, e, k, v, rfl, hH, he, rfl, hd, hk, hv, q⟩ := q2
  cases rx
  cases ry
  obtain ⟨hs, vs, r, dd, _⟩ := draw_of I2 hH he
  have rr := entR_find k r
  rw [hv] at rr
  cases c : atKey vs k with
  | none => rw [c] at rr; exact rr.elim
  | some q0 =>
    rw [c] at rr
    exact ⟨dd.typeIs, wpAny_getItem_heap (knd := nestedKind X.prog X.w) (by show X.A.units + 1 + 8 < cLine; omega) (key_is I2 hd hk) dd c ⟨v, H2, I2.tok _, rr, q⟩⟩
theorem eg_getX [C : CtxB X W] (i : Nat) (hρ : ρ[i]? = some (cDct X.w d)) (ha : EG X W ρ .V a ra) (hs : NoSl a := by intro _ _; rfl) (hN : X.N[i]? = some x := by rfl) (hv : Vis X.env.scope x := by first | exact Or.inl rfl | exact Or.inr (Or.inl rfl) | exact Or.inr (Or.inr rfl)) (hd : (x == ("__debug__" : Str)) = false := by decide)
    (hcd : (x == ("__classdict__" : Str)) = false := by decide) : EG X W ρ .V (.Subscript (.Name x p) a pos) (ra.bd fun e => getD d e) := by
  obtain ⟨ta, a1, a2⟩ := ha
  refine ⟨_, pe_dgetX (by have := C.hu; omega) (pe_var hN hv hd hcd) a1 hs, fun B H0 F H σ Q gd k => ?_⟩
  obtain ⟨a0, kvs, xs, ep, rfl, h1, _⟩ := gd.dct hρ
  refine ⟨_, h1, a2 B H0 F H σ _ gd (Kn.bd k acc_base fun e y F1 H1 _ e1 s1 q1 k1 => ?_)⟩
  obtain ⟨a', kvs', xs', ep', z, g1, g2, g3, _⟩ := (gd.go e1 s1).dct hρ
  cases z
  rw [h1] at g1
  cases g1
  cases hk : keyT e with
  | none => exact absurd (by simp only [getD, hk]; rfl) k1.ns
  | some key =>
    have q1 : Dp X.K F1 y e := q1
    obtain ⟨b, rfl⟩ := dp_key q1 hk
    have f := ents_find hk g3
    cases c : kvs.find? (sameK e) with
    | none => exact absurd (by simp only [getD, hk, valD, c]; rfl) k1.ns
    | some pr =>
      rw [c] at f
      cases c2 : xs'.find? (fun x => decide (x.1 = key)) with
      | none => rw [c2] at f; exact f.elim
      | some xr =>
        rw [c2] at f
        exact ⟨a0, xs', ep', kvs, b, e, key, xr.2.2, rfl, g2, g3.mono s1, rfl, Dp.mono s1 _ _ q1, hk, by rw [c2]; rfl, (k1.of_eq (r' := .ok pr.2) (by simp only [getD, hk, valD, c]; rfl)).ret (Ex.refl _ _) s1 f⟩
end
end DL
/-! Dicts of one's own: d[k] = v, walks, sorted. -/
namespace DL
open PySem PySem.W PySem.Spec L2
section
variable {X : Cx} {W : WX} {rk m : Md} {ρ : Env X.K} {e a c : Expr} {r ra rb : Res D} {pos p p2 p3 : Pos} {x : Str} {d : D}
theorem length_putX (xs : List Ent) (k : NestedKey) (b : Addr) (v : V) : (putX xs k b v).length ≤ xs.length + 1 := by
  unfold putX
  split <;> simp
theorem ps_dputX {o i value : Expr} {pos' : Pos} {td ty tv : TE} (hu : X.A.units + 20 < cLine) (ho : PE X o td) (hi : PE X i ty) (hv : PE X value tv) (hs : swapsWith value (some (.Subscript o i pos')) pos.line X.env = pure false) :
    PS X (.Assign [.Subscript o i pos'] value pos) (fun D σ H => tv σ H fun v H1 => td σ H1 fun x H2 => ty σ H2 fun y H3 => ∃ a xs ep kvs b e k, x = .ref a ∧ H3 a = some (HDct X.w a xs ep) ∧ Ents X.K H3 kvs xs ∧ y = .ref b ∧ Dp X.K H3 (.ref b) e ∧ keyT e = some k ∧ xs.length ≤ sizeLine ∧
      ∀ ep', D.nx σ (upd H3 a (HDct X.w a (putX xs k b v) ep'))) := by
  refine ⟨fun pins s σ H D I h => ?_⟩
  refine wpAny_Assign_Subscript (thn (hv.run pins s σ H _ I h) fun r s1 ⟨v, H1, I1, rv, q1⟩ => thn (ho.run pins s1 σ H1 _ I1 q1) fun u s2 ⟨x, H2, I2, rx, q2⟩ => thn (hi.run pins s2 σ H2 _ I2 q2) fun iv s3 ⟨y, H3, I3, ry, q3⟩ => ?_) hs
  obtain ⟨a, xs, ep, kvs, b, e, k, rfl, hH, he, rfl, hd, hk, hl, q⟩ := q3
  cases rx
  cases ry
  obtain ⟨hs, vs, rr, dd, _⟩ := draw_of I3 hH he
  refine wpAny_setItem_heap (knd := nestedKind X.prog X.w) (by show X.A.units + 1 + 8 < cLine; omega) (key_is I3 hd hk) dd (fun h' dd' sb => ?_) (by rw [← Paired.length rr]; exact hl)
  obtain ⟨ep', ok⟩ := draw_new (P := X.prog) (H' := upd H3 a (HDct X.w a (putX xs k b v) 0)) hs (entR_put rr rv) dd'
  have mu : Mut (H3 a) := by rw [hH]; trivial
  obtain ⟨_, _, _, _, _, hx, _⟩ := (show DRaw X.w a (putX xs k b v) ep' h' from ok.1)
  have J : Inv X pins σ (upd H3 a (HDct X.w a (putX xs k b v) ep')) { s3 with heap := h', toks := s3.toks + k.draws } := d_write I3 mu sb ok.2.1 (draw_ok ok.1)
  exact ⟨σ, _, J, q ep'⟩
/-- d[e] = v -/
theorem s1_putX [C : CtxB X W] {ev : Expr} {pos' : Pos} {rv : Res D} (i : Nat) (hρ : ρ[i]? = some (cDct X.w d)) (hv' : EG X W ρ .V ev rv) (ha : EG X W ρ .V a ra) (hs : swapsWith ev (some (.Subscript (.Name x p) a pos')) pos.line X.env = pure false := by rfl) (hN : X.N[i]? = some x := by rfl)
    (hv : Vis X.env.scope x := by first | exact Or.inl rfl | exact Or.inr (Or.inl rfl) | exact Or.inr (Or.inr rfl)) (hd : (x == ("__debug__" : Str)) = false := by decide) (hcd : (x == ("__classdict__" : Str)) = false := by decide) :
    S1 X W rk ρ (.Assign [.Subscript (.Name x p) a pos'] ev pos) (rv.bd fun v => ra.bd fun e => setD d e v) (fun d => .nx (ρ.set i (cDct X.w d))) := by
  obtain ⟨tv, v1, v2⟩ := hv'
  obtain ⟨ta, a1, a2⟩ := ha
  refine ⟨_, ps_dputX (by have := C.hu; omega) (pe_var hN hv hd hcd) a1 v1 hs, fun B H0 F H σ D g q => ?_⟩
  refine v2 B H0 F H σ _ g (KS.kn g q fun dv v F1 H1 _ x s ac g' q' => ?_)
  obtain ⟨a0, kvs, xs, ep, rfl, o1, _⟩ := g'.dct hρ
  refine ⟨_, o1, a2 B H0 F1 H1 σ _ g' (KS.kn g' q' fun e y F2 H2 _ x2 s2 ac2 g2 q2 => ?_)⟩
  obtain ⟨a', kvs', xs', ep', z, p1, p2, p3, p4⟩ := g2.dct hρ
  cases z
  rw [o1] at p1
  cases p1
  cases hk : keyT e with
  | none => exact absurd (by simp only [setD, hk]; rfl) q2.ns
  | some key =>
    cases hl : decide (kvs.length < 16777216) with
    | false => exact absurd (by simp only [setD, hk, hl]; rfl) q2.ns
    | true =>
      have q3 := q2.of_eq (r' := .ok (.dict (putD kvs e dv))) (by simp only [setD, hk, hl]; rfl)
      have ac2 : Dp X.K F2 y e := ac2
      obtain ⟨b, rfl⟩ := dp_key ac2 hk
      have hl' := of_decide_eq_true hl
      refine ⟨a0, xs', ep', kvs, b, e, key, rfl, p2, p3.mono s2, rfl, Dp.mono s2 _ _ ac2, hk, ?_, fun ep2 => ?_⟩
      · rw [← Paired.length p3, PySem.sizeLine_eq]; omega
      · exact q3.ok _ rfl F2 _ _ (p4 _ ep2 _ (ents_put p3 hk ac2 (Dp.mono x2.ff _ _ ac)))
/-! ### walked -/
def ItD (w : World) (a : Addr) (xs : List Ent) (ep : Nat) : It := ⟨fun i H => H a = some (HDct w a xs ep) ∧ i < xs.length, fun i H x H' => H' = H ∧ ∃ q, xs[i]? = some q ∧ x = .ref q.2.1, fun i H => H a = some (HDct w a xs ep) ∧ xs.length ≤ i⟩
theorem raw_of {pins : List (Addr × Obj)} {σ : L2.St} {H : Hp} {s : Shared} {a : Addr} {xs : List Ent} {ep : Nat} (I : Inv X pins σ H s) (h : H a = some (HDct X.w a xs ep)) : (a == sysModules) = false ∧ ∃ es, s.heap.DictRaw a es ep ∧ es.size = xs.length ∧ ∀ i (hi : i < es.size), ∃ q, xs[i]? = some q ∧ es[i].key = .ref q.2.1 ∧ RelV q.2.2 es[i].val := by
  have ok : ObjOk X.prog X.w H s.heap a (HDct X.w a xs ep) := I.hok a _ h
  obtain ⟨⟨h1, h2, vs, o, es, h3, h4, h5, h6, h7⟩, ok2⟩ := ok
  have hl : es.size = vs.length := by rw [← Array.length_toList, h7, List.length_map]
  refine ⟨h1, es, ⟨o, h4, h5, h6⟩, by rw [hl, Paired.length h3], fun i hi => ?_⟩
  have e1 : es[i] = (⟨(vs[i]'(by omega)).1.hash X.w, .ref (vs[i]'(by omega)).2.1, (vs[i]'(by omega)).2.2⟩ : DictEntry) := by
    have : es.toList[i]'(by simpa using hi) = _ := List.getElem_of_eq h7 _
    rw [List.getElem_map] at this
    rw [← this]
    simp
  have gt : ∀ {l : List Ent} {m : List (NestedKey × Addr × Value)} (i : Nat) (q : NestedKey × Addr × Value), EntR l m → m[i]? = some q → ∃ p, l[i]? = some p ∧ p.2.1 = q.2.1 ∧ RelV p.2.2 q.2.2 := by
    intro l m i q r e
    induction r generalizing i with
    | nil => simp at e
    | @cons p' q' ps qs hq t ih =>
      cases i with
      | zero => simp at e; subst e; exact ⟨p', by simp, hq.2⟩
      | succ i => obtain ⟨p, g1, g2⟩ := ih i (by simpa using e); exact ⟨p, by simpa using g1, g2⟩
  obtain ⟨p, g1, g2, g3⟩ := gt i _ h3 (List.getElem?_eq_getElem (by omega))
  rw [e1]
  exact ⟨p, g1, by rw [g2], g3⟩
theorem turn_dct {P : Program} {w : World} {K : PySem.W.Frag} {tg : Expr} {a : Addr} {xs : List Ent} {ep : Nat} (it : Addr) : Turn P w K tg (ItD w a xs ep) [it] it (fun i h => h.IsKeyIter it a i xs.length ep) where
  mem := by simp
  obj := fun i h st b hb => by
    have e : b = it := by simpa using hb
    subst e
    obtain ⟨oi, e, c, dd⟩ := st
    exact ⟨oi, e, fun v z => by rw [dd] at z; cases z⟩
  keep := fun i h h' st k => st.at fun oi e => k it (by simp) oi e
  item := by
    intro X hP hw hK hc i pins s σ H E I hf st hg
    subst hP hw hK
    obtain ⟨hd, hi⟩ := hg
    obtain ⟨f0, f1, f2, f3, f4, f5⟩ := hf it (by simp)
    obtain ⟨_, es, raw, hsz, ent⟩ := raw_of I hd
    have hi' : i < es.size := by omega
    obtain ⟨q, hq, hkey, _⟩ := ent i hi'
    rw [← hsz] at st
    refine wpAny_pyNext_keys_item_raw st raw hi' fun h' st' sb => ?_
    have I1 : Inv X pins σ H { s with heap := h' } := I.turned (t' := s.toks) (fun b ob hb e => (sb.2 b hb).trans e) f0 f1 f3 f4 f5
    obtain ⟨oi, e, c, dd⟩ := id st'
    refine ⟨es[i].key, rfl, go_of (s := { s with heap := h' }) e c dd (by decide) ⟨.ref q.2.1, H, I1, hkey, ⟨rfl, q, hq, rfl⟩, ?_, fun b hb => (hf b hb).1⟩⟩
    show h'.IsKeyIter it a (i + 1) xs.length ep
    rw [← hsz]
    exact st'
  done := by
    intro X hP hw hK hc i pins s σ H E I hf st hg
    subst hP hw hK
    obtain ⟨hd, hi⟩ := hg
    obtain ⟨f0, f1, f2, f3, f4, f5⟩ := hf it (by simp)
    obtain ⟨_, es, raw, hsz, ent⟩ := raw_of I hd
    rw [← hsz] at st
    exact wpAny_pyNext_keys_end_raw (I.ok.hd hc) st raw (by omega) fun h' eb => ⟨rfl, I.turned (t' := s.toks) (fun b ob hb e => eb b ob hb e) f0 f1 f3 f4 f5⟩
  self := fun A i s Q E st h => wpAny_pyIter_keyiter st h
theorem pi_dct {tg o : Expr} {td : TE} (ho : PE X o td) : PI X tg o (fun σ H R => td σ H fun x H1 => ∃ a xs ep, x = .ref a ∧ H1 a = some (HDct X.w a xs ep) ∧ R (ItD X.w a xs ep) H1) := by
  refine ⟨fun pins s σ H R I h => thn (ho.run pins s σ H _ I h) fun u s1 ⟨x, H1, I1, rx, a, xs, ep, ex, hH, q⟩ => ?_⟩
  subst ex
  cases rx
  obtain ⟨hs, es, raw, hsz, _⟩ := raw_of I1 hH
  have I2 : Inv X pins σ H1 { s1 with heap := s1.heap.push { cls := .type "dict_keyiterator", data := .fields #[.ref a, .int 0 0, .int es.size 0, .int ep 0] } } := I1.kept (t' := s1.toks) fun b o e => Heap.get?_push_of_some _ e
  refine wpAny_pyIter_dict_raw hs raw ⟨s1.heap.objs.size, [s1.heap.objs.size], _, _, H1, rfl, I2, turn_dct _, ⟨_, Heap.get?_push_size _ rfl, rfl, by simp [hsz]⟩, fun b hb => ?_, q⟩
  have e : b = s1.heap.objs.size := by simpa using hb
  subst e
  exact I1.fpOk (Nat.le_refl _) (I1.hok.fresh (Nat.le_refl _))
theorem ents_get {K : PySem.W.Frag} {F : Hp} : ∀ {kvs : List (D × D)} {xs : List Ent} {i : Nat} {q : Ent}, Ents K F kvs xs → xs[i]? = some q → ∃ p, kvs[i]? = some p ∧ Dp K F (.ref q.2.1) p.1 ∧ Dp K F q.2.2 p.2
  | _, _, _, _, .nil, e => by simp at e
  | _, _, 0, _, .cons h _, e => by simp at e; subst e; exact ⟨_, by simp, h.2⟩
  | _, _, i + 1, q, .cons _ t, e => by
    obtain ⟨p, h1, h2⟩ := ents_get (i := i) (q := q) t (by simpa using e)
    exact ⟨p, by simpa using h1, h2⟩
/-- for k in d -/
theorem ig_dct {tg : Expr} (i : Nat) (hρ : ρ[i]? = some (cDct X.w d)) (hN : X.N[i]? = some x := by rfl) (hv : Vis X.env.scope x := by first | exact Or.inl rfl | exact Or.inr (Or.inl rfl) | exact Or.inr (Or.inr rfl)) (hd : (x == ("__debug__" : Str)) = false := by decide)
    (hcd : (x == ("__classdict__" : Str)) = false := by decide) : IG X W ρ tg (.Name x p) (dictKeys d) := by
  refine ⟨_, pi_dct (pe_var hN hv hd hcd), fun B H0 F H σ Q gd k => ?_⟩
  obtain ⟨a0, kvs, xs, ep, rfl, h1, h2, h3, _⟩ := gd.dct hρ
  refine ⟨_, h1, a0, xs, ep, rfl, h2, k.ret (Ex.refl _ _) gd.fh fun F2 H2 e s => ?_⟩
  have hl : kvs.length = xs.length := Paired.length h3
  refine ⟨⟨e.hh _ _ h2, by rw [List.length_map]; omega⟩, fun j dk hj => ?_⟩
  have hjl : j < xs.length := by
    have := (List.getElem?_eq_some_iff.mp hj).1
    rw [List.length_map] at this
    omega
  refine ⟨⟨e.hh _ _ h2, hjl⟩, fun y H3 ⟨y1, q, y2, y3⟩ => ?_⟩
  subst y1 y3
  obtain ⟨pr, g1, g2, _⟩ := ents_get h3 y2
  rw [List.getElem?_map, g1] at hj
  cases hj
  exact ⟨F2, Ex.refl _ _, s, Dp.mono e.ff _ _ g2⟩
/-! ### sorted(d) -/
theorem collects_dct {prog : Program} {w : World} {A : Around} {s : Shared} {a : Addr} {es : Array DictEntry} {ep : Nat} (hs : (a == sysModules) = false) (raw : s.heap.DictRaw a es ep) (hh : A.handled = none) (hz : es.size ≤ sizeLine) : Collects prog w A s (.ref a) (es.toList.map (·.key)) := fun E R h =>
  PySem.W.kdu_collect (KdlSrc.rawDict hs) hh raw hz fun h' tk acc k it => by
    have e : acc.toList = es.toList.map (·.key) := by
      apply List.ext_getElem?
      intro j
      rw [List.getElem?_map, Array.getElem?_toList, Array.getElem?_toList]
      cases c : acc[j]? with
      | none =>
        have h1 := Array.getElem?_eq_none_iff.mp c
        rw [Array.getElem?_eq_none (by rw [it.1] at h1; exact h1)]
        rfl
      | some v =>
        obtain ⟨hi, rfl⟩ := it.2 j v c
        rw [Array.getElem?_eq_getElem hi]
        rfl
    rw [e]
    exact h h' tk k
def rSortX (K : PySem.W.Frag) (w : World) : List V → Hp → VK → Prop := fun vs H Q => ∃ a xs ep kvs F, vs = [.ref a] ∧ Same F H ∧ H a = some (HDct w a xs ep) ∧ Ents K F kvs xs ∧ sortOk (kvs.map (·.1)) = true ∧ ∀ p ys, H p = none → DpAll K F ys (sortD (kvs.map (·.1))) → Q (.ref p) (upd H p (.lst ys))
theorem ents_each {K : PySem.W.Frag} {F : Hp} {kvs : List (D × D)} {xs : List Ent} (h : Ents K F kvs xs) : EachIs (RelD K F) (xs.map fun x => Value.ref x.2.1) (kvs.map (·.1)) := by
  induction h with
  | nil => exact .nil
  | @cons p q ps qs h t ih => exact .cons ⟨.ref q.2.1, rfl, h.2.1⟩ ih
theorem cr_sortX (hc : X.calm = true) (hu : X.A.units + 16 < cLine) : CallR X (.builtin "sorted") (rSortX X.K X.w) := by
  intro pins s σ H vs us Q I r h
  obtain ⟨a, xs, ep, kvs, F, rfl, fh, hH, en, ok, q⟩ := h
  rw [Vals.ref1 r]
  obtain ⟨hs, es, raw, hsz, ent⟩ := raw_of I hH
  have hl : kvs.length = xs.length := Paired.length en
  have hsort := sortOk_of ok
  have e : es.toList.map (·.key) = xs.map fun x => Value.ref x.2.1 := by
    apply List.ext_getElem?
    intro j
    rw [List.getElem?_map, List.getElem?_map, Array.getElem?_toList]
    by_cases hj : j < es.size
    · obtain ⟨q, q1, q2, _⟩ := ent j hj
      rw [Array.getElem?_eq_getElem hj, q1]
      exact congrArg some q2
    · rw [Array.getElem?_eq_none (by omega), List.getElem?_eq_none (by omega)]
      rfl
  have hz : es.size ≤ sizeLine := by
    have := hsort.2.2.2
    rw [List.length_map] at this
    omega
  have col : Collects X.prog X.w X.A.in1 s (.ref a) (xs.map fun x => Value.ref x.2.1) := by
    rw [← e]
    exact collects_dct hs raw (I.ok.hd hc) hz
  have ea := ents_each en
  refine sorted_any (.inl ⟨rfl, rfl⟩) col ea (each_reads I fh ea) ok hu fun h1 h' tk out n k1 k2 hn hl2 he => ?_
  obtain ⟨ys, g1, g2, J⟩ := sorted_laid (tk := tk) I k1 k2 hn (by rw [hl2]; exact hsort.2.2.2) he
  exact ⟨.ref _, _, J, rfl, q _ ys g2 g1⟩
def sortedDct (d : D) : Res D := (dictKeys d).bd sortR
theorem eg_sortedX [C : Ctx X W] {p2 : Pos} (i : Nat) (hρ : ρ[i]? = some (cDct X.w d)) (hm : X.mg "sorted" = none) (hg : Gl X "sorted" := by rfl) (hN : X.N[i]? = some x := by rfl) (hv : Vis X.env.scope x := by first | exact Or.inl rfl | exact Or.inr (Or.inl rfl) | exact Or.inr (Or.inr rfl)) (hd : (x == ("__debug__" : Str)) = false := by decide)
    (hcd : (x == ("__classdict__" : Str)) = false := by decide) (he : starEach [.Name x p] X.env = (false, eval (.Name x p) X.env) :: starEach [] X.env := by rfl) (hpl : (backTo pos (starEach [] X.env)).any (·.1) = false := by rfl) : EG X W ρ .O (.Call (.Name "sorted" p2) [.Name x p] [] pos) (sortedDct d) := by
  refine ⟨_, pe_callB (cr_sortX C.calm (by have := C.hu; omega)) hg hm DL.boot_sorted (pa_cons (pe_var hN hv hd hcd) pa_nil he) (by decide) (by decide) he hpl, fun B H0 F H σ Q gd k => ?_⟩
  obtain ⟨a0, kvs, xs, ep, rfl, h1, h2, h3, _⟩ := gd.dct hρ
  cases ok : sortOk (kvs.map (·.1)) with
  | false => exact absurd (show sortedDct (.dict kvs) = .stuck from by unfold sortedDct sortR dictKeys; rw [bd_ok, ok]; rfl) k.ns
  | true =>
    have e : sortedDct (.dict kvs) = .ok (.list (sortD (kvs.map (·.1)))) := by unfold sortedDct sortR dictKeys; rw [bd_ok, ok]; rfl
    exact ⟨_, h1, a0, xs, ep, kvs, F, rfl, gd.fh, h2, h3, ok, fun p ys hp q => kn_newL (k.of_eq e) gd.fh hp q⟩
end
theorem ap_stuck1 {g : D → Res D} (h : ∀ a, g a = .stuck) (ds : List D) : ap1 g ds = .stuck := by
  match ds with
  | [] => rfl
  | [a] => exact h a
  | _ :: _ :: _ => rfl
theorem ap_stuck2 {g : D → D → Res D} (h : ∀ a b, g a b = .stuck) (ds : List D) : ap2 g ds = .stuck := by
  match ds with
  | [] => rfl
  | [_] => rfl
  | [a, b] => exact h a b
  | _ :: _ :: _ :: _ => rfl
theorem ap_stuck3 {g : D → D → D → Res D} (h : ∀ a b c, g a b c = .stuck) (ds : List D) : ap3 g ds = .stuck := by
  match ds with
  | [] => rfl
  | [_] => rfl
  | [_, _] => rfl
  | [a, b, c] => exact h a b c
  | _ :: _ :: _ :: _ :: _ => rfl
theorem def_mk0 {P : Program} {w : World} {K : PySem.W.Frag} {mg : Str → Option Value} {base : Heap} {x : Str} {st : Stmt} {k n : Nat} {rk : Md} {g : List D → Res D} {f : Addr} {fd : FuncData} {ps : List Str} (F : Fun K x x st f fd) (hm : mg x = some (.ref f)) (hb : Binds K fd ps []) (h : FnOk P w K mg base (L2N.CX P w) k f fd ps (spD K mg n rk g)) :
    Def P w K mg base x k n rk g := ⟨f, fd, ps, h, hm, F.kp, hb⟩
end DL
/-! Lists of lists of one's own: x[i][j] = v, x.append(a list of one's own); looking at them without giving them away. -/
namespace DL
open PySem L2
def RowsOk (K : PySem.W.Frag) (F H : Hp) : List V → List Addr → List D → Prop
  | [], [], [] => True
  | x :: xs, b :: bs, d :: ds => (∃ ys es, x = .ref b ∧ d = .list es ∧ H b = some (.lst ys) ∧ DpAll K F ys es) ∧ RowsOk K F H xs bs ds
  | _, _, _ => False
section
variable {K : PySem.W.Frag} {F F' H H' : Hp}
theorem RowsOk.mono (s : Same F F') : ∀ {xs : List V} {bs : List Addr} {ds : List D}, (∀ a ∈ bs, H' a = H a) → RowsOk K F H xs bs ds → RowsOk K F' H' xs bs ds
  | [], [], [], _, _ => trivial
  | x :: xs, b :: bs, d :: ds, e, h => by
    obtain ⟨⟨ys, es, h1, h2, h3, h4⟩, h5⟩ := h
    exact ⟨⟨ys, es, h1, h2, by rw [e b (by simp)]; exact h3, DpAll.mono s _ _ h4⟩, RowsOk.mono s (fun a ha => e a (by simp [ha])) h5⟩
  | [], [], _ :: _, _, h => by cases h
  | [], _ :: _, _, _, h => by cases h
  | _ :: _, [], _, _, h => by cases h
  | _ :: _, _ :: _, [], _, h => by cases h
theorem RowsOk.there : ∀ {xs : List V} {bs : List Addr} {ds : List D}, RowsOk K F H xs bs ds → ∀ a ∈ bs, H a ≠ none
  | [], [], [], _, a, ha => by cases ha
  | x :: xs, b :: bs, d :: ds, h, a, ha => by
    obtain ⟨⟨ys, es, h1, h2, h3, h4⟩, h5⟩ := h
    rcases List.mem_cons.mp ha with rfl | ha
    · rw [h3]; exact fun z => nomatch z
    · exact RowsOk.there h5 a ha
  | [], [], _ :: _, h, _, _ => by cases h
  | [], _ :: _, _, h, _, _ => by cases h
  | _ :: _, [], _, h, _, _ => by cases h
  | _ :: _, _ :: _, [], h, _, _ => by cases h
theorem RowsOk.len : ∀ {xs : List V} {bs : List Addr} {ds : List D}, RowsOk K F H xs bs ds → xs.length = ds.length ∧ bs.length = ds.length
  | [], [], [], _ => ⟨rfl, rfl⟩
  | x :: xs, b :: bs, d :: ds, h => by
    obtain ⟨h1, h2⟩ := RowsOk.len h.2
    exact ⟨by simp [h1], by simp [h2]⟩
  | [], [], _ :: _, h => by cases h
  | [], _ :: _, _, h => by cases h
  | _ :: _, [], _, h => by cases h
  | _ :: _, _ :: _, [], h => by cases h
theorem RowsOk.dp {as : List Addr} (hn : ∀ a ∈ as, F a = none) : ∀ {xs : List V} {bs : List Addr} {ds : List D}, (∀ a ∈ bs, a ∈ as) → RowsOk K F H xs bs ds → DpAll K (fz as F H) xs ds
  | [], [], [], _, _ => .nil
  | x :: xs, b :: bs, d :: ds, hb, h => by
    obtain ⟨⟨ys, es, rfl, rfl, h3, h4⟩, h5⟩ := h
    exact .cons (.lst (SqL.of (by rw [fz_in (hb b (by simp))]; exact h3)) (DpAll.mono (fz_ff hn) _ _ h4)) (RowsOk.dp hn (fun a ha => hb a (by simp [ha])) h5)
  | [], [], _ :: _, _, h => by cases h
  | [], _ :: _, _, _, h => by cases h
  | _ :: _, [], _, _, h => by cases h
  | _ :: _, _ :: _, [], _, h => by cases h
theorem RowsOk.append {v : V} {b : Addr} {ys : List V} {es : List D} (hv : v = .ref b) (h1 : H b = some (.lst ys)) (h2 : DpAll K F ys es) : ∀ {xs : List V} {bs : List Addr} {ds : List D}, RowsOk K F H xs bs ds → RowsOk K F H (xs ++ [v]) (bs ++ [b]) (ds ++ [.list es])
  | [], [], [], _ => ⟨⟨ys, es, hv, rfl, h1, h2⟩, trivial⟩
  | x :: xs, c :: bs, d :: ds, h => ⟨h.1, RowsOk.append hv h1 h2 h.2⟩
  | [], [], _ :: _, h => by cases h
  | [], _ :: _, _, h => by cases h
  | _ :: _, [], _, h => by cases h
  | _ :: _, _ :: _, [], h => by cases h
theorem RowsOk.get : ∀ {xs : List V} {bs : List Addr} {ds : List D} {n : Nat} {d : D}, RowsOk K F H xs bs ds → ds[n]? = some d → ∃ b ys es, xs[n]? = some (.ref b) ∧ bs[n]? = some b ∧ d = .list es ∧ H b = some (.lst ys) ∧ DpAll K F ys es
  | [], [], [], _, _, _, e => by simp at e
  | x :: xs, b :: bs, d :: ds, 0, d', h, e => by
    obtain ⟨⟨ys, es, h1, h2, h3, h4⟩, _⟩ := h
    simp at e; subst e
    exact ⟨b, ys, es, by simp [h1], rfl, h2, h3, h4⟩
  | x :: xs, b :: bs, d :: ds, n + 1, d', h, e => by
    obtain ⟨c, ys, es, h1, h2, h3⟩ := RowsOk.get (n := n) (d := d') h.2 (by simpa using e)
    exact ⟨c, ys, es, by simpa using h1, by simpa using h2, h3⟩
  | [], [], _ :: _, _, _, h, _ => by cases h
  | [], _ :: _, _, _, _, h, _ => by cases h
  | _ :: _, [], _, _, _, h, _ => by cases h
  | _ :: _, _ :: _, [], _, _, h, _ => by cases h
theorem RowsOk.set {ys : List V} {es : List D} (h2 : DpAll K F ys es) : ∀ {xs : List V} {bs : List Addr} {ds : List D} {n : Nat} {b : Addr}, bs.Nodup → RowsOk K F H xs bs ds → bs[n]? = some b → RowsOk K F (upd H b (.lst ys)) xs bs (ds.set n (.list es))
  | [], [], [], _, _, _, _, e => by simp at e
  | x :: xs, c :: bs, d :: ds, 0, b, nd, h, e => by
    simp at e; subst e
    obtain ⟨⟨ys', es', h1, _, _, _⟩, h5⟩ := h
    exact ⟨⟨ys, es, h1, rfl, upd_same, h2⟩, RowsOk.mono (Same.refl F) (fun a ha => upd_ne fun z => (List.nodup_cons.mp nd).1 (z ▸ ha)) h5⟩
  | x :: xs, c :: bs, d :: ds, n + 1, b, nd, h, e => by
    have e' : bs[n]? = some b := by simpa using e
    obtain ⟨⟨ys', es', h1, h2', h3, h4⟩, h5⟩ := h
    refine ⟨⟨ys', es', h1, h2', ?_, h4⟩, RowsOk.set h2 (List.nodup_cons.mp nd).2 h5 e'⟩
    have ne : c ≠ b := fun z => (List.nodup_cons.mp nd).1 (by rw [z]; exact List.mem_of_getElem? e')
    rw [upd_ne ne]
    exact h3
  | [], [], _ :: _, _, _, _, h, _ => by cases h
  | [], _ :: _, _, _, _, _, h, _ => by cases h
  | _ :: _, [], _, _, _, _, h, _ => by cases h
  | _ :: _, _ :: _, [], _, _, _, h, _ => by cases h
def OwnR (K : PySem.W.Frag) (F H : Hp) (x : V) (as : List Addr) (d : D) : Prop := ∃ a xs bs ds, d = .list ds ∧ x = .ref a ∧ as = a :: bs ∧ H a = some (.lst xs) ∧ RowsOk K F H xs bs ds
def cRows (d : D) : Cell K := ⟨fun F H v as => ∃ x, v = some x ∧ OwnR K F H x as d,
  fun s e ⟨x, h1, a, xs, bs, ds, h2, h3, h4, h5, h6⟩ => ⟨x, h1, a, xs, bs, ds, h2, h3, h4, by rw [e a (by rw [h4]; simp)]; exact h5, h6.mono s fun b hb => e b (by rw [h4]; simp [hb])⟩,
  fun ⟨x, h1, a, xs, bs, ds, h2, h3, h4, h5, h6⟩ b hb => by
    rw [h4] at hb
    rcases List.mem_cons.mp hb with rfl | hb
    · rw [h5]; exact fun z => nomatch z
    · exact h6.there b hb⟩
theorem nodup_of_flatten : ∀ {ass : List (List Addr)} {i : Nat} {as : List Addr}, ass.flatten.Nodup → ass[i]? = some as → as.Nodup
  | [], _, _, _, e => by simp at e
  | bs :: ass, 0, as, h, e => by
    simp at e; subst e
    rw [List.flatten_cons] at h
    exact (List.nodup_append.mp h).1
  | bs :: ass, i + 1, as, h, e => by
    rw [List.flatten_cons] at h
    exact nodup_of_flatten (i := i) (List.nodup_append.mp h).2.1 (by simpa using e)
/-- what slot i owns is frozen, whatever kind it is -/
theorem wk_fzG {ρ : Env K} (i : Nat) {d : D} {c : Cell K} (hc : ∀ {F H : Hp} {v : Option V} {as : List Addr}, c.P F H v as → (∀ a ∈ as, F a = none) → ∃ y, v = some y ∧ Dp K (fz as F H) y d) (h : ρ[i]? = some c) : Wk ρ (ρ.set i (cVal d)) := fun B H0 F H σ ⟨e, f, ass, h1, h2, h3⟩ => by
  obtain ⟨v, as, g1, g2, g4⟩ := h1.get h
  have sub : ∀ a ∈ as, a ∈ ass.flatten := fun a ha => List.mem_flatten.mpr ⟨as, List.mem_of_getElem? g2, ha⟩
  have hn : ∀ a ∈ as, F a = none := fun a ha => (h3 a (sub a ha)).1
  obtain ⟨y, rfl, g5⟩ := hc g4 hn
  have out : ∀ a ∈ (ass.set i []).flatten, a ∈ ass.flatten ∧ a ∉ as := fun a ha => by
    rcases mem_flatten_set ha with z | z
    · exact ⟨z, fun q => not_in_set h2 g2 q (List.not_mem_nil) ha⟩
    · cases z
  refine ⟨fz as F H, fz_ff hn, ⟨e.ff.trans (fz_ff hn), e.hh, fun a ha => ?_⟩, fz_fh f, ass.set i [], ?_, nodup_flatten_set' h2 g2 List.nodup_nil (fun _ z => nomatch z), fun a ha => ?_⟩
  · rw [fz_out fun z => ha (h3 a (sub a z)).2, e.eq a ha]
  · have s2 : Slots (fz as F H) H ρ σ ass := h1.mono (fz_ff hn) fun _ _ => rfl
    have s3 := Slots.set (i := i) (c := cVal d) (v := some y) (as := []) s2 ⟨rfl, y, rfl, g5⟩
    rwa [set_self g1] at s3
  · obtain ⟨z1, z2⟩ := out a ha
    rw [fz_out z2]
    exact h3 a z1
theorem wk_fzM {ρ : Env K} (i : Nat) {d : D} (h : ρ[i]? = some (cRows d)) : Wk ρ (ρ.set i (cVal d)) :=
  wk_fzG (c := cRows d) i (fun {F H v as} hP hn => by
    obtain ⟨x, h1, a, xs, bs, ds, h2, h3, h4, h5, h6⟩ := hP
    subst h2; subst h3
    exact ⟨_, h1, .lst (SqL.of (by rw [fz_in (by rw [h4]; simp)]; exact h5)) (RowsOk.dp hn (fun b hb => by rw [h4]; simp [hb]) h6)⟩) h
end
/-- what is looked at with slots frozen for a while -/
theorem Kn.thaw {α β : Type} {X : Cx} {W : WX} {F F1 H : Hp} {σ : St} {r : Res α} {A A' : Hp → Hp → Hp → α → β → Prop} {Q : β → Hp → Prop} (fh : Same F H) (h : Kn X W F H σ r A Q)
    (ha : ∀ a b F' F'' H', A' H F' H' a b → A H F'' H' a b) : Kn X W F1 H σ r A' Q := by
  refine ⟨h.ns, fun a ea b F' H' x s q => ?_, h.xc⟩
  refine h.ok a ea b (fun p => match H p with | some _ => F p | none => F' p) H' ⟨fun p o e => ?_, x.hh, fun p hp => ?_⟩ (fun p o e => ?_) (ha a b F' _ H' q)
  · show (match H p with | some _ => F p | none => F' p) = some o
    rw [fh p o e]; exact e
  · show (match H p with | some _ => F p | none => F' p) = F p
    cases z : H p with
    | none => exact absurd z hp
    | some u => rfl
  · have e : (match H p with | some _ => F p | none => F' p) = some o := e
    cases z : H p with
    | none => rw [z] at e; exact s p o e
    | some u => rw [z] at e; rw [x.hh p u z, ← z]; exact fh p o e
def atomV : D → Res D
  | .none => .ok .none
  | .bool b => .ok (.bool b)
  | .int i => .ok (.int i)
  | .str x => .ok (.str x)
  | _ => .stuck
theorem atomV_ok {d a : D} (h : atomV d = .ok a) : a = d ∧ ∀ (K : PySem.W.Frag) F F' v, Dp K F v d → Dp K F' v d := by
  cases d <;> first | (cases h; done) | skip
  all_goals
    cases h
    refine ⟨rfl, fun K F F' v q => ?_⟩
    cases q
    constructor
section
variable {X : Cx} {W : WX} {rk m : Md} {ρ ρ' : Env X.K} {S T : Type} {st : Stmt} {ss rest body : List Stmt} {e c e1 e2 ev : Expr} {r ra rv r1 r2 : Res D} {rc : Res Bool} {rs : Res (List D)} {fin : T → Fin X.K} {pos : Pos} {vs : List Nat}
theorem tg_thaw (w : Wk ρ ρ') (h : TG' X W ρ' e rc) : TG' X W ρ e rc := by
  obtain ⟨t, h1, h2⟩ := h
  refine ⟨t, h1, fun B H0 F H σ Q g k => ?_⟩
  obtain ⟨F1, s1, g1⟩ := w B H0 F H σ g
  exact h2 B H0 F1 H σ Q g1 (k.thaw g.fh fun _ _ _ _ _ q => q)
theorem eg_thaw (w : Wk ρ ρ') (h : EG X W ρ' .V e r) : EG X W ρ .V e (r.bd atomV) := by
  obtain ⟨t, h1, h2⟩ := h
  refine ⟨t, h1, fun B H0 F H σ Q g k => ?_⟩
  obtain ⟨F1, s1, g1⟩ := w B H0 F H σ g
  refine h2 B H0 F1 H σ Q g1 (Kn.bd (A1 := fun H F' H' d v => Dp X.K F' v d) (Q1 := Q) (k.thaw g.fh (A' := fun H F' H' d v => ∃ u, atomV d = .ok u ∧ Dp X.K F' v d) fun d v F' F'' H' ⟨u, q1, q2⟩ => (atomV_ok q1).2 _ _ _ _ q2) (fun _ _ _ _ _ _ _ q => q) fun a b F2 H2 ea x s q kk => ?_)
  cases c : atomV a with
  | ok u =>
    rw [c] at kk
    obtain ⟨z1, z2⟩ := atomV_ok c
    subst z1
    exact kk.ret (Ex.refl _ _) s ⟨_, c, q⟩
  | exc n => cases a <;> cases c
  | stuck => rw [c] at kk; exact absurd rfl kk.ns
theorem Good.rows {K : PySem.W.Frag} {B H0 F H : Hp} {ρ : Env K} {σ : St} {i : Nat} {d : D} (g : Good B H0 F H ρ σ) (h : ρ[i]? = some (cRows d)) :
    ∃ a xs bs ds, d = .list ds ∧ σ[i]? = some (some (.ref a)) ∧ H a = some (.lst xs) ∧ RowsOk K F H xs bs ds ∧
      ∀ n b ys es, bs[n]? = some b → DpAll K F ys es → Good B H0 F (upd H b (.lst ys)) (ρ.set i (cRows (.list (ds.set n (.list es))))) σ := by
  obtain ⟨e, f, ass, h1, h2, h3⟩ := g
  obtain ⟨v, as, g1, g2, y, rfl, a, xs, bs, ds, rfl, rfl, rfl, q1, q2⟩ := h1.get h
  refine ⟨a, xs, bs, ds, rfl, g1, q1, q2, fun n b ys es hb q => ?_⟩
  have hm : b ∈ a :: bs := List.mem_cons_of_mem _ (List.mem_of_getElem? hb)
  have ha : b ∈ ass.flatten := List.mem_flatten.mpr ⟨_, List.mem_of_getElem? g2, hm⟩
  have nd := nodup_of_flatten h2 g2
  have s3 := Slots.set (i := i) (c := (cAny : Cell K)) (v := some (V.ref a)) (as := []) h1 rfl
  rw [set_self g1] at s3
  have na : b ∉ (ass.set i []).flatten := not_in_set h2 g2 hm List.not_mem_nil
  have s4 : Slots F (upd H b (.lst ys)) (ρ.set i cAny) σ (ass.set i []) := s3.mono (Same.refl F) fun c hc => upd_ne fun z => na (z ▸ hc)
  have ab : a ≠ b := fun z => (List.nodup_cons.mp nd).1 (z ▸ List.mem_of_getElem? hb)
  have s5 := Slots.set (i := i) (c := (cRows (.list (ds.set n (.list es))) : Cell K)) (v := some (V.ref a)) (as := a :: bs) s4 ⟨.ref a, rfl, a, xs, bs, _, rfl, rfl, rfl, by rw [upd_ne ab]; exact q1, RowsOk.set q (List.nodup_cons.mp nd).2 q2 hb⟩
  rw [set_self g1, List.set_set, List.set_set, set_self g2] at s5
  refine ⟨⟨e.ff, fun c o hc => ?_, e.eq⟩, Same.updO f (h3 b ha).1, ass, s5, h2, h3⟩
  rw [upd_ne (fun z => by rw [z, (h3 b ha).2] at hc; cases hc)]
  exact e.hh c o hc
theorem Good.appR {K : PySem.W.Frag} {B H0 F H F' H' : Hp} {ρ : Env K} {σ : St} {i : Nat} {ds es : List D} {v : V} (g : Good B H0 F H ρ σ) (h : ρ[i]? = some (cRows (.list ds))) (x : Ex F H F' H') (s : Same F' H') (a : Acc K .O H F' H' (.list es) v) :
    ∃ p xs, σ[i]? = some (some (.ref p)) ∧ H' p = some (.lst xs) ∧ xs.length = ds.length ∧ Good B H0 F' (upd H' p (.lst (xs ++ [v]))) (ρ.set i (cRows (.list (ds ++ [.list es])))) σ := by
  obtain ⟨as', hr, hn⟩ := a
  rcases hr with ⟨_, z, b, zs, rfl, rfl, r1, r2⟩ | ⟨z, _⟩
  case inr => cases z
  cases z
  obtain ⟨e, f, ass, h1, h2, h3⟩ := g
  have th := h1.there
  have hb := hn b (by simp)
  obtain ⟨v', as, g1, g2, y, rfl, p, xs, bs, ds', z, rfl, rfl, q1, q2⟩ := h1.get h
  cases z
  have inn : ∀ c ∈ p :: bs, c ∈ ass.flatten := fun c hc => List.mem_flatten.mpr ⟨_, List.mem_of_getElem? g2, hc⟩
  have nd := nodup_of_flatten h2 g2
  have nb : b ∉ ass.flatten := fun hm => th b hm hb.1
  have h1' : Slots F' H' ρ σ ass := h1.mono x.ff fun c hc => Same.ne x.hh (th c hc)
  have h3' : ∀ c ∈ ass.flatten, F' c = none ∧ H0 c = none := fun c hc => ⟨by rw [x.eq c (th c hc)]; exact (h3 c hc).1, (h3 c hc).2⟩
  have q1' : H' p = some (.lst xs) := x.hh _ _ q1
  have q2' : RowsOk K F' H' xs bs ds := q2.mono x.ff fun c hc => Same.ne x.hh (th c (inn c (List.mem_cons_of_mem _ hc)))
  refine ⟨p, xs, g1, q1', q2.len.1, ?_⟩
  have s3 := Slots.set (i := i) (c := (cAny : Cell K)) (v := some (V.ref p)) (as := []) h1' rfl
  rw [set_self g1] at s3
  have na : p ∉ (ass.set i []).flatten := not_in_set h2 g2 (by simp) List.not_mem_nil
  have s4 : Slots F' (upd H' p (.lst (xs ++ [.ref b]))) (ρ.set i cAny) σ (ass.set i []) := s3.mono (Same.refl F') fun c hc => upd_ne fun z => na (z ▸ hc)
  have bp : b ≠ p := fun z => nb (z ▸ inn p (by simp))
  have q3 : RowsOk K F' (upd H' p (.lst (xs ++ [.ref b]))) xs bs ds := q2'.mono (Same.refl F') fun c hc => upd_ne fun z => (List.nodup_cons.mp nd).1 (z ▸ hc)
  have s5 := Slots.set (i := i) (c := (cRows (.list (ds ++ [.list es])) : Cell K)) (v := some (V.ref p)) (as := p :: (bs ++ [b])) s4 ⟨.ref p, rfl, p, _, bs ++ [b], _, rfl, rfl, rfl, upd_same, RowsOk.append rfl (by rw [upd_ne bp]; exact r1) r2 q3⟩
  rw [set_self g1, List.set_set, List.set_set] at s5
  have H0p := (h3 p (inn p (by simp))).2
  refine ⟨⟨e.ff.trans x.ff, fun c o hc => ?_, fun c hc => ?_⟩, Same.updO s (h3' p (inn p (by simp))).1, _, s5, nodup_flatten_set' h2 g2 ?_ fun c hc => ?_, fun c hc => ?_⟩
  · rw [upd_ne (fun z => by rw [z, H0p] at hc; cases hc)]
    exact x.hh c o (e.hh c o hc)
  · rw [x.eq c (Same.ne' e.hh hc), e.eq c hc]
  · refine List.nodup_cons.mpr ⟨fun hm => ?_, List.nodup_append.mpr ⟨(List.nodup_cons.mp nd).2, by simp, fun c hc c' hc' z => ?_⟩⟩
    · rcases List.mem_append.mp hm with hm | hm
      · exact (List.nodup_cons.mp nd).1 hm
      · exact bp (List.mem_singleton.mp hm).symm
    · rw [List.mem_singleton.mp hc'] at z
      exact nb (z ▸ inn c (List.mem_cons_of_mem _ hc))
  · rcases List.mem_cons.mp hc with rfl | hc
    · exact .inl (by simp)
    · rcases List.mem_append.mp hc with hc | hc
      · exact .inl (by simp [hc])
      · rw [List.mem_singleton.mp hc]; exact .inr nb
  · rcases mem_flatten_set hc with z | z
    · exact h3' c z
    · rcases List.mem_cons.mp z with rfl | z
      · exact h3' _ (inn _ (by simp))
      · rcases List.mem_append.mp z with z | z
        · exact h3' c (inn c (List.mem_cons_of_mem _ z))
        · rw [List.mem_singleton.mp z]; exact ⟨hb.2, Same.free e.hh hb.1⟩
def rowAt (ds : List D) (k1 : D) : Res (Nat × List D) := match k1 with
  | .int k => match L2.ixN ds.length k with
    | some n => match ds[n]? with
      | some (.list es) => .ok (n, es)
      | _ => .stuck
    | none => .stuck
  | _ => .stuck
def set2 (ds : List D) (p : Nat × List D) (k2 v : D) : Res D := (setL p.2 k2 v).bd fun row => .ok (.list (ds.set p.1 row))
theorem setL_ns {es : List D} {k v : D} (h : setL es k v ≠ .stuck) : ∃ i j, k = .int i ∧ L2.ixN es.length i = some j ∧ setL es k v = .ok (.list (es.set j v)) := by
  cases k <;> first | exact absurd rfl h | skip
  rename_i i
  cases c : L2.ixN es.length i with
  | none => exact absurd (by simp only [setL, c]) h
  | some j => exact ⟨i, j, rfl, c, by simp only [setL, c]⟩
theorem rowAt_ns {ds : List D} {k1 : D} (h : rowAt ds k1 ≠ .stuck) : ∃ i n es, k1 = .int i ∧ L2.ixN ds.length i = some n ∧ ds[n]? = some (.list es) ∧ rowAt ds k1 = .ok (n, es) := by
  cases k1 <;> first | exact absurd rfl h | skip
  rename_i i
  cases c : L2.ixN ds.length i with
  | none => exact absurd (by simp only [rowAt, c]) h
  | some n =>
    cases c2 : ds[n]? with
    | none => exact absurd (by simp only [rowAt, c, c2]) h
    | some d =>
      cases d with
      | list es => exact ⟨i, n, es, rfl, c, c2, by simp only [rowAt, c, c2]⟩
      | _ => exact absurd (by simp only [rowAt, c, c2]) h
/-- x[i][j] = v -/
theorem s1_store2 [C : Ctx X W] {x : Str} {p2 p3 p4 : Pos} {d0 : D} (i : Nat) (hρ : ρ[i]? = some (cRows d0)) (hv' : EG X W ρ .V ev rv) (hi1 : EG X W ρ .T e1 r1) (hi2 : EG X W ρ .T e2 r2) (hN : X.N[i]? = some x := by rfl) (hv : Vis X.env.scope x := by first | exact Or.inl rfl | exact Or.inr (Or.inl rfl) | exact Or.inr (Or.inr rfl))
    (hd : (x == ("__debug__" : Str)) = false := by decide) (hcd : (x == ("__classdict__" : Str)) = false := by decide) (hpx : PlainIx e1 := by exact fun _ _ => rfl)
    (ha : ∀ v, assign (.Subscript (.Subscript (.Name x p2) e1 p4) e2 p3) X.env v = (do
      let ov ← holding [v] (eval (.Subscript (.Name x p2) e1 p4) X.env)
      let iv ← holding [v, ov] (eval e2 X.env)
      standAt p3
      holding [v, ov, iv] (setItem ov iv v)
      release [v, ov, iv] []) := by intro _; rfl)
    (hs : swapsWithSole [.Subscript (.Subscript (.Name x p2) e1 p4) e2 p3] ev pos.line X.env = pure false := by rfl) (hw : swappedStores [.Subscript (.Subscript (.Name x p2) e1 p4) e2 p3] ev X.env = pure none := by rfl)
    (h1 : (assignEach [.Subscript (.Subscript (.Name x p2) e1 p4) e2 p3] X.env).map (·.2) = [assign (.Subscript (.Subscript (.Name x p2) e1 p4) e2 p3) X.env] := by rfl) :
    S1 X W rk ρ (.Assign [.Subscript (.Subscript (.Name x p2) e1 p4) e2 p3] ev pos) (onL d0 fun ds => rv.bd fun v => r1.bd fun k1 => (rowAt ds k1).bd fun p => r2.bd fun k2 => set2 ds p k2 v) (fun d => .nx (ρ.set i (cRows d))) := by
  obtain ⟨tv, v1, v2⟩ := hv'
  obtain ⟨t1, i1, i2⟩ := hi1
  obtain ⟨t2, j1, j2⟩ := hi2
  refine ⟨_, ps_asg v1 (pg_sub (pe_ix ix_list (pe_var hN hv hd hcd) i1 hpx) j1 set_list ha) hs hw h1, fun B H0 F H σ D g q => ?_⟩
  obtain ⟨ds, rfl⟩ := onL_ns q.ns
  rw [onL_list] at q
  refine v2 B H0 F H σ _ g (KS.kn g q fun d v F1 H1 _ x s ac g' q' => ?_)
  obtain ⟨a, xs, bs, ds', z, o1, o2, o3, o4⟩ := g'.rows hρ
  cases z
  refine ⟨_, o1, i2 B H0 F1 H1 σ _ g' (KS.kn g' q' fun k w F2 H2 _ x2 s2 ac2 g2 q2 => ?_)⟩
  obtain ⟨a', xs', bs', ds', z, p1, p2, p3, p4⟩ := g2.rows hρ
  cases z
  rw [o1] at p1
  cases p1
  obtain ⟨i1, n, es, rfl, c1, c2, c3⟩ := rowAt_ns fun z => q2.ns (by rw [z]; rfl)
  cases tp_int ac2
  obtain ⟨b, ys, es', w1, w2, w3, w4, w5⟩ := p3.get c2
  cases w3
  have q3 := q2.of_eq (r' := r2.bd fun k2 => set2 ds (n, es) k2 d) (by rw [c3]; rfl)
  refine ⟨a, xs', i1, .ref b, rfl, rfl, SqL.of p2, ?_, j2 B H0 F2 H2 σ _ g2 (KS.kn g2 q3 fun k2 w' F3 H3 _ x3 s3 ac3 g3 q4 => ?_)⟩
  · unfold L2.atI
    rw [p3.len.1, c1]
    exact w1
  obtain ⟨j, m', rfl, c4, c5⟩ := setL_ns fun z => q4.ns (by unfold set2; rw [z]; rfl)
  cases tp_int ac3
  obtain ⟨a'', xs'', bs'', ds'', z, y1, y2, y3, y4⟩ := g3.rows hρ
  cases z
  rw [o1] at y1
  cases y1
  obtain ⟨b', ys', es'', u1, u2, u3, u4, u5⟩ := y3.get c2
  cases u3
  have hb : b' = b := by
    have e1 : H3 a = some (.lst xs') := x3.hh _ _ p2
    rw [y2] at e1
    cases e1
    rw [u1] at w1
    cases w1
    rfl
  subst hb
  have q5 := q4.of_eq (r' := .ok (.list (ds.set n (.list (es.set m' d))))) (by unfold set2; rw [c5]; rfl)
  refine ⟨b', ys', j, m', rfl, rfl, u4, by rw [DpAll.length u5]; exact c4, ?_⟩
  exact q5.ok _ rfl F3 _ _ (y4 n b' _ _ u2 (DpAll.set (Dp.mono (x2.ff.trans x3.ff) _ _ ac) _ u5))
/-- x.append(a list of one's own) -/
theorem s1_appendM [C : Ctx X W] {x : Str} {p2 apos cpos : Pos} {d0 : D} (i : Nat) (hρ : ρ[i]? = some (cRows d0)) (he : EG X W ρ .O e r) (hN : X.N[i]? = some x := by rfl) (hv : Vis X.env.scope x := by first | exact Or.inl rfl | exact Or.inr (Or.inl rfl) | exact Or.inr (Or.inr rfl))
    (hd : (x == ("__debug__" : Str)) = false := by decide) (hcd : (x == ("__classdict__" : Str)) = false := by decide)
    (hbase : attributeBase (.Name x p2) "append" X.env (eval (.Name x p2) X.env) = eval (.Name x p2) X.env := by rfl)
    (hfew : ((backTo cpos (starEach [e] X.env)).all (fun x => !x.1) && (backToKw cpos (keywordEach [] X.env)).all (fun x => x.1.isSome) && decide (([e] : List Expr).length + ([] : List Keyword).length + (if ([] : List Keyword).isEmpty then 0 else 1) < 30)) = true := by rfl)
    (hline : (apos.endLine == cpos.line) = true := by rfl) (hs : starEach [e] X.env = (false, eval e X.env) :: starEach [] X.env := by rfl) (hplain : (backTo cpos (starEach [] X.env)).any (·.1) = false := by rfl)
    (hsw : swapsWith (.Call (.Attribute (.Name x p2) "append" apos) [e] [] cpos) none pos.line X.env = pure false := by rfl) :
    S1 X W rk ρ (.Expr (.Call (.Attribute (.Name x p2) "append" apos) [e] [] cpos) pos) (onL d0 fun ds => r.bd fun d => onL d fun _ => app1 ds d) (fun d => .nx (ρ.set i (cRows d))) := by
  obtain ⟨t, h1, h2⟩ := he
  refine ⟨_, ps_expr (pe_bm PySem.F.plainAttrs_list PySem.F.slot_list_append PySem.F.type_list_append mt_append (pe_var hN hv hd hcd) (pa_cons h1 pa_nil hs) hbase hfew hline hs hplain) hsw, fun B H0 F H σ D g q => ?_⟩
  obtain ⟨ds, rfl⟩ := onL_ns q.ns
  rw [onL_list] at q
  obtain ⟨a, xs, bs, ds', z, o1, o2, o3, o4⟩ := g.rows hρ
  cases z
  refine ⟨_, o1, .inl ⟨rfl, _, SqL.of o2⟩, h2 B H0 F H σ _ g (KS.kn g q fun d v F1 H1 _ x s ac g' q' => ?_)⟩
  obtain ⟨es, rfl⟩ := onL_ns q'.ns
  obtain ⟨a', xs', p1, p2, p3, p4⟩ := g.appR hρ x s ac
  rw [o1] at p1
  cases p1
  cases c : decide (ds.length < 16777216) with
  | false => exact absurd (by simp only [onL_list, app1, c]; rfl) q'.ns
  | true =>
    have q2 := q'.of_eq (r' := .ok (.list (ds ++ [.list es]))) (by simp only [onL_list, app1, c]; rfl)
    refine ⟨a, xs', v, rfl, rfl, p2, by rw [p3, PySem.sizeLine_eq]; exact of_decide_eq_true c, ?_⟩
    exact q2.ok _ rfl F1 _ _ p4
/-- an empty list, to be filled with lists of one's own -/
def emptyV : D → Res D
  | .list [] => .ok (.list [])
  | _ => .stuck
theorem s1_newM [C : CtxB X W] {x : Str} {pos' : Pos} (i : Nat) (he : EG X W ρ .O e r) (hi : X.N[i]? = some x := by rfl) (hx : Loc X.env.scope x := by first | exact Or.inl rfl | exact Or.inr rfl) (hs : swapsWith e (some (.Name x pos')) pos.line X.env = pure false := by rfl) (hf : X.fn x = true ∨ X.env.scope.names.lookup x = some .local := by first | exact .inl rfl | exact .inr rfl) :
    S1 X W rk ρ (.Assign [.Name x pos'] e pos) (r.bd emptyV) (fun d => .nx (ρ.set i (cRows d))) := by
  obtain ⟨t, h1, h2⟩ := he
  refine ⟨_, ps_set C.nd hi hx h1 hs hf, fun B H0 F H σ D g q => h2 B H0 F H σ _ g ⟨fun z => q.ns (by rw [z]; rfl), fun d ed v F' H' x s a => ?_, fun n en H' C c s => q.xc n (by rw [en]; rfl) H' C σ c (g.ex.hh.trans s)⟩⟩
  have hd : d = .list [] := by
    cases d <;> first | exact absurd (by rw [ed]; rfl) q.ns | skip
    rename_i ds
    cases ds with
    | nil => rfl
    | cons _ _ => exact absurd (by rw [ed]; rfl) q.ns
  subst hd
  have g2 := g.setO (i := i) x s a
  refine q.ok (.list []) (by rw [ed]; rfl) F' H' _ ?_
  obtain ⟨as, r, hn⟩ := a
  rcases r with ⟨_, z, b, zs, rfl, rfl, r1, r2⟩ | ⟨z, _⟩
  · cases z
    cases r2
    obtain ⟨e, f, ass, h1, h2, h3⟩ := id g
    have th := h1.there
    have h1' : Slots F' H' ρ σ ass := h1.mono x.ff fun a ha => Same.ne x.hh (th a ha)
    refine ⟨e.trans x, s, ass.set i [b], h1'.set (c := cRows (.list [])) ⟨.ref b, rfl, b, [], [], [], rfl, rfl, rfl, r1, trivial⟩, nodup_flatten_set h2 (by simp) fun c hc hm => th c hm (hn c hc).1, fun c hc => ?_⟩
    rcases mem_flatten_set hc with z | z
    · rw [x.eq c (th c z)]; exact h3 c z
    · exact ⟨(hn c z).2, Same.free e.hh (hn c z).1⟩
  · cases z
end
end DL
/-! Pairs whose second one is a list of one's own. -/
namespace DL
open PySem L2
section
variable {K : PySem.W.Frag} {F F' H H' : Hp}
theorem TupL.mono {x : V} {as : List Addr} {d : D} (s : Same F F') (e : ∀ a ∈ as, H' a = H a) (h : TupL K F H x as d) : TupL K F' H' x as d := by
  rcases h with ⟨a, b, v1, d1, ys, ds, rfl, rfl, rfl, h0, h1, h2, h3, h4⟩ | ⟨h1, h2, h3⟩
  · exact .inl ⟨a, b, v1, d1, ys, ds, rfl, rfl, rfl, h0, by rw [e a (by simp)]; exact h1, Dp.mono s _ _ h2, by rw [e b (by simp)]; exact h3, DpAll.mono s _ _ h4⟩
  · exact .inr ⟨h1, h2, Dp.mono s _ _ h3⟩
theorem TupL.there {x : V} {as : List Addr} {d : D} (h : TupL K F H x as d) : ∀ a ∈ as, H a ≠ none := fun c hc => by
  rcases h with ⟨a, b, v1, d1, ys, ds, rfl, rfl, rfl, h0, h1, h2, h3, h4⟩ | ⟨h1, rfl, h3⟩
  · rcases List.mem_cons.mp hc with rfl | hc
    · rw [h1]; exact fun z => nomatch z
    · rw [List.mem_singleton.mp hc, h3]; exact fun z => nomatch z
  · cases hc
theorem TupL.nd {x : V} {as : List Addr} {d : D} (h : TupL K F H x as d) : as.Nodup := by
  rcases h with ⟨a, b, v1, d1, ys, ds, rfl, rfl, rfl, h0, _⟩ | ⟨_, rfl, _⟩
  · simpa using h0
  · simp
theorem TupL.fz {x : V} {as : List Addr} {d : D} (hn : ∀ a ∈ as, F a = none) (h : TupL K F H x as d) : Dp K (fz as F H) x d := by
  rcases h with ⟨a, b, v1, d1, ys, ds, rfl, rfl, rfl, h0, h1, h2, h3, h4⟩ | ⟨h1, rfl, h3⟩
  · refine .tup (SqT.of (by rw [fz_in (by simp)]; exact h1)) (.cons (Dp.mono (fz_ff hn) _ _ h2) (.cons (.lst (SqL.of (by rw [fz_in (by simp)]; exact h3)) (DpAll.mono (fz_ff hn) _ _ h4)) .nil))
  · exact Dp.mono (fz_ff hn) _ _ h3
def cTup (d : D) : Cell K := ⟨fun F H v as => ∃ x, v = some x ∧ TupL K F H x as d, fun s e ⟨x, h1, h2⟩ => ⟨x, h1, h2.mono s e⟩, fun ⟨x, _, h2⟩ => h2.there⟩
theorem wk_fzP {ρ : Env K} (i : Nat) {d : D} (h : ρ[i]? = some (cTup d)) : Wk ρ (ρ.set i (cVal d)) :=
  wk_fzG (c := cTup d) i (fun {F H v as} hP hn => by
    obtain ⟨x, h1, h2⟩ := hP
    exact ⟨x, h1, h2.fz hn⟩) h
theorem Good.setP {B H0 : Hp} {ρ : Env K} {σ : St} {d : D} {v : V} {i : Nat} (g : Good B H0 F H ρ σ) (x : Ex F H F' H') (s : Same F' H') (a : Acc K .P H F' H' d v) : Good B H0 F' H' (ρ.set i (cTup d)) (σ.set i (some v)) := by
  obtain ⟨as, r, hn⟩ := a
  obtain ⟨e, f, ass, h1, h2, h3⟩ := id g
  have th := h1.there
  have h1' : Slots F' H' ρ σ ass := h1.mono x.ff fun a ha => Same.ne x.hh (th a ha)
  refine ⟨e.trans x, s, ass.set i as, h1'.set (c := cTup d) ⟨v, rfl, r⟩, nodup_flatten_set h2 r.nd fun b hb hm => th b hm (hn b hb).1, fun b hb => ?_⟩
  rcases mem_flatten_set hb with z | z
  · rw [x.eq b (th b z)]; exact h3 b z
  · exact ⟨(hn b z).2, Same.free e.hh (hn b z).1⟩
end
section
variable {X : Cx} {W : WX} {rk m : Md} {ρ ρ' : Env X.K} {S T : Type} {st : Stmt} {ss rest body : List Stmt} {e c a b e1 e2 ev : Expr} {r ra rb rv r1 r2 : Res D} {rc : Res Bool} {rs : Res (List D)} {fin : T → Fin X.K} {pos p : Pos} {vs : List Nat}
theorem EG.pv (h : EG X W ρ .P e r) : EG X W ρ .V e r := by
  obtain ⟨t, h1, h2⟩ := h
  refine ⟨t, h1, fun B H0 F H σ Q g k => h2 B H0 F H σ Q g ⟨k.ns, fun d ed v F' H' x s ⟨as, q, hn⟩ => ?_, k.xc⟩⟩
  have hf : ∀ a ∈ as, F' a = none := fun a ha => (hn a ha).2
  refine k.ok d ed v (fz as F' H') H' ⟨x.ff.trans (fz_ff hf), x.hh, fun a ha => ?_⟩ (fz_fh s) (q.fz hf)
  rw [fz_out fun z => ha (hn a z).1, x.eq a ha]
theorem EG.pt (h : EG X W ρ .P e r) : EG X W ρ .T e r := h.pv.vt
def flatP (d : D) : Res D := if isPair d then .stuck else .ok d
theorem EG.vp (h : EG X W ρ .V e r) : EG X W ρ .P e (r.bd flatP) := by
  obtain ⟨t, h1, h2⟩ := h
  refine ⟨t, h1, fun B H0 F H σ Q g k => h2 B H0 F H σ Q g ⟨fun z => k.ns (by rw [z]; rfl), fun d ed v F' H' x s q => ?_, fun n en => k.xc n (by rw [en]; rfl)⟩⟩
  cases c : isPair d with
  | true => exact absurd (by rw [ed]; show flatP d = .stuck; unfold flatP; rw [c]; rfl) k.ns
  | false => exact k.ok d (by rw [ed]; show flatP d = .ok d; unfold flatP; rw [c]; rfl) v F' H' x s ⟨[], .inr ⟨c, rfl, q⟩, fun _ z => nomatch z⟩
/-- (a, a list of one's own) -/
theorem eg_tupP {x1} (ha : EG X W ρ .V a ra) (hb : EG X W ρ .O b rb) (hs : starEach [a, b] X.env = (false, eval a X.env) :: starEach [b] X.env := by rfl) (hs2 : starEach [b] X.env = (false, eval b X.env) :: starEach [] X.env := by rfl) :
    EG X W ρ .P (.Tuple [a, b] x1 pos) (ra.bd fun x => rb.bd fun y => onL y fun _ => .ok (.tuple [x, y])) := by
  obtain ⟨ta, a1, a2⟩ := ha
  obtain ⟨tb, b1, b2⟩ := hb
  refine ⟨_, pe_tup (pa_cons a1 (pa_cons b1 pa_nil hs2) hs), fun B H0 F H σ Q gd k => a2 B H0 F H σ _ gd (Kn.bd k acc_base fun d1 v1 F1 H1 _ x1 s1 q1 k1 => b2 B H0 F1 H1 σ _ (gd.go x1 s1) (Kn.bd k1 acc_base fun d2 v2 F2 H2 eb x2 s2 q2 k2 => ?_))⟩
  obtain ⟨ds, rfl⟩ := onL_ns k2.ns
  refine ⟨by show 2 ≤ _; rw [PySem.sizeLine_eq]; decide, fun q hq => ?_⟩
  obtain ⟨as, hr, hn⟩ := q2
  rcases hr with ⟨_, z, b', ys, rfl, rfl, r1, r2⟩ | ⟨z, _⟩
  case inr => cases z
  cases z
  have hb := hn b' (by simp)
  have qb : q ≠ b' := fun z => by rw [z, r1] at hq; cases hq
  -- the pair is seen from the heap ahead of the second one
  have k3 := k1
  refine k1.ok (.tuple [d1, .list ds]) ?_ (.ref q) F2 (upd H2 q (.tup [v1, .ref b'])) ⟨x2.ff, fun c o hc => ?_, x2.eq⟩ (Same.updO s2 (Same.free s2 hq)) ⟨[q, b'], .inl ⟨q, b', v1, d1, ys, ds, rfl, rfl, rfl, qb, upd_same, Dp.mono x2.ff _ _ q1, by rw [upd_ne (Ne.symm qb)]; exact r1, r2⟩, fun c hc => ?_⟩
  · rw [eb]; rfl
  · have h2 := x2.hh c o hc
    rw [upd_ne (fun z => by rw [z, hq] at h2; cases h2)]
    exact h2
  · rcases List.mem_cons.mp hc with rfl | hc
    · refine ⟨?_, Same.free s2 hq⟩
      cases e : H1 c with
      | none => rfl
      | some o => rw [x2.hh c o e] at hq; cases hq
    · rw [List.mem_singleton.mp hc]; exact hb
theorem s1_setP [C : CtxB X W] {x : Str} {pos' : Pos} (i : Nat) (he : EG X W ρ .P e r) (hi : X.N[i]? = some x := by rfl) (hx : Loc X.env.scope x := by first | exact Or.inl rfl | exact Or.inr rfl) (hs : swapsWith e (some (.Name x pos')) pos.line X.env = pure false := by rfl) (hf : X.fn x = true ∨ X.env.scope.names.lookup x = some .local := by first | exact .inl rfl | exact .inr rfl) :
    S1 X W rk ρ (.Assign [.Name x pos'] e pos) r (fun d => .nx (ρ.set i (cTup d))) := by
  obtain ⟨t, h1, h2⟩ := he
  refine ⟨_, ps_set C.nd hi hx h1 hs hf, fun B H0 F H σ D g q => h2 B H0 F H σ _ g ⟨q.ns, fun d ed v F' H' x s a => ?_, fun n en H' C c s => q.xc n en H' C σ c (g.ex.hh.trans s)⟩⟩
  exact q.ok d ed F' H' _ (g.setP x s a)
theorem sv_ownP {T : Type} {fin : T → Fin X.K} {mk : D → T} {x : Str} {d : D} (i : Nat) (hρ : ρ[i]? = some (cTup d)) (hm : ∀ d, fin (mk d) = .rt d) (hN : X.N[i]? = some x := by rfl) (hv : Vis X.env.scope x := by first | exact Or.inl rfl | exact Or.inr (Or.inl rfl) | exact Or.inr (Or.inr rfl)) (hd : (x == ("__debug__" : Str)) = false := by decide)
    (hcd : (x == ("__classdict__" : Str)) = false := by decide) : SV X W .P ρ [.Return (some (.Name x p)) pos] (.ok (mk d)) fin := by
  refine ⟨_, pss_one (ps_ret (pe_var hN hv hd hcd)), fun B H0 F H σ D g q => ?_⟩
  obtain ⟨ex, fh, ass, sl, hn, ho⟩ := g
  obtain ⟨v, as, h1, h2, y, h3, h4⟩ := sl.get hρ
  subst h3
  have z := q.ok (mk d) rfl
  rw [hm] at z
  exact ⟨y, h1, z y F H ex fh ⟨as, h4, fun a ha => by
    have := ho a (List.mem_flatten.mpr ⟨as, List.mem_of_getElem? h2, ha⟩)
    exact ⟨this.2, this.1⟩⟩⟩
theorem sv_ownPD {x : Str} {d : D} (i : Nat) (hρ : ρ[i]? = some (cTup d)) (hN : X.N[i]? = some x := by rfl) (hv : Vis X.env.scope x := by first | exact Or.inl rfl | exact Or.inr (Or.inl rfl) | exact Or.inr (Or.inr rfl)) (hd : (x == ("__debug__" : Str)) = false := by decide)
    (hcd : (x == ("__classdict__" : Str)) = false := by decide) : SV X W .P ρ [.Return (some (.Name x p)) pos] (.ok d) Fin.rt := sv_ownP (mk := id) i hρ (fun _ => rfl) hN hv hd hcd
/-- x[1].append(e) -/
def app2 (d0 : D) (d : D) : Res D := match d0 with
  | .tuple [d1, .list ds] => if decide (ds.length < 16777216) then .ok (.tuple [d1, .list (ds ++ [d])]) else .stuck
  | _ => .stuck
def pairV : D → Res D
  | .tuple [d1, .list ds] => .ok (.tuple [d1, .list ds])
  | _ => .stuck
theorem pairV_ns {d : D} (h : pairV d ≠ .stuck) : ∃ d1 ds, d = .tuple [d1, .list ds] := by
  unfold pairV at h
  split at h
  · exact ⟨_, _, rfl⟩
  · exact absurd rfl h
theorem Good.pair {B H0 F H : Hp} {K : PySem.W.Frag} {ρ : Env K} {σ : St} {i : Nat} {d1 : D} {ds : List D} (g : Good B H0 F H ρ σ) (h : ρ[i]? = some (cTup (.tuple [d1, .list ds]))) :
    ∃ a b v1 ys, σ[i]? = some (some (.ref a)) ∧ H a = some (.tup [v1, .ref b]) ∧ H b = some (.lst ys) ∧ DpAll K F ys ds ∧
      ∀ zs es, DpAll K F zs es → Good B H0 F (upd H b (.lst zs)) (ρ.set i (cTup (.tuple [d1, .list es]))) σ := by
  obtain ⟨e, f, ass, h1, h2, h3⟩ := g
  obtain ⟨v, as, g1, g2, y, rfl, q⟩ := h1.get h
  rcases q with ⟨a, b, v1, d1', ys, ds', z, rfl, rfl, q0, q1, q2, q3, q4⟩ | ⟨z, _⟩
  case inr => cases z
  cases z
  refine ⟨a, b, v1, ys, g1, q1, q3, q4, fun zs es q => ?_⟩
  have hm : b ∈ [a, b] := by simp
  have ha : b ∈ ass.flatten := List.mem_flatten.mpr ⟨_, List.mem_of_getElem? g2, hm⟩
  have s3 := Slots.set (i := i) (c := (cAny : Cell K)) (v := some (V.ref a)) (as := []) h1 rfl
  rw [set_self g1] at s3
  have na : b ∉ (ass.set i []).flatten := not_in_set h2 g2 hm List.not_mem_nil
  have s4 : Slots F (upd H b (.lst zs)) (ρ.set i cAny) σ (ass.set i []) := s3.mono (Same.refl F) fun c hc => upd_ne fun z => na (z ▸ hc)
  have s5 := Slots.set (i := i) (c := (cTup (.tuple [d1, .list es]) : Cell K)) (v := some (V.ref a)) (as := [a, b]) s4 ⟨.ref a, rfl, .inl ⟨a, b, v1, d1, zs, es, rfl, rfl, rfl, q0, by rw [upd_ne q0]; exact q1, q2, upd_same, q⟩⟩
  rw [set_self g1, List.set_set, List.set_set, set_self g2] at s5
  refine ⟨⟨e.ff, fun c o hc => ?_, e.eq⟩, Same.updO f (h3 b ha).1, ass, s5, h2, h3⟩
  rw [upd_ne (fun z => by rw [z, (h3 b ha).2] at hc; cases hc)]
  exact e.hh c o hc
theorem s1_append2 [C : Ctx X W] {x : Str} {p2 p3 apos cpos : Pos} {d0 : D} (i : Nat) (hρ : ρ[i]? = some (cTup d0)) (he : EG X W ρ .V e r) (hone : PE X e1 (tC (.int 1))) (hN : X.N[i]? = some x := by rfl) (hv : Vis X.env.scope x := by first | exact Or.inl rfl | exact Or.inr (Or.inl rfl) | exact Or.inr (Or.inr rfl))
    (hd : (x == ("__debug__" : Str)) = false := by decide) (hcd : (x == ("__classdict__" : Str)) = false := by decide) (hpx : PlainIx e1 := by exact fun _ _ => rfl)
    (hbase : attributeBase (.Subscript (.Name x p2) e1 p3) "append" X.env (eval (.Subscript (.Name x p2) e1 p3) X.env) = eval (.Subscript (.Name x p2) e1 p3) X.env := by rfl)
    (hfew : ((backTo cpos (starEach [e] X.env)).all (fun x => !x.1) && (backToKw cpos (keywordEach [] X.env)).all (fun x => x.1.isSome) && decide (([e] : List Expr).length + ([] : List Keyword).length + (if ([] : List Keyword).isEmpty then 0 else 1) < 30)) = true := by rfl)
    (hline : (apos.endLine == cpos.line) = true := by rfl) (hs : starEach [e] X.env = (false, eval e X.env) :: starEach [] X.env := by rfl) (hplain : (backTo cpos (starEach [] X.env)).any (·.1) = false := by rfl)
    (hsw : swapsWith (.Call (.Attribute (.Subscript (.Name x p2) e1 p3) "append" apos) [e] [] cpos) none pos.line X.env = pure false := by rfl) :
    S1 X W rk ρ (.Expr (.Call (.Attribute (.Subscript (.Name x p2) e1 p3) "append" apos) [e] [] cpos) pos) ((pairV d0).bd fun d0 => r.bd fun d => app2 d0 d) (fun d => .nx (ρ.set i (cTup d))) := by
  obtain ⟨t, h1, h2⟩ := he
  refine ⟨_, ps_expr (pe_bm PySem.F.plainAttrs_list PySem.F.slot_list_append PySem.F.type_list_append mt_append (pe_ix ix_tup (pe_var hN hv hd hcd) hone hpx) (pa_cons h1 pa_nil hs) hbase hfew hline hs hplain) hsw, fun B H0 F H σ D g q => ?_⟩
  obtain ⟨d1, ds, rfl⟩ := pairV_ns fun z => q.ns (by rw [z]; rfl)
  have q := q.of_eq (r' := r.bd fun d => app2 (.tuple [d1, .list ds]) d) rfl
  obtain ⟨a, b, v1, ys, o1, o2, o3, o4, o5⟩ := g.pair hρ
  refine ⟨_, o1, a, _, 1, .ref b, rfl, rfl, SqT.of o2, rfl, ?_⟩
  refine ⟨.inl ⟨rfl, _, SqL.of o3⟩, h2 B H0 F H σ _ g (KS.kn g q fun d v F1 H1 _ x s ac g' q' => ?_)⟩
  obtain ⟨a', b', v1', ys', p1, p2, p3, p4, p5⟩ := g'.pair hρ
  rw [o1] at p1
  cases p1
  rw [x.hh _ _ o2] at p2
  cases p2
  cases c : decide (ds.length < 16777216) with
  | false => exact absurd (by simp only [app2, c]; rfl) q'.ns
  | true =>
    have q2 := q'.of_eq (r' := .ok (.tuple [d1, .list (ds ++ [d])])) (by simp only [app2, c]; rfl)
    refine ⟨b, ys', v, rfl, rfl, p3, by rw [DpAll.length p4, PySem.sizeLine_eq]; exact of_decide_eq_true c, ?_⟩
    exact q2.ok _ rfl F1 _ _ (p5 _ _ (DpAll.append p4 (.cons ac .nil)))
end
end DL
/-! any(xs) of a list of truths or of whole numbers -/
namespace DL
open PySem L2 PySem.Spec PyProof.Rows
theorem truth_ints {prog : Program} {w : World} {A : Around} {ns : List Int} {its : List Value} (e : IntsAre its ns) :
    TruthOf prog w A (fun i v => its.toArray[i]? = some v) (fun i => ns.getD i 0 != 0) := fun i v s Q E hv hq => by
  have hv' : its[i]? = some v := by simpa using hv
  have : ∃ (n : Int) (t : Tok), v = Value.int n t ∧ ns[i]? = some n := by
    clear hq hv
    induction e generalizing i with
    | nil => cases hv'
    | cons n t h ih =>
      cases i with
      | zero => simp at hv'; exact ⟨n, t, hv'.symm, rfl⟩
      | succ i => exact ih i (by simpa using hv')
  obtain ⟨n, t, rfl, hn⟩ := this
  have hg : (ns.getD i 0 != 0) = (n != 0) := by rw [List.getD_eq_getElem?_getD, hn]; rfl
  have hq' : Q (ns.getD i 0 != 0) s := hq
  rw [hg] at hq'
  exact P.truthy_int hq'
theorem any_rangeI : ∀ ns : List Int, (List.range ns.length).any (fun i => ns.getD i 0 != 0) = ns.any (· != 0)
  | [] => rfl
  | b :: bs => by
    rw [List.length_cons, List.range_succ_eq_map, List.any_cons, List.any_map, List.any_cons, ← any_rangeI bs]
    all_goals rfl
theorem intsAre_len : ∀ {us : List Value} {ns : List Int}, IntsAre us ns → ns.length = us.length
  | _, _, .nil => rfl
  | _, _, .cons n t h => by rw [List.length_cons, List.length_cons, intsAre_len h]
def rAnyI (K : PySem.W.Frag) : List V → Hp → VK → Prop := fun vs H Q => ∃ (a : Addr) (ns : List Int), vs = [V.ref a] ∧ SqL K H a (ns.map V.int) ∧ Q (.bl (ns.any (· != 0))) H
theorem cr_anyI {X : Cx} (hc : X.calm = true) : CallR X (.builtin "any") (rAnyI X.K) := by
  intro pins s σ H vs us Q I r h
  obtain ⟨a, ns, rfl, hs, q⟩ := h
  obtain ⟨its, rv, hl, _⟩ := I.list hs
  rw [Vals.ref1 r]
  have hb := rv.ints
  refine call_any_walk (iter_any hl.isList fun s₂ e2 st hne => ?_)
  subst e2
  refine ⟨_, _, _, _, _, _, _, rfl, Walks.list (A := X.A.in1) (I.ok.hd hc) _ a hne its.toArray, st, truth_ints hb, fun h' tk hk => ?_⟩
  refine ⟨.bl _, H, I.kept fun b o eo => hk b o (fun hmem => ?_) (Heap.get?_push_of_some _ eo), ?_, q⟩
  · rcases List.mem_cons.mp hmem with e1 | hmem
    · exact absurd (e1 ▸ Heap.lt_size eo) (Nat.lt_irrefl _)
    · cases hmem
  · show Value.bool _ = Value.bool _
    have hl : ns.length = its.length := intsAre_len hb
    rw [← any_rangeI, hl, List.size_toArray]
def rAny2 (K : PySem.W.Frag) : List V → Hp → VK → Prop := fun vs H Q => rAny K vs H Q ∨ rAnyI K vs H Q
theorem cr_any2 {X : Cx} (hc : X.calm = true) : CallR X (.builtin "any") (rAny2 X.K) := by
  intro pins s σ H vs us Q I r h
  rcases h with h | h
  · exact cr_any hc pins s σ H vs us Q I r h
  · exact cr_anyI hc pins s σ H vs us Q I r h
/-- any of truths, or of whole numbers -/
def anyW : D → Res D
  | .list xs => match blsOf xs with
    | some bs => .ok (.bool (bs.any id))
    | none => optB ((intsOf xs).map (·.any (· != 0)))
  | _ => .stuck
theorem b_anyW {X : Cx} {W : WX} [C : Ctx X W] : C1D X W (.builtin "any") .V anyW := by
  refine ⟨_, cr_any2 C.calm, fun F H σ x d Q s h k => ?_⟩
  cases d <;> first | exact absurd rfl k.ns | skip
  obtain ⟨a, xs, rfl, q1, q2⟩ := tp_list h
  rename_i ds
  cases c : blsOf ds with
  | some ns =>
    obtain ⟨h1, h2⟩ := blsOf_dp c q2
    subst h1
    exact .inl ⟨a, ns, rfl, q1, kn_flat (k.of_eq (r' := .ok (.bool (ns.any id))) (by simp [anyW, c])) s rfl (.bl _)⟩
  | none =>
    cases c2 : intsOf ds with
    | none => exact absurd (by simp [anyW, c, c2, optB]) k.ns
    | some ns =>
      obtain ⟨h1, h2⟩ := intsOf_dp c2 q2
      subst h1
      exact .inr ⟨a, ns, rfl, q1, kn_flat (k.of_eq (r' := .ok (.bool (ns.any (· != 0)))) (by simp [anyW, c, c2, optB])) s rfl (.bl _)⟩
end DL
/-! a tuple times a number, which may be nought or less -/
namespace DL
open PySem L2 PySem.Spec PyProof.Rows
theorem mul_none_meets (l : Addr) (items : Array Value) (n : Nat) (dd : Option Addr) (sl : Array (Option Value)) (x : Int) (u : Tok) (c0 : (decide (x < -(2 ^ 63)) || decide (x ≥ 2 ^ 63)) = false) (c1 : (items.isEmpty || x == 1) = false) (c2 : (decide (x ≤ 0) || items.isEmpty) = true) :
    Meets (Builtin.«tuple.__mul__» ⟨[.ref l, .int x u], []⟩) (fun _ R s => s.heap.get? l = some { cls := .type "tuple", dict := dd, data := .seq items n, slots := sl } ∧
      R (.ok (.ret (Value.ref s.heap.objs.size))) { s with heap := s.heap.push { cls := Value.type "tuple", data := Data.seq #[] }, toks := s.toks }) :=
  .of_wp fun prog w A R s h => by
    obtain ⟨hp, g, d, tk, os⟩ := s
    obtain ⟨hl, h⟩ := h
    have f1 := AutoSeq1.idx_int
    have hsz : (#[] : Array Value).size ≤ sizeLine := Nat.zero_le _
    wp_walk using wpAny_loadPart' hl
    repeat (first
      | (refine wpAny_ite_false (decide_eq_false (by rw [c0]; exact Bool.false_ne_true)) ?_; wp_walk using wpAny_loadPart' hl)
      | (refine wpAny_ite_false (decide_eq_false (by rw [c1]; exact Bool.false_ne_true)) ?_; wp_walk using wpAny_loadPart' hl)
      | (refine wpAny_ite_true (decide_eq_true c2) ?_; wp_walk using wpAny_loadPart' hl)
      | (refine wpAny_ite_false (decide_eq_false (Nat.not_lt.mpr hsz)) ?_; wp_walk using wpAny_loadPart' hl))
    exact ⟨_, rfl, h⟩
def rRep0 (K : PySem.W.Frag) : R2 := fun x y H Q => ∃ l k xs, x = .ref l ∧ y = .int k ∧ SqT K H l xs ∧ xs ≠ [] ∧ -1000 ≤ k ∧ k ≤ 0 ∧ ∀ p, H p = none → Q (.ref p) (upd H p (.tup []))
theorem op_rep0 {X : Cx} : OpR X (binaryOp .Mult) (rRep0 X.K) := by
  intro pins s σ H x y v u Q I rx ry h
  obtain ⟨l, k, xs, rfl, rfl, hT, hne, h1, h2, q⟩ := h
  cases rx
  obtain ⟨t, rfl⟩ := ry
  obtain ⟨its, r, ⟨⟨cls, dd, data, sl⟩, ho, hc, n, hd⟩, hs⟩ := I.tuple hT
  simp only at hc hd
  subst hc hd
  have hle : its.length = xs.length := r.length.symm
  have hn : its ≠ [] := fun e => hne (by
    rw [e] at hle
    exact List.eq_nil_of_length_eq_zero hle.symm)
  have hi : its.toArray.isEmpty = false := by
    cases its with
    | nil => exact absurd rfl hn
    | cons a b => rfl
  have c0 : (decide (k < -(2 ^ 63)) || decide (k ≥ 2 ^ 63)) = false := by
    rw [decide_eq_false (by omega), decide_eq_false (by omega)] <;> rfl
  have c1 : (its.toArray.isEmpty || k == 1) = false := by
    rw [hi, Bool.false_or]
    exact beq_eq_false_iff_ne.mpr (by omega)
  have c2 : (decide (k ≤ 0) || its.toArray.isEmpty) = true := by
    rw [decide_eq_true h2]; rfl
  refine wpAny_binaryOp_repeat_ref (T := "tuple") (U := "int") (by decide) ⟨_, ho, rfl⟩ (fun s' => typeIs_int s' k t) noFill_tuple_mul F.fills_int_mul F.slot_int_rmul repeat_tuple F.slot_int_index.lookup
    (call_meets F.slot_int_rmul (typeIs_int s k t) F.entry_int_rmul (F.args_int_rmul_2 _ _) (int_rmul_tuple k t l its.toArray n dd sl)
      ⟨ho, rfl, ⟨_, ho, rfl⟩, call_meets F.slot_tuple_mul ⟨_, ho, rfl⟩ F.entry_tuple_mul (F.args_tuple_mul_2 _ _) (mul_none_meets l its.toArray n dd sl k t c0 c1 c2) ⟨ho, ?_⟩⟩)
  refine ⟨.ref s.heap.objs.size, _, I.laid (t' := s.toks) (o := .tup []) (fun b ob q => Heap.get?_push_of_some _ q) (Nat.le_refl _) ?_, rfl, q _ (I.hok.fresh (Nat.le_refl _))⟩
  exact ⟨Nat.zero_le _, _, .nil, IsTup.new _ _⟩
/-- a tuple times a number from -1000 to 1000 -/
def repT0 : D → D → Res D
  | .tuple xs, .int k => if decide (xs ≠ [] ∧ -1000 ≤ k ∧ k ≤ 0) then .ok (.tuple []) else repT (.tuple xs) (.int k)
  | _, _ => .stuck
theorem od_repT0 {X : Cx} {W : WX} : OpD X W .V (fun x y H Q => ((∃ l xs, x = .ref l ∧ y = .int 1 ∧ SqT X.K H l xs ∧ Q (.ref l) H) ∨ rRepT X.K x y H Q) ∨ rRep0 X.K x y H Q) repT0 := by
  intro F H σ x y d1 d2 Q s h1 h2 k
  cases d1 <;> cases d2 <;> first | exact absurd rfl k.ns | skip
  rename_i ds n
  cases c : decide (ds ≠ [] ∧ -1000 ≤ n ∧ n ≤ 0) with
  | true =>
    cases tp_int h2
    obtain ⟨l, xs, rfl, g1, g2⟩ := tp_tup h1
    have k2 := k.of_eq (r' := .ok (.tuple [])) (by simp only [repT0]; rw [c]; rfl)
    obtain ⟨c1, c2, c3⟩ := of_decide_eq_true c
    refine .inr ⟨l, n, xs, rfl, rfl, Same.tup s g1, fun z => c1 ?_, c2, c3, fun p hp => kn_newT k2 s hp .nil⟩
    subst z
    have := DpAll.length g2
    exact List.eq_nil_of_length_eq_zero this.symm
  | false => exact .inl (od_repT F H σ x y (.tuple ds) (.int n) Q s h1 h2 (k.of_eq (by simp only [repT0]; rw [c]; rfl)))
theorem eg_repT0 {X : Cx} {W : WX} {ρ : Env X.K} {a b : Expr} {ra rb : Res D} {pos : Pos} (ha : EG X W ρ .T a ra) (hb : EG X W ρ .T b rb) : EG X W ρ .V (.BinOp a .Mult b pos) (bd2 ra rb repT0) := eg_op ((op_rep1.or op_repT).or op_rep0) od_repT0 ha hb
end DL
/-! Rows of one's own made by a comprehension; a walk over a list of one's own that stays one's own. -/
namespace DL
open PySem L2
/-- a list -/
def ownL (d : D) : Res D := onL d fun _ => .ok d
def AccR (K : PySem.W.Frag) : Hp → Hp → Hp → D → V → Prop := fun H F' H' d v => ∃ as, OwnR K F' H' v as d ∧ as.Nodup ∧ ∀ a ∈ as, H a = none ∧ F' a = none
theorem accR_base {K : PySem.W.Frag} (H H1 F' H' : Hp) (x : D) (y : V) (s : Same H H1) (h : AccR K H1 F' H' x y) : AccR K H F' H' x y := by
  obtain ⟨as, h1, h2, h3⟩ := h
  exact ⟨as, h1, h2, fun a ha => ⟨Same.free s (h3 a ha).1, (h3 a ha).2⟩⟩
section
variable {X : Cx} {W : WX} {ρ : Env X.K} {rs : Res (List D)} {pos p : Pos}
theorem eg_lcM [C : Ctx X W] {elt tg iter : Expr} {ifs : List Expr} {scope : Scope} {own : List (Str × Nat)} {f : D → Res (Env X.K)} {cond : D → Res Bool} {elt' : D → Res D} (hi : IG X W ρ tg iter rs) (ok : BlkOk X.N X.env.scope scope own)
    (hx : ∀ d n, f d ≠ .exc n)
    (hg : ∀ (s : Shared) (H : Hp) (C : Addr) (cl : List (Str × Addr)) (fp : List Addr), GG (X.blk s H scope (compEnvC scope cl C X.env) fp) tg (own.map (·.2)) (wipeE ρ (own.map (·.2))) f)
    (ht : ∀ (s : Shared) (H : Hp) (C : Addr) (cl : List (Str × Addr)) (fp : List Addr) (d : D) (ρ' : Env X.K), f d = .ok ρ' → QG (X.blk s H scope (compEnvC scope cl C X.env) fp) W0 ρ' ifs (cond d))
    (he : ∀ (s : Shared) (H : Hp) (C : Addr) (cl : List (Str × Addr)) (fp : List Addr) (d : D) (ρ' : Env X.K), f d = .ok ρ' → EG (X.blk s H scope (compEnvC scope cl C X.env) fp) W0 ρ' .O elt (elt' d)) (hs : ∀ x, foldedSetIterable iter X.env x = pure x := by intro _; rfl) :
    ∃ p : TI × TG × TT × TE, ((PI X tg iter p.1) ∧ (∀ (s : Shared) (H : Hp) (C : Addr) (cl : List (Str × Addr)) (fp : List Addr), PG (X.blk s H scope (compEnvC scope cl C X.env) fp) tg p.2.1) ∧
      (∀ (s : Shared) (H : Hp) (C : Addr) (cl : List (Str × Addr)) (fp : List Addr), PTs (X.blk s H scope (compEnvC scope cl C X.env) fp) ifs p.2.2.1) ∧ (∀ (s : Shared) (H : Hp) (C : Addr) (cl : List (Str × Addr)) (fp : List Addr), PE (X.blk s H scope (compEnvC scope cl C X.env) fp) elt p.2.2.2)) ∧
    ∀ B H0 F H σ Q, Good B H0 F H ρ σ → Kn X W F H σ (rs.bd fun ds => (lcR (fun d => (f d).bd fun _ => cond d) (fun d => (elt' d).bd ownL) ds).bd lstR) (AccR X.K) Q → tLc p.1 p.2.1 p.2.2.1 p.2.2.2 (own.map (·.2)) σ H Q := by
  obtain ⟨ti, i1, i2⟩ := hi
  refine ⟨⟨ti, gS X.K (own.map (·.2)) (wipeE ρ (own.map (·.2))) f, fun σ H Q => ∃ d ρ', f d = .ok ρ' ∧ tQ X.K X W0 ρ' (cond d) σ H Q, fun σ H Q => ∃ d ρ', f d = .ok ρ' ∧ tS X.K X W0 ρ' .O (elt' d) σ H Q⟩, ⟨i1, fun s H c cl fp => (hg s H c cl fp).sem, fun s H c cl fp => ⟨fun pins s' σ H' Q I ⟨d, ρ', e, q⟩ => ((ht s H c cl fp d ρ' e).sem (Y := X) rfl).run pins s' σ H' Q I q⟩,
    fun s H c cl fp => ⟨fun pins s' σ H' Q I ⟨d, ρ', e, q⟩ => ((he s H c cl fp d ρ' e).sem (Y := X) rfl).run pins s' σ H' Q I q⟩⟩, fun B H0 F H σ Q gd k => i2 B H0 F H σ _ gd (Kn.bd k accR_base fun ds J F1 H1 _ e1 s1 q1 k1 => ?_)⟩
  intro L hL
  have hLF : F1 L = none := Same.free s1 hL
  generalize hv : own.map (·.2) = vs at *
  have gw := (gd.go e1 s1).wipe vs
  generalize hel : (fun d => (elt' d).bd ownL) = el at *
  have whole : ∃ out, (lcR (fun d => (f d).bd fun _ => cond d) el ds).bd lstR = .ok (.list out) ∧ lcR (fun d => (f d).bd fun _ => cond d) el ds = .ok out ∧ out.length ≤ sizeLine := by
    cases c : lcR (fun d => (f d).bd fun _ => cond d) el ds with
    | stuck => exact absurd (by rw [c]; rfl) k1.ns
    | exc n => exact absurd c (lcR_nx _ _ _ n)
    | ok out =>
      cases c2 : fits out.length with
      | false => exact absurd (by rw [c]; simp [lstR, c2]) k1.ns
      | true => exact ⟨out, by simp [lstR, c2], rfl, fits_le c2⟩
  obtain ⟨out, w1, w2, w3⟩ := whole
  have k2 := k1.of_eq w1
  refine ⟨fun i m H2 => m = ds.length - i ∧ i ≤ ds.length ∧ ∃ F2 acc done bs, Ex F1 H1 F2 H2 ∧ Same F2 H2 ∧ F2 L = none ∧ H2 L = some (.lst acc) ∧ RowsOk X.K F2 H2 acc bs done ∧ (L :: bs).Nodup ∧ (∀ b ∈ bs, H1 b = none ∧ F2 b = none) ∧ ∃ more, lcR (fun d => (f d).bd fun _ => cond d) el (ds.drop i) = .ok more ∧ out = done ++ more,
    ⟨ds.length, by simp, Nat.zero_le _, F1, [], [], [], Ex.newO hL, Same.updO s1 hLF, hLF, upd_same, trivial, by simp, by simp, out, w2, rfl⟩, ?_⟩
  rintro i m H2 ⟨rfl, hi, F2, acc, done, bs, x2, s2, hF, hH, hd, nd, hb0, more, hm, ho⟩
  by_cases hlt : i < ds.length
  · have dget : ds[i]? = some ds[i] := List.getElem?_eq_getElem hlt
    obtain ⟨stop, go⟩ := q1 F2 H2 x2 s2
    obtain ⟨go1, go2⟩ := go i _ dget
    refine .inr ⟨go1, fun H2 => i + 1 ≤ ds.length ∧ ∃ F2 acc done bs, Ex F1 H1 F2 H2 ∧ Same F2 H2 ∧ F2 L = none ∧ H2 L = some (.lst acc) ∧ RowsOk X.K F2 H2 acc bs done ∧ (L :: bs).Nodup ∧ (∀ b ∈ bs, H1 b = none ∧ F2 b = none) ∧ ∃ more, lcR (fun d => (f d).bd fun _ => cond d) el (ds.drop (i + 1)) = .ok more ∧ out = done ++ more, fun H' q => ⟨ds.length - (i + 1), by omega, rfl, q⟩, fun x H3 y => ?_⟩
    obtain ⟨F3, x3, s3, d3⟩ := go2 x H3 y
    have ex3 : Ex F1 H1 F3 H3 := x2.trans x3
    have th2 := hd.there
    have hF3 : F3 L = none := by rw [x3.eq L (by rw [hH]; exact fun z => nomatch z)]; exact hF
    have hH3 : H3 L = some (.lst acc) := x3.hh _ _ hH
    have hd3 : RowsOk X.K F3 H3 acc bs done := hd.mono x3.ff fun a ha => Same.ne x3.hh (th2 a ha)
    have hb3 : ∀ b ∈ bs, H1 b = none ∧ F3 b = none := fun b hb => ⟨(hb0 b hb).1, by rw [x3.eq b (th2 b hb)]; exact (hb0 b hb).2⟩
    have hdrop : ds.drop i = ds[i] :: ds.drop (i + 1) := List.drop_eq_getElem_cons hlt
    rw [hdrop] at hm
    generalize hdi : ds[i] = d at *
    unfold lcR at hm
    obtain ⟨b, hb⟩ : ∃ b, ((f d).bd fun _ => cond d) = .ok b := nx_ns fun z => by rw [z] at hm; cases hm
    rw [hb] at hm
    obtain ⟨ρ', hf⟩ : ∃ ρ', f d = .ok ρ' := by
      cases e : f d with
      | ok ρ' => exact ⟨ρ', rfl⟩
      | exc n => exact absurd e (hx d n)
      | stuck => rw [e] at hb; cases hb
    have hcb : cond d = .ok b := by rw [hf] at hb; exact hb
    refine ⟨B, H0, F3, d, gw.go ex3 s3, d3, (fun z => by rw [hf] at z; cases z), fun ρ2 σ2 hρ gd2 kp => ⟨Eq.trans kp (wipe_wipe vs), d, ρ', hf, B, H0, F3, ?_, ?_⟩⟩
    · rw [hf] at hρ; cases hρ; exact gd2
    rw [hcb]
    refine ⟨(fun z => nomatch z), fun a ea c F4 H4 x4 s4 q4 => ?_, fun _ z => nomatch z⟩
    cases ea
    cases q4
    have th3 := hd3.there
    have hF4 : F4 L = none := by rw [x4.eq L (by rw [hH3]; exact fun z => nomatch z)]; exact hF3
    have hH4 : H4 L = some (.lst acc) := x4.hh _ _ hH3
    have hd4 : RowsOk X.K F4 H4 acc bs done := hd3.mono x4.ff fun a ha => Same.ne x4.hh (th3 a ha)
    have hb4 : ∀ b ∈ bs, H1 b = none ∧ F4 b = none := fun b hb => ⟨(hb3 b hb).1, by rw [x4.eq b (th3 b hb)]; exact (hb3 b hb).2⟩
    rw [hf] at hρ
    cases hρ
    cases b with
    | false =>
      rw [if_neg Bool.false_ne_true]
      simp only [nx_ok, bd_ok, Bool.false_eq_true, if_false] at hm
      exact ⟨hlt, F4, acc, done, bs, ex3.trans x4, s4, hF4, hH4, hd4, nd, hb4, more, hm, ho⟩
    | true =>
      rw [if_pos rfl]
      simp only [nx_ok, bd_ok, if_true] at hm
      obtain ⟨y, hy⟩ : ∃ y, el d = .ok y := nx_ns fun z => by rw [z] at hm; cases hm
      have hy' : elt' d = .ok y ∧ ∃ es, y = .list es := by
        have hy : (elt' d).bd ownL = .ok y := by rw [← hel] at hy; exact hy
        cases c : elt' d with
        | stuck => rw [c] at hy; cases hy
        | exc n => rw [c] at hy; cases hy
        | ok z =>
          rw [c] at hy
          cases z <;> first | (cases hy; done) | skip
          cases hy
          exact ⟨rfl, _, rfl⟩
      rw [hy] at hm
      obtain ⟨hy1, es, rfl⟩ := hy'
      refine ⟨d, ρ', hf, B, H0, F4, gd2.go x4 s4, ?_⟩
      rw [hy1]
      refine ⟨(fun z => nomatch z), fun a ea v F5 H5 x5 s5 q5 => ?_, fun _ z => nomatch z⟩
      cases ea
      have th4 := hd4.there
      have hF5 : F5 L = none := by rw [x5.eq L (by rw [hH4]; exact fun z => nomatch z)]; exact hF4
      have hH5 : H5 L = some (.lst acc) := x5.hh _ _ hH4
      have hd5 : RowsOk X.K F5 H5 acc bs done := hd4.mono x5.ff fun a ha => Same.ne x5.hh (th4 a ha)
      have hb5 : ∀ b ∈ bs, H1 b = none ∧ F5 b = none := fun b hb => ⟨(hb4 b hb).1, by rw [x5.eq b (th4 b hb)]; exact (hb4 b hb).2⟩
      obtain ⟨as, hr, hn⟩ := q5
      rcases hr with ⟨_, z, q, zs, rfl, rfl, r1, r2⟩ | ⟨z, _⟩
      case inr => cases z
      cases z
      have hq := hn q (by simp)
      have qL : q ≠ L := fun z => by rw [z, hH4] at hq; cases hq.1
      have qbs : q ∉ bs := fun z => th4 q z hq.1
      have ex4 := ex3.trans x4
      have hq1 : H1 q = none := Same.free ex4.hh hq.1
      cases hr : lcR (fun d => (f d).bd fun _ => cond d) el (ds.drop (i + 1)) with
      | stuck => rw [hr] at hm; cases hm
      | exc n => exact absurd hr (lcR_nx _ _ _ n)
      | ok more' =>
        rw [hr] at hm
        cases hm
        have ex5 := ex4.trans x5
        have bl : ∀ b ∈ bs, b ≠ L := fun b hb z => (List.nodup_cons.mp nd).1 (z ▸ hb)
        have hd6 : RowsOk X.K F5 (upd H5 L (.lst (acc ++ [.ref q]))) acc bs done := hd5.mono (Same.refl F5) fun a ha => upd_ne (bl a ha)
        refine ⟨acc, hH5, ?_, hlt, F5, acc ++ [.ref q], done ++ [.list es], bs ++ [q], ⟨ex5.ff, fun a o ha => ?_, ex5.eq⟩, Same.updO s5 hF5, hF5, upd_same, RowsOk.append rfl (by rw [upd_ne qL]; exact r1) r2 hd6, ?_, fun b hb => ?_, more', rfl, by rw [ho]; simp⟩
        · have := hd.len.1
          have h2 := congrArg List.length ho
          rw [List.length_append, List.length_cons] at h2
          omega
        · rw [upd_ne (fun z => by rw [z, hL] at ha; cases ha)]
          exact ex5.hh a o ha
        · obtain ⟨n1, n2⟩ := List.nodup_cons.mp nd
          refine List.nodup_cons.mpr ⟨fun hm => ?_, List.nodup_append.mpr ⟨n2, by simp, fun c hc c' hc' z => ?_⟩⟩
          · rcases List.mem_append.mp hm with hm | hm
            · exact n1 hm
            · exact qL (List.mem_singleton.mp hm).symm
          · rw [List.mem_singleton.mp hc'] at z
            exact qbs (z ▸ hc)
        · rcases List.mem_append.mp hb with hb | hb
          · exact hb5 b hb
          · rw [List.mem_singleton.mp hb]
            exact ⟨hq1, hq.2⟩
  · have e : i = ds.length := by omega
    subst e
    refine .inl ⟨(q1 F2 H2 x2 s2).1, ?_⟩
    rw [List.drop_length] at hm
    cases hm
    rw [List.append_nil] at ho
    subst ho
    refine k2.ok _ rfl _ F2 H2 x2 s2 ⟨L :: bs, ⟨L, acc, bs, _, rfl, rfl, rfl, hH, hd⟩, nd, fun a ha => ?_⟩
    rcases List.mem_cons.mp ha with rfl | ha
    · exact ⟨hL, hF⟩
    · exact hb0 a ha
theorem Good.setR {K : PySem.W.Frag} {B H0 F H F' H' : Hp} {ρ : Env K} {σ : St} {i : Nat} {d : D} {v : V} (g : Good B H0 F H ρ σ) (x : Ex F H F' H') (s : Same F' H') (a : AccR K H F' H' d v) : Good B H0 F' H' (ρ.set i (cRows d)) (σ.set i (some v)) := by
  obtain ⟨as, r, nd, hn⟩ := a
  obtain ⟨e, f, ass, h1, h2, h3⟩ := g
  have th := h1.there
  have h1' : Slots F' H' ρ σ ass := h1.mono x.ff fun a ha => Same.ne x.hh (th a ha)
  refine ⟨e.trans x, s, ass.set i as, h1'.set (c := cRows d) ⟨v, rfl, r⟩, nodup_flatten_set h2 nd fun c hc hm => th c hm (hn c hc).1, fun c hc => ?_⟩
  rcases mem_flatten_set hc with z | z
  · rw [x.eq c (th c z)]; exact h3 c z
  · exact ⟨(hn c z).2, Same.free e.hh (hn c z).1⟩
/-- x = [a list of one's own for ..] -/
theorem s1_setRows [C : Ctx X W] {rk : Md} {elt tg iter : Expr} {ifs : List Expr} {scope : Scope} {cond : D → Res Bool} {elt' : D → Res D} {rs : Res (List D)} {y : Str} {py pos spos : Pos} (i : Nat) (hy : X.N[i]? = some y) (hyl : X.env.scope.names.lookup y = some .local)
    (hsw : swapsWith (.ListComp elt [⟨tg, iter, ifs, 0⟩] scope pos) (some (.Name y py)) spos.line X.env = pure true ∨ swapsWith (.ListComp elt [⟨tg, iter, ifs, 0⟩] scope pos) (some (.Name y py)) spos.line X.env = pure false)
    (hi : IG X W ρ tg iter rs) {own : List (Str × Nat)} {f : D → Res (Env X.K)} (ok : BlkOk X.N X.env.scope scope own)
    (hx : ∀ d n, f d ≠ .exc n)
    (hg : ∀ (s : Shared) (H : Hp) (C : Addr) (cl : List (Str × Addr)) (fp : List Addr), GG (X.blk s H scope (compEnvC scope cl C X.env) fp) tg (own.map (·.2)) (wipeE ρ (own.map (·.2))) f)
    (ht : ∀ (s : Shared) (H : Hp) (C : Addr) (cl : List (Str × Addr)) (fp : List Addr) (d : D) (ρ' : Env X.K), f d = .ok ρ' → QG (X.blk s H scope (compEnvC scope cl C X.env) fp) W0 ρ' ifs (cond d))
    (he : ∀ (s : Shared) (H : Hp) (C : Addr) (cl : List (Str × Addr)) (fp : List Addr) (d : D) (ρ' : Env X.K), f d = .ok ρ' → EG (X.blk s H scope (compEnvC scope cl C X.env) fp) W0 ρ' .O elt (elt' d)) (hs : ∀ x, foldedSetIterable iter X.env x = pure x := by intro _; rfl) :
    S1 X W rk ρ (.Assign [.Name y py] (.ListComp elt [⟨tg, iter, ifs, 0⟩] scope pos) spos) (rs.bd fun ds => (lcR (fun d => (f d).bd fun _ => cond d) (fun d => (elt' d).bd ownL) ds).bd lstR) (fun d => .nx (ρ.set i (cRows d))) := by
  obtain ⟨t, h1, h2⟩ := eg_lcM (cond := cond) hi ok hx hg ht he hs
  have fin : ∀ (B H0 F H : Hp) (σ : St) (D : Ends), Good B H0 F H ρ σ → KS X W rk B H0 (rs.bd fun ds => (lcR (fun d => (f d).bd fun _ => cond d) (fun d => (elt' d).bd ownL) ds).bd lstR) (fun d => Fin.nx (ρ.set i (cRows d))) D →
      tLc t.1 t.2.1 t.2.2.1 t.2.2.2 (own.map (·.2)) σ H fun v H' => D.nx (σ.set i (some v)) H' := fun B H0 F H σ D g q => h2 B H0 F H σ _ g ⟨q.ns, fun d ed v F' H' x s a => q.ok d ed F' H' _ (g.setR x s a), fun n en H' C c s => q.xc n en H' C σ c (g.ex.hh.trans s)⟩
  rcases hsw with hsw | hsw
  · exact ⟨_, ps_setLc C.calm C.nd hy hyl hsw h1.1 ok h1.2.1 h1.2.2.1 h1.2.2.2 hs, fin⟩
  · exact ⟨_, ps_set C.nd hy (.inl hyl) (pe_lc C.calm C.nd h1.1 ok h1.2.1 h1.2.2.1 h1.2.2.2 hs) hsw (.inr hyl), fin⟩
end
end DL
/-! A walk over a list of one's own that stays one's own; targets in targets. -/
namespace DL
open PySem L2
/-- a list of one's own that stands at a and holds xs -/
def cFix {K : PySem.W.Frag} (a : Addr) (xs : List V) (d : D) : Cell K := ⟨fun F H v as => v = some (.ref a) ∧ as = [a] ∧ H a = some (.lst xs) ∧ ∃ ds, d = .list ds ∧ DpAll K F xs ds,
  fun s e ⟨h1, h2, h3, ds, h4, h5⟩ => ⟨h1, h2, by rw [e a (by rw [h2]; simp)]; exact h3, ds, h4, DpAll.mono s _ _ h5⟩,
  fun ⟨_, h2, h3, _⟩ b hb => by rw [h2] at hb; rw [List.mem_singleton.mp hb, h3]; exact fun z => nomatch z⟩
section
variable {X : Cx} {W : WX} {rk m : Md} {ρ : Env X.K} {S T : Type} {body : List Stmt} {pos : Pos} {vs : List Nat}
theorem Good.recell {K : PySem.W.Frag} {B H0 F H : Hp} {ρ : Env K} {σ : St} {i : Nat} {c c' : Cell K} (g : Good B H0 F H ρ σ) (h : ρ[i]? = some c) (hc : ∀ v as, c.P F H v as → c'.P F H v as) : Good B H0 F H (ρ.set i c') σ := by
  obtain ⟨e, f, ass, h1, h2, h3⟩ := g
  obtain ⟨v, as, g1, g2, q⟩ := h1.get h
  have s := Slots.set (i := i) (c := c') h1 (hc v as q)
  rw [set_self g1, set_self g2] at s
  exact ⟨e, f, ass, s, h2, h3⟩
theorem Good.fix {K : PySem.W.Frag} {B H0 F H : Hp} {ρ : Env K} {σ : St} {i : Nat} {ds : List D} (g : Good B H0 F H ρ σ) (h : ρ[i]? = some (cRes (.list ds))) : ∃ a xs, σ[i]? = some (some (.ref a)) ∧ H a = some (.lst xs) ∧ DpAll K F xs ds ∧ Good B H0 F H (ρ.set i (cFix a xs (.list ds))) σ := by
  obtain ⟨e, f, ass, h1, h2, h3⟩ := id g
  obtain ⟨v, as, g1, g2, x, rfl, q⟩ := h1.get h
  rcases q with ⟨ds', z, a, xs, rfl, rfl, q3, q4⟩ | ⟨z, _⟩
  · cases z
    have s := Slots.set (i := i) (c := cFix a xs (.list ds)) (v := some (V.ref a)) (as := [a]) h1 ⟨rfl, rfl, q3, ds, rfl, q4⟩
    rw [set_self g1, set_self g2] at s
    exact ⟨a, xs, g1, q3, q4, e, f, ass, s, h2, h3⟩
  · cases z
theorem Good.unfix {K : PySem.W.Frag} {B H0 F H : Hp} {ρ : Env K} {σ : St} {i : Nat} {a : Addr} {xs : List V} {d : D} (g : Good B H0 F H ρ σ) (h : ρ[i]? = some (cFix a xs d)) : Good B H0 F H (ρ.set i (cRes d)) σ :=
  g.recell h fun v as ⟨h1, h2, h3, ds, h4, h5⟩ => ⟨_, h1, .inl ⟨ds, h4, a, xs, rfl, h2, h3, h5⟩⟩
/-- for t in x, x one's own and not touched -/
theorem s1_forCO [C : Ctx X W] {tg : Expr} {x : Str} {px : Pos} {d0 : D} {out : Addr → List V → S → Env X.K} {outF : S → Env X.K} {f : Addr → List V → S → D → Res (Env X.K)} {g : S → D → Res Unit} {rb : D → S → Res (Ctl S)} {s0 : S} (i : Nat) (hρ : ρ[i]? = some (cRes d0))
    (hN : X.N[i]? = some x) (hv : Vis X.env.scope x) (hd : (x == ("__debug__" : Str)) = false) (hcd : (x == ("__classdict__" : Str)) = false)
    (hw : ∀ a xs, Wk (ρ.set i (cFix a xs d0)) (out a xs s0)) (ho : ∀ a xs s, (out a xs s)[i]? = some (cFix a xs d0)) (hF : ∀ a xs s, (out a xs s).set i (cRes d0) = outF s)
    (hx : ∀ a xs s d n, f a xs s d ≠ .exc n) (hf : ∀ a xs s d, ((f a xs s d).bd fun _ => .ok ()) = g s d)
    (hg : ∀ a xs s, GG X tg vs (out a xs s) (f a xs s)) (hb : ∀ a xs s d ρ', f a xs s d = .ok ρ' → SV X W rk ρ' body (rb d s) (fun t => match t with | .next s => .nx (out a xs s) | .ret d => .rt d)) (hs : ∀ z, foldedSetIterable (.Name x px) X.env z = pure z := by intro _; rfl) :
    S1 X W rk ρ (.For tg (.Name x px) body [] pos) (onL d0 fun ds => forC (fun d s => (g s d).bd fun _ => rb d s) ds s0) (fun t => match t with | .next s => .nx (outF s) | .ret d => .rt d) := by
  have hg' : PG X tg (fun x σ H Q => ∃ a xs s B H0 F d, Good B H0 F H (out a xs s) σ ∧ Dp X.K F x d ∧ f a xs s d ≠ .stuck ∧ ∀ ρ' σ', f a xs s d = .ok ρ' → Good B H0 F H ρ' σ' → Q σ' H) := ⟨fun pins s' σ H v u Q I r ⟨a, xs, s, B, H0, F, d, g, p, n, k⟩ => by
    obtain ⟨gt, g1, g2⟩ := hg a xs s
    exact g1.run pins s' σ H v u Q I r (g2 B H0 F H σ v d Q g p n fun ρ' σ' e g' _ => k ρ' σ' e g')⟩
  have hb' : PSs X body (fun D σ H => ∃ a xs s d ρ' B H0 F, f a xs s d = .ok ρ' ∧ Good B H0 F H ρ' σ ∧ KS X W rk B H0 (rb d s) (fun t => match t with | .next s => .nx (out a xs s) | .ret d => .rt d) D) := ⟨fun pins s' σ H D I ⟨a, xs, s, d, ρ', B, H0, F, e, g, k⟩ => by
    obtain ⟨u, u1, u2⟩ := hb a xs s d ρ' e
    exact u1.run pins s' σ H D I (u2 B H0 F H σ D g k)⟩
  refine ⟨_, ps_for C.po C.calm (pi_list (pe_var hN hv hd hcd)) hg' hb' hs, fun B H0 F1 H1 σ D g1 q => ?_⟩
  obtain ⟨ds, rfl⟩ := onL_ns q.ns
  rw [onL_list] at q
  obtain ⟨a, xs, o1, o2, o3, g1'⟩ := g1.fix hρ
  refine ⟨.ref a, o1, a, rfl, ⟨xs, SqL.of o2⟩, ?_⟩
  obtain ⟨F2, s12, g2⟩ := hw a xs B H0 F1 H1 σ g1'
  have lenxs : xs.length = ds.length := DpAll.length o3
  refine ⟨fun i m σ H => m = ds.length - i ∧ i ≤ ds.length ∧ ∃ F s, Good F2 (hl H0 F2 H1) F H (out a xs s) σ ∧ forC (fun d s => (g s d).bd fun _ => rb d s) (ds.drop i) s = forC (fun d s => (g s d).bd fun _ => rb d s) ds s0, ⟨ds.length, by simp, Nat.zero_le _, F2, s0, g2.inl, rfl⟩, ?_⟩
  rintro j m σ3 H3 ⟨rfl, hi, F3, s3, g3, hr⟩
  have gfix : H3 a = some (.lst xs) ∧ DpAll X.K F3 xs ds := by
    obtain ⟨_, _, ass, h1, _, _⟩ := g3
    obtain ⟨v, as, _, _, q1, q2, q3, ds', q4, q5⟩ := h1.get (ho a xs s3)
    cases q4
    exact ⟨q3, q5⟩
  have sq3 : SqL X.K H3 a xs := SqL.of gfix.1
  by_cases hlt : j < ds.length
  · have dget : ds[j]? = some ds[j] := List.getElem?_eq_getElem hlt
    obtain ⟨v, v1, v2⟩ := DpAll.get gfix.2 dget
    refine .inr ⟨⟨xs, v, sq3, v1⟩, fun σ H => j + 1 ≤ ds.length ∧ ∃ F s, Good F2 (hl H0 F2 H1) F H (out a xs s) σ ∧ forC (fun d s => (g s d).bd fun _ => rb d s) (ds.drop (j + 1)) s = forC (fun d s => (g s d).bd fun _ => rb d s) ds s0, fun σ' H' z => ⟨ds.length - (j + 1), by omega, rfl, z⟩, fun x H4 y => ?_⟩
    obtain ⟨y1, y2⟩ := y
    subst y1
    have hxv := y2 xs sq3
    rw [v1] at hxv
    cases hxv
    have hdrop : ds.drop j = ds[j] :: ds.drop (j + 1) := List.drop_eq_getElem_cons hlt
    rw [hdrop] at hr
    generalize hdi : ds[j] = d at *
    rw [forC_cons] at hr
    obtain ⟨ρ', hf'⟩ : ∃ ρ', f a xs s3 d = .ok ρ' := by
      cases e : f a xs s3 d with
      | ok ρ' => exact ⟨ρ', rfl⟩
      | exc n => exact absurd e (hx a xs s3 d n)
      | stuck =>
        rw [← hf a xs s3 d, e] at hr
        exact absurd hr.symm (by first | exact q.ns | (intro z; exact q.ns z))
    have hgd : g s3 d = .ok () := by rw [← hf a xs s3 d, hf']; rfl
    refine ⟨a, xs, s3, F2, hl H0 F2 H1, F3, d, g3, v2, by rw [hf']; exact ok_ns _, fun ρ2 σ2 e2 g4 => ⟨a, xs, s3, d, ρ2, F2, hl H0 F2 H1, F3, e2, g4, ?_⟩⟩
    simp only [hgd, bd_ok] at hr
    refine ⟨fun z => q.ns (by rw [← hr, z]; rfl), fun t et => ?_, fun n en H' C' σ' c z => ?_⟩
    · rw [et] at hr
      cases t with
      | next s5 => exact fun F' H' σ' g5 => ⟨hlt, F', s5, g5, hr⟩
      | ret d5 =>
        have z := q.ok (.ret d5) hr.symm
        exact fun v F' H' e5 f5 a5 => z v F' H' (ex_out g2.ex e5) f5 (by
          cases rk with
          | V => exact a5
          | T => exact a5
          | O => obtain ⟨as, h1, h2⟩ := a5; exact ⟨as, h1, fun a ha => ⟨hl_free g2.ex (h2 a ha).1, (h2 a ha).2⟩⟩
          | P => obtain ⟨as, h1, h2⟩ := a5; exact ⟨as, h1, fun a ha => ⟨hl_free g2.ex (h2 a ha).1, (h2 a ha).2⟩⟩)
    · rw [en] at hr
      exact q.xc n hr.symm H' C' σ' c fun a o ha => z a o (by rw [hl_some (by rw [ha]; exact fun z => nomatch z)]; exact g2.ex.hh a o ha)
  · have e : j = ds.length := by omega
    subst e
    rw [List.drop_length] at hr
    have z := q.ok (.next s3) hr.symm
    refine .inl ⟨⟨xs, sq3, by rw [lenxs]; exact Nat.le_refl _⟩, z F3 H3 σ3 ?_⟩
    have g5 := Good.out g2.ex g3
    have g6 := g5.unfix (ho a xs s3)
    rwa [hF a xs s3] at g6
end
end DL
/-! Ready forms: rows of one's own by a comprehension; walks over a list of one's own; nested targets. -/
namespace DL
open PySem L2
section
variable {X : Cx} {W : WX} {rk : Md} {ρ : Env X.K} {S : Type} {iter tg elt : Expr} {ifs : List Expr} {scope : Scope} {body : List Stmt} {rs : Res (List D)} {pos p0 p1 p2 p3 p4 spos py px : Pos} {x y z xw : Str} {k k2 : Nat}
theorem s1_ckM1 [C : Ctx X W] {cond : D → Res Bool} {elt' : D → Res D} (i j : Nat) (hi : IG X W ρ (.Name x p1) iter rs) (ok : BlkOk X.N X.env.scope scope [(x, j)]) (hn1 : Blks X scope fun Y => NmOk Y j x)
    (ht : ∀ (s : Shared) (H : Hp) (C : Addr) (cl : List (Str × Addr)) (fp : List Addr) (a : D), QG (X.blk s H scope (compEnvC scope cl C X.env) fp) W0 ((wipeE ρ [j]).set j (cVal a)) ifs (cond a))
    (he : ∀ (s : Shared) (H : Hp) (C : Addr) (cl : List (Str × Addr)) (fp : List Addr) (a : D), EG (X.blk s H scope (compEnvC scope cl C X.env) fp) W0 ((wipeE ρ [j]).set j (cVal a)) .O elt (elt' a))
    (hy : X.N[i]? = some y := by rfl) (hyl : X.env.scope.names.lookup y = some .local := by rfl)
    (hsw : swapsWith (.ListComp elt [⟨.Name x p1, iter, ifs, 0⟩] scope pos) (some (.Name y py)) spos.line X.env = pure true := by exact sw_true rfl rfl rfl (by decide +kernel)) (hs : ∀ x, foldedSetIterable iter X.env x = pure x := by intro _; rfl) :
    S1 X W rk ρ (.Assign [.Name y py] (.ListComp elt [⟨.Name x p1, iter, ifs, 0⟩] scope pos) spos) (rs.bd fun ds => (lcR cond (fun d => (elt' d).bd ownL) ds).bd lstR) (fun d => .nx (ρ.set i (cRows d))) :=
  s1_setRows (rk := rk) (spos := spos) (pos := pos) (own := [(x, j)]) (f := fun a => .ok ((wipeE ρ [j]).set j (cVal a))) (cond := cond) (elt' := elt') i hy hyl (.inl hsw) hi ok (fun _ _ z => nomatch z) (fun s H c cl fp => gg1 j (blk_nd C.nd) (hn1 s H c cl fp) (by simp))
    (fun s H c cl fp d ρ' e => by cases e; exact ht s H c cl fp d) (fun s H c cl fp d ρ' e => by cases e; exact he s H c cl fp d) hs
theorem s1_forCO1 [C : Ctx X W] {d0 : D} {out : Addr → List V → S → Env X.K} {outF : S → Env X.K} {rb : D → S → Res (Ctl S)} (i j : Nat) (s0 : S) (hρ : ρ[i]? = some (cRes d0))
    (hw : ∀ a xs, Wk (ρ.set i (cFix a xs d0)) (out a xs s0)) (ho : ∀ a xs s, (out a xs s)[i]? = some (cFix a xs d0)) (hF : ∀ a xs s, (out a xs s).set i (cRes d0) = outF s) (hn1 : NmOk X j x)
    (hb : ∀ a xs s (v : D), SV X W rk ((out a xs s).set j (cVal v)) body (rb v s) (fun t => match t with | .next s => .nx (out a xs s) | .ret d => .rt d))
    (hN : X.N[i]? = some xw := by rfl) (hv : Vis X.env.scope xw := by first | exact Or.inl rfl | exact Or.inr (Or.inl rfl) | exact Or.inr (Or.inr rfl)) (hd : (xw == ("__debug__" : Str)) = false := by decide) (hcd : (xw == ("__classdict__" : Str)) = false := by decide) (hs : ∀ z, foldedSetIterable (.Name xw px) X.env z = pure z := by intro _; rfl) :
    S1 X W rk ρ (.For (.Name x p1) (.Name xw px) body [] pos) (onL d0 fun ds => forC rb ds s0) (fun t => match t with | .next s => .nx (outF s) | .ret d => .rt d) :=
  s1_forCO (vs := [j]) (pos := pos) (rk := rk) (f := fun a xs s v => .ok ((out a xs s).set j (cVal v))) (g := fun _ _ => .ok ()) (rb := rb) i hρ hN hv hd hcd hw ho hF (fun _ _ _ _ _ z => nomatch z) (fun _ _ _ _ => rfl) (fun a xs s => gg1 j C.nd hn1 (by simp)) (fun a xs s d ρ' e => by cases e; exact hb a xs s d) hs
theorem s1_forCO3 [C : Ctx X W] {d0 : D} {out : Addr → List V → S → Env X.K} {outF : S → Env X.K} {rb : D → D → D → S → Res (Ctl S)} (i j l m : Nat) (s0 : S) (hρ : ρ[i]? = some (cRes d0))
    (hw : ∀ a xs, Wk (ρ.set i (cFix a xs d0)) (out a xs s0)) (ho : ∀ a xs s, (out a xs s)[i]? = some (cFix a xs d0)) (hF : ∀ a xs s, (out a xs s).set i (cRes d0) = outF s) (hn1 : NmOk X j x) (hn2 : NmOk X l y) (hn3 : NmOk X m z) (ha : AsOk X (.Name x p1) [.Name y p2, .Name z p3] ∧ AsOk X (.Name y p2) [.Name z p3] ∧ AsOk X (.Name z p3) [] ∧ TupOk X [.Name x p1, .Name y p2, .Name z p3] 3)
    (hb : ∀ a xs s (u v w : D), SV X W rk ((((out a xs s).set j (cVal u)).set l (cVal v)).set m (cVal w)) body (rb u v w s) (fun t => match t with | .next s => .nx (out a xs s) | .ret d => .rt d))
    (hN : X.N[i]? = some xw := by rfl) (hv : Vis X.env.scope xw := by first | exact Or.inl rfl | exact Or.inr (Or.inl rfl) | exact Or.inr (Or.inr rfl)) (hd : (xw == ("__debug__" : Str)) = false := by decide) (hcd : (xw == ("__classdict__" : Str)) = false := by decide) (hs : ∀ z, foldedSetIterable (.Name xw px) X.env z = pure z := by intro _; rfl) :
    S1 X W rk ρ (.For (.Tuple [.Name x p1, .Name y p2, .Name z p3] k p0) (.Name xw px) body [] pos) (onL d0 fun ds => forC (fun d s => un3 d fun a b c => rb a b c s) ds s0) (fun t => match t with | .next s => .nx (outF s) | .ret d => .rt d) := by
  have q := s1_forCO (vs := [j, l, m]) (pos := pos) (rk := rk) (px := px) (x := xw) (s0 := s0) (f := fun a xs s d => un3 d fun u v w => .ok ((((out a xs s).set j (cVal u)).set l (cVal v)).set m (cVal w))) (g := fun _ d => un3 d fun _ _ _ => .ok ()) (rb := fun d s => un3 d fun a b c => rb a b c s) i hρ hN hv hd hcd hw ho hF (fun _ _ _ _ n => un3_ex (fun _ _ _ _ => ok_ne) n) (fun _ _ _ d => by unfold un3; split <;> rfl) (fun a xs s => gg3 (k := k) (pos := p0) j l m C.calm C.nd hn1 hn2 hn3 (by simp) (by simp) (by simp) ha.1 ha.2.1 ha.2.2.1 ha.2.2.2)
    (fun a xs s d ρ' e => by obtain ⟨u, v, w, rfl, e2⟩ := un3_ok e; cases e2; exact hb a xs s u v w) hs
  simp only [un3_bd] at q
  exact q
theorem s1_mapO {r : Res S} {st : Stmt} {fin' : S → Fin X.K} {fin2 : Ctl S → Fin X.K} (hf : ∀ s, fin2 (.next s) = fin' s) (hh : S1 X W rk ρ st (r.bd fun s => .ok (Ctl.next s)) fin2) : S1 X W rk ρ st r fin' := s1_map (h := Ctl.next) hf hh
theorem onL_bd {α β : Type} (d : D) (f : List D → Res α) (g : α → Res β) : (onL d f).bd g = onL d fun ds => (f ds).bd g := by
  cases d <;> rfl
theorem s1_forO1 [C : Ctx X W] {d0 : D} {out : Addr → List V → S → Env X.K} {outF : S → Env X.K} {rb : D → S → Res S} (i j : Nat) (s0 : S) (hρ : ρ[i]? = some (cRes d0))
    (hw : ∀ a xs, Wk (ρ.set i (cFix a xs d0)) (out a xs s0)) (ho : ∀ a xs s, (out a xs s)[i]? = some (cFix a xs d0)) (hF : ∀ a xs s, (out a xs s).set i (cRes d0) = outF s) (hn1 : NmOk X j x)
    (hb : ∀ a xs s (v : D), SV X W rk ((out a xs s).set j (cVal v)) body (rb v s) (fun s => .nx (out a xs s)))
    (hN : X.N[i]? = some xw := by rfl) (hv : Vis X.env.scope xw := by first | exact Or.inl rfl | exact Or.inr (Or.inl rfl) | exact Or.inr (Or.inr rfl)) (hd : (xw == ("__debug__" : Str)) = false := by decide) (hcd : (xw == ("__classdict__" : Str)) = false := by decide) (hs : ∀ z, foldedSetIterable (.Name xw px) X.env z = pure z := by intro _; rfl) :
    S1 X W rk ρ (.For (.Name x p1) (.Name xw px) body [] pos) (onL d0 fun ds => forN rb ds s0) (fun s => .nx (outF s)) := by
  refine s1_mapO (fin2 := fun t => match t with | .next s => .nx (outF s) | .ret d => .rt d) (fun _ => rfl) ?_
  have q := s1_forCO1 (rk := rk) (pos := pos) (p1 := p1) (px := px) (xw := xw) (x := x) (rb := fun d s => (rb d s).bd fun s => .ok (.next s)) i j s0 hρ hw ho hF hn1 (fun a xs s v => sv_map (fun _ => rfl) (hb a xs s v)) hN hv hd hcd hs
  rw [onL_bd]
  simp only [forN_C] at q
  exact q
theorem s1_forO3 [C : Ctx X W] {d0 : D} {out : Addr → List V → S → Env X.K} {outF : S → Env X.K} {rb : D → D → D → S → Res S} (i j l m : Nat) (s0 : S) (hρ : ρ[i]? = some (cRes d0))
    (hw : ∀ a xs, Wk (ρ.set i (cFix a xs d0)) (out a xs s0)) (ho : ∀ a xs s, (out a xs s)[i]? = some (cFix a xs d0)) (hF : ∀ a xs s, (out a xs s).set i (cRes d0) = outF s) (hn1 : NmOk X j x) (hn2 : NmOk X l y) (hn3 : NmOk X m z) (ha : AsOk X (.Name x p1) [.Name y p2, .Name z p3] ∧ AsOk X (.Name y p2) [.Name z p3] ∧ AsOk X (.Name z p3) [] ∧ TupOk X [.Name x p1, .Name y p2, .Name z p3] 3)
    (hb : ∀ a xs s (u v w : D), SV X W rk ((((out a xs s).set j (cVal u)).set l (cVal v)).set m (cVal w)) body (rb u v w s) (fun s => .nx (out a xs s)))
    (hN : X.N[i]? = some xw := by rfl) (hv : Vis X.env.scope xw := by first | exact Or.inl rfl | exact Or.inr (Or.inl rfl) | exact Or.inr (Or.inr rfl)) (hd : (xw == ("__debug__" : Str)) = false := by decide) (hcd : (xw == ("__classdict__" : Str)) = false := by decide) (hs : ∀ z, foldedSetIterable (.Name xw px) X.env z = pure z := by intro _; rfl) :
    S1 X W rk ρ (.For (.Tuple [.Name x p1, .Name y p2, .Name z p3] k p0) (.Name xw px) body [] pos) (onL d0 fun ds => forN (fun d s => un3 d fun a b c => rb a b c s) ds s0) (fun s => .nx (outF s)) := by
  refine s1_mapO (fin2 := fun t => match t with | .next s => .nx (outF s) | .ret d => .rt d) (fun _ => rfl) ?_
  have q := s1_forCO3 (rk := rk) (pos := pos) (p0 := p0) (p1 := p1) (p2 := p2) (p3 := p3) (k := k) (px := px) (xw := xw) (x := x) (y := y) (z := z) (rb := fun a b c s => (rb a b c s).bd fun s => .ok (.next s)) i j l m s0 hρ hw ho hF hn1 hn2 hn3 ha (fun a xs s u v w => sv_map (fun _ => rfl) (hb a xs s u v w)) hN hv hd hcd hs
  rw [onL_bd]
  have e : (fun (d : D) (s : S) => un3 d fun a b c => (rb a b c s).bd fun s => Res.ok (Ctl.next s)) = fun d s => (un3 d fun a b c => rb a b c s).bd fun s => Res.ok (Ctl.next s) := by
    funext d s
    unfold un3
    split <;> rfl
  rw [e] at q
  simp only [forN_C] at q
  exact q
/-- a number and a pair -/
def un12 {α : Type} (d : D) (f : D → D → D → Res α) : Res α := match d with
  | .tuple [a, .tuple [b, c]] => f a b c
  | _ => .stuck
theorem un12_ex {α : Type} {d : D} {f : D → D → D → Res α} (hf : ∀ a b c n, f a b c ≠ .exc n) (n : Str) : un12 d f ≠ .exc n := by
  unfold un12
  split
  · exact hf _ _ _ n
  · exact fun z => nomatch z
theorem un12_ok {α : Type} {d : D} {f : D → D → D → Res α} {r : α} (h : un12 d f = .ok r) : ∃ a b c, d = .tuple [a, .tuple [b, c]] ∧ f a b c = .ok r := by
  unfold un12 at h
  split at h
  · exact ⟨_, _, _, rfl, h⟩
  · cases h
theorem un12_bd {α β : Type} (d : D) (f : D → D → D → α) (g : D → D → D → Res β) : ((un12 d fun a b c => Res.ok (f a b c)).bd fun _ => un12 d g) = un12 d g := by
  unfold un12; split <;> rfl
theorem gg12 {vs : List Nat} (i j l : Nat) (hc : X.calm = true) (hN : X.N.Nodup) (hx : NmOk X i x) (hy : NmOk X j y) (hz : NmOk X l z) (vi : i ∈ vs) (vj : j ∈ vs) (vl : l ∈ vs) (s2 : AsOk X (.Name x p1) [.Tuple [.Name y p2, .Name z p3] k2 p4]) (s1 : AsOk X (.Tuple [.Name y p2, .Name z p3] k2 p4) []) (ht : TupOk X [.Name x p1, .Tuple [.Name y p2, .Name z p3] k2 p4] 2)
    (t2 : AsOk X (.Name y p2) [.Name z p3]) (t1 : AsOk X (.Name z p3) []) (tt : TupOk X [.Name y p2, .Name z p3] 2) :
    GG X (.Tuple [.Name x p1, .Tuple [.Name y p2, .Name z p3] k2 p4] k p0) vs ρ (fun d => un12 d fun a b c => .ok (((ρ.set i (cVal a)).set j (cVal b)).set l (cVal c))) := by
  have h := gg_tup (k := k) (pos := p0) (ρ := ρ) (vs := vs) hc (ggs_cons (gg1 (pos := p1) i hN hx vi) (fun ρ' => ggs_cons (gg2 (ρ := ρ') (k := k2) (pos := p4) (p1 := p2) (p2 := p3) j l hc hN hy hz vj vl t2 t1 tt) (fun ρ2 => ggs_nil) (fun d n => un2_ex (fun _ _ _ => ok_ne) n) fun u hu g hg => pgs_cons hg hu s1) (fun _ _ z => nomatch z) fun u hu g hg => pgs_cons hg hu s2) ht.1 ht.2
  have e : (fun d => un12 d fun a b c => Res.ok (((ρ.set i (cVal a)).set j (cVal b)).set l (cVal c))) = tupE 2 (consE (fun a => .ok (ρ.set i (cVal a))) fun ρ' => consE (fun d => un2 d fun a b => .ok ((ρ'.set j (cVal a)).set l (cVal b))) fun ρ2 ds => match ds with | [] => .ok ρ2 | _ => .stuck) := by
    funext d
    cases d with
    | tuple ds =>
      match ds with
      | [] => rfl
      | [_] => rfl
      | [a, b] =>
        cases b with
        | tuple es =>
          match es with
          | [] => rfl
          | [_] => rfl
          | [_, _] => rfl
          | _ :: _ :: _ :: _ => rfl
        | _ => rfl
      | a :: b :: c :: rest =>
        have : un12 (α := Env X.K) (.tuple (a :: b :: c :: rest)) (fun a b c => Res.ok (((ρ.set i (cVal a)).set j (cVal b)).set l (cVal c))) = .stuck := by
          unfold un12
          split
          · rename_i h; cases h
          · rfl
        rw [this]
        unfold tupE
        simp
    | _ => rfl
  rw [e]
  exact h
theorem s1_for12 [C : Ctx X W] {out : S → Env X.K} {rb : D → D → D → S → Res S} (i j l : Nat) (s0 : S) (hi : IF' X W ρ (.Tuple [.Name x p1, .Tuple [.Name y p2, .Name z p3] k2 p4] k p0) iter rs) (hw : Wk ρ (out s0)) (hn1 : NmOk X i x) (hn2 : NmOk X j y) (hn3 : NmOk X l z)
    (ha : AsOk X (.Name x p1) [.Tuple [.Name y p2, .Name z p3] k2 p4] ∧ AsOk X (.Tuple [.Name y p2, .Name z p3] k2 p4) [] ∧ TupOk X [.Name x p1, .Tuple [.Name y p2, .Name z p3] k2 p4] 2 ∧ AsOk X (.Name y p2) [.Name z p3] ∧ AsOk X (.Name z p3) [] ∧ TupOk X [.Name y p2, .Name z p3] 2)
    (hb : ∀ s (a b c : D), SV X W rk ((((out s).set i (cVal a)).set j (cVal b)).set l (cVal c)) body (rb a b c s) (fun s => .nx (out s))) (hs : ∀ x, foldedSetIterable iter X.env x = pure x := by intro _; rfl) :
    S1 X W rk ρ (.For (.Tuple [.Name x p1, .Tuple [.Name y p2, .Name z p3] k2 p4] k p0) iter body [] pos) (rs.bd fun ds => forN (fun d s => un12 d fun a b c => rb a b c s) ds s0) (fun s => .nx (out s)) := by
  have q := s1_for (pos := pos) (rk := rk) (s0 := s0) (vs := [i, j, l]) (f := fun s d => un12 d fun a b c => .ok ((((out s).set i (cVal a)).set j (cVal b)).set l (cVal c))) (rb := fun d s => un12 d fun a b c => rb a b c s) hi hw (fun s d n => un12_ex (fun _ _ _ _ => ok_ne) n) (fun s => gg12 i j l C.calm C.nd hn1 hn2 hn3 (by simp) (by simp) (by simp) ha.1 ha.2.1 ha.2.2.1 ha.2.2.2.1 ha.2.2.2.2.1 ha.2.2.2.2.2) (fun s d ρ' e => by obtain ⟨a, b, c, rfl, e2⟩ := un12_ok e; cases e2; exact hb s a b c) hs
  simp only [un12_bd] at q
  exact q
end
end DL
/-! any(xs) of a tuple of whole numbers, or of what anyW takes -/
namespace DL
open PySem L2 PySem.Spec PyProof.Rows
def rAnyT (K : PySem.W.Frag) : List V → Hp → VK → Prop := fun vs H Q => ∃ (a : Addr) (ns : List Int), vs = [V.ref a] ∧ SqT K H a (ns.map V.int) ∧ Q (.bl (ns.any (· != 0))) H
theorem iter_anyT {prog : Program} {w : World} {A : Around} {E : Value → Shared → Prop} {s : Shared} {l : Addr} {items : Array Value} {Q : Value → Shared → Prop} (hl : s.heap.IsTuple l items)
    (h : ∀ s₂ : Shared, s₂ = { s with heap := s.heap.push { cls := .type "tuple_iterator", data := .fields #[.ref l, .int 0 0] } } →
      (s₂.heap.IsTupleIter s.heap.objs.size l 0 ∧ s₂.heap.IsTuple l items) → l ≠ s.heap.objs.size → Q (.ref s.heap.objs.size) s₂) : wpAny (model prog w) A (pyIter (.ref l)) Q E s := by
  have hlt : l < s.heap.objs.size := by obtain ⟨_, e, _⟩ := hl; exact Heap.lt_size e
  exact wpAny_pyIter_tuple hl (h _ rfl ⟨⟨_, Heap.get?_push_size _ rfl, rfl, rfl⟩, hl.at fun o e => Heap.get?_push_of_some _ e⟩ (Nat.ne_of_lt hlt))
theorem cr_anyT {X : Cx} (hc : X.calm = true) : CallR X (.builtin "any") (rAnyT X.K) := by
  intro pins s σ H vs us Q I r h
  obtain ⟨a, ns, rfl, hs, q⟩ := h
  obtain ⟨its, rv, hl, _⟩ := I.tuple hs
  rw [Vals.ref1 r]
  have hb := rv.ints
  refine call_any_walk (iter_anyT (show s.heap.IsTuple a its.toArray from hl) fun s₂ e2 st hne => ?_)
  subst e2
  refine ⟨_, _, _, _, _, _, _, rfl, Walks.tuple (A := X.A.in1) (I.ok.hd hc) _ a hne its.toArray, st, truth_ints hb, fun h' tk hk => ?_⟩
  refine ⟨.bl _, H, I.kept fun b o eo => hk b o (fun hmem => ?_) (Heap.get?_push_of_some _ eo), ?_, q⟩
  · rcases List.mem_cons.mp hmem with e1 | hmem
    · exact absurd (e1 ▸ Heap.lt_size eo) (Nat.lt_irrefl _)
    · cases hmem
  · show Value.bool _ = Value.bool _
    have hl : ns.length = its.length := intsAre_len hb
    rw [← any_rangeI, hl, List.size_toArray]
/-- any of a list of truths or numbers, or of a tuple of numbers -/
def anyZ : D → Res D
  | .tuple xs => optB ((intsOf xs).map (·.any (· != 0)))
  | d => anyW d
theorem cr_any3 {X : Cx} (hc : X.calm = true) : CallR X (.builtin "any") (fun vs H Q => rAny2 X.K vs H Q ∨ rAnyT X.K vs H Q) := by
  intro pins s σ H vs us Q I r h
  rcases h with h | h
  · exact cr_any2 hc pins s σ H vs us Q I r h
  · exact cr_anyT hc pins s σ H vs us Q I r h
theorem b_anyZ {X : Cx} {W : WX} [C : Ctx X W] : C1D X W (.builtin "any") .V anyZ := by
  refine ⟨_, cr_any3 C.calm, fun F H σ x d Q s h k => ?_⟩
  cases d <;> first | exact absurd rfl k.ns | skip
  case list ds =>
    obtain ⟨a, xs, rfl, q1, q2⟩ := tp_list h
    refine .inl ?_
    cases c : blsOf ds with
    | some ns =>
      obtain ⟨h1, h2⟩ := blsOf_dp c q2
      subst h1
      exact .inl ⟨a, ns, rfl, q1, kn_flat (k.of_eq (r' := .ok (.bool (ns.any id))) (by simp [anyZ, anyW, c])) s rfl (.bl _)⟩
    | none =>
      cases c2 : intsOf ds with
      | none => exact absurd (by simp [anyZ, anyW, c, c2, optB]) k.ns
      | some ns =>
        obtain ⟨h1, h2⟩ := intsOf_dp c2 q2
        subst h1
        exact .inr ⟨a, ns, rfl, q1, kn_flat (k.of_eq (r' := .ok (.bool (ns.any (· != 0)))) (by simp [anyZ, anyW, c, c2, optB])) s rfl (.bl _)⟩
  case tuple ds =>
    obtain ⟨a, xs, rfl, q1, q2⟩ := tp_tup h
    cases c2 : intsOf ds with
    | none => exact absurd (by simp [anyZ, c2, optB]) k.ns
    | some ns =>
      obtain ⟨h1, h2⟩ := intsOf_dp c2 q2
      subst h1
      exact .inr ⟨a, ns, rfl, Same.tup s q1, kn_flat (k.of_eq (r' := .ok (.bool (ns.any (· != 0)))) (by simp [anyZ, c2, optB])) s rfl (.bl _)⟩
end DL
/-! xs.extend(a tuple) -/
namespace DL
open PySem L2 PySem.Spec PyProof.Rows
theorem extend_tup_meets (l : Addr) (items : Array Value) (n : Nat) (b : Addr) (items2 : Array Value) (n2 : Nat) (dd : Option Addr) (sl : Array (Option Value)) (hs0 : ¬(!items.isEmpty && Builtin.List.listTooLong (items.size + items2.size)) = true) (hs1 : items.size ≤ sizeLine) (hs2 : items.size + items2.size ≤ sizeLine + 1) :
    Meets (Builtin.«list.extend» ⟨[.ref l, .ref b], []⟩) (fun _ R s => s.heap.get? l = some { cls := .type "list", dict := none, data := .seq items n, slots := #[] } ∧ s.heap.get? b = some { cls := .type "tuple", dict := dd, data := .seq items2 n2, slots := sl } ∧ R (.ok (.ret Value.none)) { s with heap := s.heap.update l (Obj.mapSeq fun x => x ++ items2), toks := s.toks }) :=
  .of_wp fun prog w A R s h => by
    obtain ⟨hp, g, d, tk, os⟩ := s; obtain ⟨hl, hb, h⟩ := h; have f1 := AutoSeq1.idx_int; have f2 := AutoSeq1.sub_tuple_tuple; have f3 := AutoSeq1.sub_list_list; have f4 := AutoSeq1.sub_tuple_list; have f5 := AutoSeq1.sub_list_tuple;
    have hz' : (items ++ items2).size ≤ sizeLine + 1 := by rw [Array.size_append]; exact hs2
    wp_walk using (wpAny_updateSeq hl rfl (hz := hs1) (_hz' := hz')), wpAny_loadPart' hl, wpAny_loadPart' hb; exact ⟨_, rfl, h⟩
def rExtT (K : PySem.W.Frag) : V → List V → Hp → VK → Prop := fun x vs H Q => ∃ l b xs zs, x = .ref l ∧ vs = [.ref b] ∧ H l = some (.lst xs) ∧ SqT K H b zs ∧ xs.length + zs.length ≤ sizeLine ∧ Q .non (upd H l (.lst (xs ++ zs)))
theorem mt_extT {X : Cx} : MtM X "list.extend" (rExtT X.K) := by
  intro pins s σ H x vs v us Q I rx rv h
  obtain ⟨l, b, xs, zs, rfl, rfl, hH, hB, hz, q⟩ := h
  cases rx
  obtain ⟨u, rfl, ru⟩ := rv.one
  cases ru
  obtain ⟨z, its, n, r, hl, e⟩ := I.lstM hH
  obtain ⟨its2, r2, ⟨⟨cls, dd, data, sl⟩, ho, hc, n2, hd⟩, hs⟩ := I.tuple hB
  simp only at hc hd
  subst hc hd
  have hl2 : its2.length = zs.length := r2.length.symm
  have hsz : its.toArray.size + its2.toArray.size ≤ sizeLine := by rw [List.size_toArray, List.size_toArray]; omega
  have hlong : ¬ (!its.toArray.isEmpty && Builtin.List.listTooLong (its.toArray.size + its2.toArray.size)) = true := by
    rw [notLongL hsz, Bool.and_false]
    exact Bool.false_ne_true
  refine call_meets F.slot_list_extend ⟨_, e, rfl⟩ F.entry_list_extend (F.args_list_extend_2 _ _)
    (extend_tup_meets l its.toArray n b its2.toArray n2 dd sl hlong (by rw [List.size_toArray]; omega) (by omega)) ⟨e, ho, ?_⟩
  refine ⟨.non, _, I.lset (its' := its ++ its2) hH e (by simp) (r.append r2) ?_, rfl, q⟩
  rw [List.length_append]
  omega
def extT (ds : List D) (d : D) : Res D := match d with
  | .tuple es => if fits (ds.length + es.length) then .ok (.list (ds ++ es)) else .stuck
  | _ => .stuck
section
variable {X : Cx} {W : WX} {rk : Md} {ρ : Env X.K} {e : Expr} {r : Res D} {pos : Pos}
theorem s1_extendT [C : Ctx X W] {x : Str} {p2 apos cpos : Pos} {d0 : D} (i : Nat) (hρ : ρ[i]? = some (cRes d0)) (he : EG X W ρ .V e r) (hN : X.N[i]? = some x := by rfl) (hv : Vis X.env.scope x := by first | exact Or.inl rfl | exact Or.inr (Or.inl rfl) | exact Or.inr (Or.inr rfl))
    (hd : (x == ("__debug__" : Str)) = false := by decide) (hcd : (x == ("__classdict__" : Str)) = false := by decide)
    (hbase : attributeBase (.Name x p2) "extend" X.env (eval (.Name x p2) X.env) = eval (.Name x p2) X.env := by rfl)
    (hfew : ((backTo cpos (starEach [e] X.env)).all (fun x => !x.1) && (backToKw cpos (keywordEach [] X.env)).all (fun x => x.1.isSome) && decide (([e] : List Expr).length + ([] : List Keyword).length + (if ([] : List Keyword).isEmpty then 0 else 1) < 30)) = true := by rfl)
    (hline : (apos.endLine == cpos.line) = true := by rfl) (hs : starEach [e] X.env = (false, eval e X.env) :: starEach [] X.env := by rfl) (hplain : (backTo cpos (starEach [] X.env)).any (·.1) = false := by rfl)
    (hsw : swapsWith (.Call (.Attribute (.Name x p2) "extend" apos) [e] [] cpos) none pos.line X.env = pure false := by rfl) :
    S1 X W rk ρ (.Expr (.Call (.Attribute (.Name x p2) "extend" apos) [e] [] cpos) pos) (onL d0 fun ds => r.bd fun d => extT ds d) (fun d => .nx (ρ.set i (cRes d))) := by
  obtain ⟨t, h1, h2⟩ := he
  refine ⟨_, ps_expr (pe_bm PySem.F.plainAttrs_list PySem.F.slot_list_extend PySem.F.type_list_extend mt_extT (pe_var hN hv hd hcd) (pa_cons h1 pa_nil hs) hbase hfew hline hs hplain) hsw, fun B H0 F H σ D g q => ?_⟩
  obtain ⟨ds, rfl⟩ := onL_ns q.ns
  rw [onL_list] at q
  obtain ⟨a, xs, o1, o2, o3, o4, o5⟩ := g.own hρ
  refine ⟨_, o1, .inl ⟨rfl, _, SqL.of o2⟩, h2 B H0 F H σ _ g (KS.kn g q fun d v F1 H1 _ x s ac g' q' => ?_)⟩
  obtain ⟨a', xs', p1, p2, p3, p4, p5⟩ := g'.own hρ
  rw [o1] at p1
  cases p1
  cases d <;> first | exact absurd rfl q'.ns | skip
  rename_i es _
  have ac : Dp X.K F1 v (.tuple es) := ac
  obtain ⟨b, zs, rfl, r1, r2⟩ := tp_tup (Dp.tp s ac)
  have l := DpAll.length p4
  have l2 := DpAll.length r2
  cases c : fits (ds.length + es.length) with
  | false => exact absurd (by simp only [extT, c]; rfl) q'.ns
  | true =>
    have q2 := q'.of_eq (r' := .ok (.list (ds ++ es))) (by simp only [extT, c]; rfl)
    refine ⟨a, b, xs', zs, rfl, rfl, p2, Same.tup s r1, by rw [l, l2]; exact fits_le c, ?_⟩
    exact q2.ok _ rfl F1 _ _ (p5 _ _ (DpAll.append p4 r2))
end
end DL
/-! len(set(xs)), xs a list of tuples of ints -/
namespace DL
open PySem L2 PySem.Spec PyProof.Rows
/-- the tuples of ints of a list -/
def tupsOf : List D → Option (List (List Int))
  | [] => some []
  | .tuple ds :: r => match intsOf ds, tupsOf r with
    | some ns, some nss => some (ns :: nss)
    | _, _ => none
  | _ => none
theorem tupsOf_dp {K : PySem.W.Frag} {F : Hp} : ∀ {ds : List D} {kss : List (List Int)} {vs : List V}, tupsOf ds = some kss → DpAll K F vs ds → ∃ ks : List (Addr × List Int), vs = ks.map (fun p => V.ref p.1) ∧ ks.map (·.2) = kss ∧ ∀ p ∈ ks, SqT K F p.1 (p.2.map V.int)
  | [], _, _, e, .nil => by cases e; exact ⟨[], rfl, rfl, fun _ h => nomatch h⟩
  | d :: r, kss, _, e, .cons h t => by
    cases d <;> first | (cases e; done) | skip
    rename_i es
    unfold tupsOf at e
    cases e1 : intsOf es with
    | none => rw [e1] at e; cases e
    | some ns =>
      cases e2 : tupsOf r with
      | none => rw [e1, e2] at e; cases e
      | some nss =>
        rw [e1, e2] at e
        cases e
        obtain ⟨ks, k1, k2, k3⟩ := tupsOf_dp e2 t
        cases h with
        | @tup a xs _ p1 p2 =>
          obtain ⟨q1, _⟩ := intsOf_dp e1 p2
          subst q1
          refine ⟨(a, ns) :: ks, by rw [k1]; rfl, by rw [List.map_cons, k2], fun p hp => ?_⟩
          rcases List.mem_cons.mp hp with rfl | hp
          · exact p1
          · exact k3 p hp
/-- each tuple once -/
def uqT (l : List (List Int)) : List (List Int) := l.foldl (fun acc x => if x ∈ acc then acc else acc ++ [x]) []
theorem foldT : ∀ (l acc : List (List Int)), acc.Nodup → (l.foldl (fun acc x => if x ∈ acc then acc else acc ++ [x]) acc).Nodup ∧ ∀ y, y ∈ l.foldl (fun acc x => if x ∈ acc then acc else acc ++ [x]) acc ↔ y ∈ acc ∨ y ∈ l
  | [], acc, h => ⟨h, fun y => by simp⟩
  | n :: l, acc, h => by
    by_cases hn : n ∈ acc
    · obtain ⟨h1, h2⟩ := foldT l acc h
      simp only [List.foldl_cons, if_pos hn]
      refine ⟨h1, fun y => (h2 y).trans ?_⟩
      rw [List.mem_cons]
      constructor
      · rintro (z | z)
        · exact .inl z
        · exact .inr (.inr z)
      · rintro (z | rfl | z)
        · exact .inl z
        · exact .inl hn
        · exact .inr z
    · obtain ⟨h1, h2⟩ := foldT l (acc ++ [n]) (List.nodup_append.mpr ⟨h, by simp, fun a ha b hb e => hn (by rw [List.mem_singleton.mp hb] at e; exact e ▸ ha)⟩)
      simp only [List.foldl_cons, if_neg hn]
      refine ⟨h1, fun y => (h2 y).trans ?_⟩
      rw [List.mem_append, List.mem_singleton, List.mem_cons, or_assoc]
theorem uqT_nodup (l : List (List Int)) : (uqT l).Nodup := (foldT l [] List.nodup_nil).1
theorem uqT_mem {l : List (List Int)} {y : List Int} : y ∈ uqT l ↔ y ∈ l := by
  have := (foldT l [] List.nodup_nil).2 y
  simpa [uqT] using this
def lenSetT : D → Res D
  | .list ds => match tupsOf ds with
    | some kss => if kss.length < 64 then .ok (.int (uqT kss).length) else .stuck
    | none => .stuck
  | _ => .stuck
section
variable {X : Cx} {W : WX} {ρ : Env X.K} {e a : Expr} {r ra : Res D} {pos p p2 q : Pos}
theorem eg_lenSetT [C : Ctx X W] (ha : EG X W ρ .T a ra) (hm : X.mg "len" = none) (hm2 : X.mg "set" = none) (hg : Gl X "len" := by rfl) (hg2 : Gl X "set" := by rfl) (na : starEach [a] X.env = (false, eval a X.env) :: starEach [] X.env := by rfl)
    (n2 : starEach [.Call (.Name "set" p2) [a] [] q] X.env = (false, eval (.Call (.Name "set" p2) [a] [] q) X.env) :: starEach [] X.env := by rfl) (hp : (backTo q (starEach [] X.env)).any (·.1) = false := by rfl) (hp2 : (backTo pos (starEach [] X.env)).any (·.1) = false := by rfl) :
    EG X W ρ .V (.Call (.Name "len" p) [.Call (.Name "set" p2) [a] [] q] [] pos) (ra.bd lenSetT) := by
  obtain ⟨ta, a1, a2⟩ := ha
  refine ⟨fun σ H Q => ta σ H fun x H1 => ∃ (l : Addr) (ks : List (Addr × List Int)), x = .ref l ∧ SqL X.K H1 l (ks.map fun p => V.ref p.1) ∧ (∀ p ∈ ks, SqT X.K H1 p.1 (p.2.map V.int)) ∧ ks.length < 64 ∧ Q (.int ((uqT (ks.map (·.2))).length : Nat)) H1, ⟨fun pins s σ H Q I h => ?_⟩, fun B H0 F H σ Q gd k => a2 B H0 F H σ _ gd (Kn.bd k acc_base fun d x F1 H1 _ e1 s1 q1 k1 => ?_)⟩
  · refine Call_ (ld_blt I hg hm boot_len (PyProof.Rows.callWith_builtin1 (args_cons ?_ n2) n2 hp2))
    refine Call_ (ld_blt I hg2 hm2 PyProof.Rows.boot_set (PyProof.Rows.callWith_type1 (args_cons (thn (a1.run pins s σ H _ I h) fun v s1 ⟨x, H1, I1, r1, q1⟩ => args_nil ?_) na) na hp))
    obtain ⟨l, ks, rfl, hx, hk, hl, q2⟩ := q1
    cases r1
    obtain ⟨its, rv, pl, _⟩ := I1.list hx
    refine call_set_tups (P := X.prog) (w := X.w) ks (I1.ok.hd C.calm) pl.isList (by simpa using refs_of_vals rv) (fun p hp => I1.isT (hk p hp)) hl (by have := C.hu; omega) fun h' tk L es ep t R g kk => args_nil ?_
    have I2 : Inv X pins σ H1 { s1 with heap := h', toks := tk } := I1.kept fun b o e => kk b o e
    have elen : L.length = (uqT (ks.map (·.2))).length := by
      have := nodup_len R.nd (uqT_nodup (ks.map (·.2))) fun x => by
        rw [uqT_mem]
        constructor
        · intro hx
          obtain ⟨p, hp, rfl⟩ := List.mem_map.mp hx
          exact List.mem_map.mpr ⟨p, List.mem_of_mem_take (g.sub p hp), rfl⟩
        · intro hx
          obtain ⟨p, hp, rfl⟩ := List.mem_map.mp hx
          exact g.all p (by rw [List.take_length]; exact hp)
      rwa [List.length_map] at this
    obtain ⟨o, ho, hex, hd⟩ := R.ob
    have hsz : es.size = L.length := by
      have := congrArg List.length R.rows
      simpa [rowsOf] using this
    have hf : t.fits es.size = true := SetTR.fits (s := { s1 with heap := h', toks := tk }) R
    exact call_len_set ho hex hd hf (by have := R.few; omega) ⟨.int ((uqT (ks.map (·.2))).length : Nat), H1, I2.tok _, ⟨_, by rw [hsz, elen]⟩, q2⟩
  · cases d <;> first | exact absurd rfl k1.ns | skip
    rename_i ds _
    obtain ⟨l, xs, rfl, g1, g2⟩ := tp_list q1
    cases e : tupsOf ds with
    | none => exact absurd (by simp only [lenSetT, e]) k1.ns
    | some kss =>
      by_cases hl : kss.length < 64
      · obtain ⟨ks, rfl, k2, k3⟩ := tupsOf_dp e g2
        have hkl : ks.length = kss.length := by rw [← k2, List.length_map]
        exact ⟨l, ks, rfl, g1, fun p hp => Same.tup s1 (k3 p hp), by omega, kn_flat (k1.of_eq (r' := .ok (.int ((uqT (ks.map (·.2))).length : Nat))) (by simp only [lenSetT, e]; rw [if_pos hl, k2])) s1 rfl (.int _)⟩
      · exact absurd (by simp only [lenSetT, e]; rw [if_neg hl]) k1.ns
end
end DL
/-! sorted(set(xs)), xs a list of tuples of ints -/
namespace DL
open PySem L2 PySem.Spec PyProof.Rows
theorem code_lex {B : Int} : ∀ {a b : List Int}, a.length = b.length → TS.Bd B a → TS.Bd B b → TS.code B a ≤ TS.code B b → a ≤ b
  | [], [], _, _, _, _ => List.le_refl _
  | d :: r, e :: q, hl, h1, h2, h => by
    have hl' : r.length = q.length := by simpa using hl
    rcases Int.lt_trichotomy d e with z | z | z
    · exact List.cons_le_cons_iff.mpr (.inl z)
    · subst z
      refine List.cons_le_cons_iff.mpr (.inr ⟨rfl, code_lex hl' h1.tail h2.tail ?_⟩)
      refine Int.not_lt.mp fun y => ?_
      have := (TS.code_same (B := B) (d := d) hl'.symm).mpr y
      omega
    · have := TS.code_lt hl'.symm h2.tail h1.tail z
      omega
theorem lexP_uniq : ∀ {l m : List (List Int)}, l.Perm m → l.Pairwise (· ≤ ·) → m.Pairwise (· ≤ ·) → l = m
  | [], m, h, _, _ => (List.nil_perm.mp h).symm
  | a :: l, [], h, _, _ => by have := h.length_eq; simp at this
  | a :: l, b :: m, h, p, q => by
    have e : a = b := by
      obtain ⟨p1, p2⟩ := List.pairwise_cons.mp p
      obtain ⟨q1, q2⟩ := List.pairwise_cons.mp q
      have ha : a ∈ b :: m := h.mem_iff.mp List.mem_cons_self
      have hb : b ∈ a :: l := h.mem_iff.mpr List.mem_cons_self
      rcases List.mem_cons.mp ha with e | ha
      · exact e
      · rcases List.mem_cons.mp hb with e | hb
        · exact e.symm
        · exact List.le_antisymm (p1 b hb) (q1 a ha)
    subst e
    rw [lexP_uniq h.cons_inv (List.pairwise_cons.mp p).2 (List.pairwise_cons.mp q).2]
def srtT (l : List (List Int)) : List (List Int) := l.mergeSort fun a b => decide (a ≤ b)
theorem srtT_perm (l : List (List Int)) : (srtT l).Perm l := List.mergeSort_perm _ _
theorem srtT_pw (l : List (List Int)) : (srtT l).Pairwise (· ≤ ·) := by
  have := List.pairwise_mergeSort (le := fun a b : List Int => decide (a ≤ b)) (fun a b c h1 h2 => decide_eq_true (List.le_trans (of_decide_eq_true h1) (of_decide_eq_true h2))) (fun a b => by
    rcases List.le_total a b with h | h <;> simp [h]) l
  exact this.imp fun h => of_decide_eq_true h
/-- all of one length, small -/
def evenT (kss : List (List Int)) : Bool := match kss with
  | [] => true
  | k :: _ => decide (1 ≤ k.length) && kss.all fun z => decide (z.length = k.length) && z.all fun m => decide (0 ≤ m ∧ m < 1000)
def sortedSetT : D → Res D
  | .list ds => match tupsOf ds with
    | some kss => if decide (kss.length < 64) && evenT kss then .ok (.list ((srtT (uqT kss)).map fun z => .tuple (z.map .int))) else .stuck
    | none => .stuck
  | _ => .stuck
theorem even_ok {kss : List (List Int)} (h : evenT kss = true) : ∃ d, 1 ≤ d ∧ ∀ z ∈ kss, z.length = d ∧ TS.Bd 1000 z := by
  cases kss with
  | nil => exact ⟨1, Nat.le_refl _, fun _ h => nomatch h⟩
  | cons k r =>
    unfold evenT at h
    simp only [Bool.and_eq_true, decide_eq_true_eq, List.all_eq_true] at h
    exact ⟨k.length, h.1, fun z hz => ⟨(h.2 z hz).1, fun m hm => (h.2 z hz).2 m hm⟩⟩
section
variable {X : Cx} {W : WX} {ρ : Env X.K} {e a : Expr} {r ra : Res D} {pos p p2 q : Pos}
theorem ints_dp {K : PySem.W.Frag} {F : Hp} : ∀ ns : List Int, DpAll K F (ns.map V.int) (ns.map .int)
  | [] => .nil
  | n :: ns => .cons (.int n) (ints_dp ns)
theorem tups_dp {K : PySem.W.Frag} {F : Hp} : ∀ (L : List (Addr × List Int)), (∀ p ∈ L, SqT K F p.1 (p.2.map V.int)) → DpAll K F (L.map fun p => V.ref p.1) ((L.map (·.2)).map fun z => PyData.tuple (z.map .int))
  | [], _ => .nil
  | p :: L, h => by
    refine .cons (.tup (h p (by simp)) ?_) (tups_dp L fun q hq => h q (by simp [hq]))
    exact ints_dp p.2
theorem eg_sortedSetT [C : Ctx X W] (ha : EG X W ρ .T a ra) (hm : X.mg "sorted" = none) (hm2 : X.mg "set" = none) (hg : Gl X "sorted" := by rfl) (hg2 : Gl X "set" := by rfl) (na : starEach [a] X.env = (false, eval a X.env) :: starEach [] X.env := by rfl)
    (n2 : starEach [.Call (.Name "set" p2) [a] [] q] X.env = (false, eval (.Call (.Name "set" p2) [a] [] q) X.env) :: starEach [] X.env := by rfl) (hp : (backTo q (starEach [] X.env)).any (·.1) = false := by rfl) (hp2 : (backTo pos (starEach [] X.env)).any (·.1) = false := by rfl) :
    EG X W ρ .O (.Call (.Name "sorted" p) [.Call (.Name "set" p2) [a] [] q] [] pos) (ra.bd sortedSetT) := by
  obtain ⟨ta, a1, a2⟩ := ha
  refine ⟨_, pe_callB (cr_sortedT C.calm) hg hm DL.boot_sorted (pa_cons (pe_callTy (cr_setOfT C.calm (by have := C.hu; omega)) hg2 hm2 PyProof.Rows.boot_set (pa_cons a1 pa_nil na) (by decide) (by decide) na hp) pa_nil n2) (by decide) (by decide) n2 hp2, fun B H0 F H σ Q gd k => a2 B H0 F H σ _ gd (Kn.bd k acc_base fun d x F1 H1 _ e1 s1 q1 k1 => ?_)⟩
  cases d <;> first | exact absurd rfl k1.ns | skip
  rename_i ds _
  obtain ⟨l, xs, rfl, g1, g2⟩ := tp_list q1
  cases e : tupsOf ds with
  | none => exact absurd (by simp only [sortedSetT, e]) k1.ns
  | some kss =>
    cases hl : decide (kss.length < 64) && evenT kss with
    | false => exact absurd (by simp only [sortedSetT, e]; rw [hl]; rfl) k1.ns
    | true =>
      have ed : sortedSetT (.list ds) = .ok (.list ((srtT (uqT kss)).map fun z => .tuple (z.map .int))) := by simp only [sortedSetT, e]; rw [hl]; rfl
      rw [Bool.and_eq_true, decide_eq_true_eq] at hl
      obtain ⟨dd, d1, dk⟩ := even_ok hl.2
      obtain ⟨ks, rfl, k2, k3⟩ := tupsOf_dp e g2
      have hkl : ks.length = kss.length := by rw [← k2, List.length_map]
      refine ⟨l, ks, rfl, g1, fun p hp => Same.tup s1 (k3 p hp), by omega, fun a L ha hL hL2 => ?_⟩
      have hF : ∀ p ∈ L, SqT X.K F1 p.1 (p.2.map V.int) := fun p hp => k3 p (hL p hp)
      have s2 : Same F1 (upd H1 a (SetTO X.prog X.w a L)) := Same.updO s1 (Same.free s1 ha)
      have hBd : ∀ p ∈ L, p.2.length = dd ∧ TS.Bd 1000 p.2 := fun p hp => dk p.2 (by rw [← k2]; exact List.mem_map.mpr ⟨p, hL p hp, rfl⟩)
      refine ⟨a, L, dd, 1000, rfl, upd_same, fun p hp => Same.tup s2 (hF p hp), d1, hBd, fun L' b pm hn hf pw hb => ?_⟩
      have hmem : ∀ x, x ∈ L'.map (·.2) ↔ x ∈ uqT kss := fun x => by
        rw [uqT_mem, ← k2]
        constructor
        · intro hx
          obtain ⟨p, hp, rfl⟩ := List.mem_map.mp hx
          exact List.mem_map.mpr ⟨p, hL p (pm.mem_iff.mp hp), rfl⟩
        · intro hx
          obtain ⟨p, hp, rfl⟩ := List.mem_map.mp hx
          obtain ⟨q, hq, eq⟩ := List.mem_map.mp (hL2 p hp)
          exact List.mem_map.mpr ⟨q, pm.mem_iff.mpr hq, eq⟩
      have hpw : (L'.map (·.2)).Pairwise (· ≤ ·) := List.pairwise_map.mpr (pw.imp_of_mem fun {u v} hu hv h => by
        obtain ⟨u1, u2⟩ := hBd u (pm.mem_iff.mp hu)
        obtain ⟨v1, v2⟩ := hBd v (pm.mem_iff.mp hv)
        exact code_lex (u1.trans v1.symm) u2 v2 h)
      have heq : L'.map (·.2) = srtT (uqT kss) := lexP_uniq ((perm_of_mem hn (uqT_nodup kss) hmem).trans (srtT_perm _).symm) hpw (srtT_pw _)
      have hd := tups_dp (K := X.K) (F := F1) L' fun p hp => hF p (pm.mem_iff.mp hp)
      rw [heq] at hd
      exact (k1.of_eq ed).ret ((Ex.newO ha).trans (Ex.newO hb)) (Same.updO s2 (Same.free s2 hb)) (by
        refine ⟨[b], .inl ⟨_, rfl, b, _, rfl, rfl, upd_same, hd⟩, fun c hc => ?_⟩
        rw [List.mem_singleton.mp hc]
        refine ⟨?_, Same.free s2 hb⟩
        exact Same.free (Ex.newO (F := F1) ha).hh hb)
end
end DL
/-! max(xs) of a tuple of whole numbers, or of what maxV takes -/
namespace DL
open PySem L2 PySem.Spec PyProof.Rows
section
variable {prog : Program} {w : World} {A : Around} {E : Value → Shared → Prop} {s : Shared} {l : Addr} {xs : Array (Int × Tok)} {its : List Value} {ns : List Int}
theorem max_intTuple {Q : Value → Shared → Prop} (hh : A.handled = none) (hl : s.heap.IsTuple l (intItems xs)) (hne : 0 < xs.size)
    (h : ∀ v h' tk, (intItems xs)[argBest (fun i j => decide (numAt xs i > numAt xs j)) (xs.size - 1)]? = some v → (∀ b o, s.heap.get? b = some o → h'.get? b = some o) → Q v { s with heap := h', toks := tk }) :
    wpAny (model prog w) A (call (.builtin "max") [.ref l]) Q E s := by
  refine call_max_walk (iter_anyT hl fun s₂ e st hlI => ?_)
  subst e
  have hlt : l < s.heap.objs.size := by obtain ⟨_, e, _⟩ := hl; exact Heap.lt_size e
  have hfp : ∀ b ∈ [s.heap.objs.size, l], b < (s.heap.push { cls := .type "tuple_iterator", data := .fields #[.ref l, .int 0 0] }).objs.size := fun b hb => by
    rw [Heap.size_push]
    rcases List.mem_cons.mp hb with rfl | hb
    · exact Nat.lt_succ_self _
    · rcases List.mem_cons.mp hb with rfl | hb
      · exact Nat.lt_succ_of_lt hlt
      · cases hb
  refine ⟨_, _, _, _, _, _, _, rfl, Walks.tuple (A := A.in1) hh _ l hlI (intItems xs), st, hfp, by simpa [intItems] using hne, CmpOf.ints_gt (numAt xs) (fun _ _ => intItems_at), fun v h' tk hP hk => ?_⟩
  refine h v h' tk (by simpa [intItems] using hP) fun b o eo => hk b o (fun hm => ?_) (Heap.get?_push_of_some _ eo)
  rcases List.mem_cons.mp hm with e1 | hm
  · exact absurd (e1 ▸ Heap.lt_size eo) (Nat.lt_irrefl _)
  · cases hm
theorem max_rawT {Q : Value → Shared → Prop} (hh : A.handled = none) (hl : s.heap.IsTuple l its.toArray) (hi : IntsAre its ns) (hne : 0 < ns.length)
    (h : ∀ h' tk M t', (∀ b o, s.heap.get? b = some o → h'.get? b = some o) → M ∈ ns → (∀ a, a ∈ ns → a ≤ M) → Q (.int M t') { s with heap := h', toks := tk }) : wpAny (model prog w) A (call (.builtin "max") [.ref l]) Q E s := by
  obtain ⟨xs, e⟩ := hi.allInts.items
  have hn : numsOf (intItems xs).toList = ns := by rw [← e]; exact hi.numsOf
  rw [nums_intItems] at hn
  subst hn
  rw [e] at hl
  have hsz : 0 < xs.size := by simpa using hne
  refine max_intTuple hh hl hsz fun v h' tk hv hk => ?_
  obtain ⟨t, rfl⟩ := intItems_at hv
  obtain ⟨h1, h2⟩ := argBest_gt (numAt xs) (xs.size - 1)
  refine h h' tk _ t hk ?_ fun a ha => ?_
  · rw [numAt_eq]; exact PySem.getD_mem (by rw [List.length_map, Array.length_toList]; omega)
  · obtain ⟨j, hj, rfl⟩ := mem_getD ha
    rw [List.length_map, Array.length_toList] at hj
    rw [← numAt_eq]; exact h2 j (by omega)
end
def rMaxT (K : PySem.W.Frag) : List V → Hp → VK → Prop := fun vs H Q => ∃ (a : Addr) (ns : List Int), vs = [V.ref a] ∧ SqT K H a (ns.map V.int) ∧ 0 < ns.length ∧ ∀ m, m ∈ ns → (∀ y, y ∈ ns → y ≤ m) → Q (.int m) H
theorem cr_maxT {X : Cx} (hc : X.calm = true) : CallR X (.builtin "max") (rMaxT X.K) := by
  intro pins s σ H vs us Q I r h
  obtain ⟨a, ns, rfl, hs, hne, q⟩ := h
  obtain ⟨its, rv, hl, _⟩ := I.tuple hs
  rw [Vals.ref1 r]
  exact max_rawT (I.ok.hd hc) (show s.heap.IsTuple a its.toArray from hl) rv.ints hne fun h' tk m t' hk h1 h2 => ⟨.int _, H, I.kept hk, ⟨_, rfl⟩, q m h1 h2⟩
/-- the greatest of a list or a tuple of numbers -/
def maxA : D → Res D
  | .tuple xs => optI ((intsOf xs).bind greatest)
  | d => maxV d
theorem cr_max3 {X : Cx} (hc : X.calm = true) : CallR X (.builtin "max") (fun vs H Q => rMax X.K vs H Q ∨ rMaxT X.K vs H Q) := by
  intro pins s σ H vs us Q I r h
  rcases h with h | h
  · exact cr_max hc pins s σ H vs us Q I r h
  · exact cr_maxT hc pins s σ H vs us Q I r h
theorem b_maxA {X : Cx} {W : WX} [C : Ctx X W] : C1D X W (.builtin "max") .V maxA := by
  refine ⟨_, cr_max3 C.calm, fun F H σ x d Q s h k => ?_⟩
  cases d <;> first | exact absurd rfl k.ns | skip
  case list ds =>
    obtain ⟨a, xs, rfl, q1, q2⟩ := tp_list h
    refine .inl ?_
    cases c : intsOf ds with
    | none => exact absurd (by simp [maxA, maxV, c, optI, greatest]) k.ns
    | some ns =>
      cases ns with
      | nil => exact absurd (by simp [maxA, maxV, c, optI, greatest]) k.ns
      | cons n ns =>
        obtain ⟨h1, h2⟩ := intsOf_dp c q2
        subst h1
        refine ⟨a, n :: ns, rfl, q1, by simp, fun w hw1 hw2 => ?_⟩
        obtain ⟨g1, g2⟩ := foldl_max_mem ns n
        have e : w = ns.foldl max n := Int.le_antisymm (g2 w hw1) (hw2 _ g1)
        exact kn_flat (k.of_eq (r' := .ok (.int w)) (by simp [maxA, maxV, c, e, optI, greatest])) s rfl (.int _)
  case tuple ds =>
    obtain ⟨a, xs, rfl, q1, q2⟩ := tp_tup h
    refine .inr ?_
    cases c : intsOf ds with
    | none => exact absurd (by simp [maxA, c, optI, greatest]) k.ns
    | some ns =>
      cases ns with
      | nil => exact absurd (by simp [maxA, c, optI, greatest]) k.ns
      | cons n ns =>
        obtain ⟨h1, h2⟩ := intsOf_dp c q2
        subst h1
        refine ⟨a, n :: ns, rfl, Same.tup s q1, by simp, fun w hw1 hw2 => ?_⟩
        obtain ⟨g1, g2⟩ := foldl_max_mem ns n
        have e : w = ns.foldl max n := Int.le_antisymm (g2 w hw1) (hw2 _ g1)
        exact kn_flat (k.of_eq (r' := .ok (.int w)) (by simp [maxA, c, e, optI, greatest])) s rfl (.int _)
@[simp] theorem maxA_list (xs : List D) : maxA (.list xs) = maxV (.list xs) := id rfl
@[simp] theorem maxA_tup (xs : List D) : maxA (.tuple xs) = maxV (.list xs) := id rfl
end DL
/-! try: x = e / except SlipError: x = (what is made of constants) -/
namespace DL
open PySem L2 PySem.Spec PyProof.Rows
def conR (r : Res D) (dc : D) : Res D := match r with
  | .ok d => .ok d
  | .exc n => match wordOf n with | some _ => .ok dc | none => .stuck
  | .stuck => .stuck
theorem conR_exc (n : Str) (dc : D) : conR (.exc n) dc = match wordOf n with | some _ => .ok dc | none => .stuck := rfl
@[simp] theorem conR_ok (d dc : D) : conR (.ok d) dc = .ok d := id rfl
section
variable {X : Cx} {W : WX} {rk : Md} {ρ : Env X.K} {r : Res D} {dc : D} {x : Str} {p4 p5 p6 p7 p8 p8' pos : Pos} {e e2 : Expr}
theorem s1_tryCon [C : Ctx X W] (ix : Nat) (Wc : WordC X.K X.mg)
    (he : ∀ (pn : List (Addr × Obj)) (xe : Value → Shared → Prop) (W' : WX), Ctx (X.tr pn xe) W' → EG (X.tr pn xe) W' ρ .V e r)
    (he2 : ∀ (a : Addr) (pn : List (Addr × Obj)) (W' : WX), EG (X.suite a pn) W' ρ .V e2 (.ok dc))
    (hstk : X.stack = X.env :: X.outer := by rfl) (hfr : X.env.frame = some X.env.locals := by rfl) (hgS : Gl X "SlipError" := by rfl)
    (hix : X.N[ix]? = some x := by rfl) (hx : Loc X.env.scope x := by first | exact Or.inl rfl | exact Or.inr rfl)
    (hs : swapsWith e2 (some (.Name x p4)) p5.line X.env = pure false := by rfl) (hfn : X.fn x = true ∨ X.env.scope.names.lookup x = some .local := by first | exact .inl rfl | exact .inr rfl)
    (hs2 : swapsWith e (some (.Name x p6)) p7.line X.env = pure false := by rfl) :
    S1 X W rk ρ (.Try [.Assign [.Name x p6] e p7] [.ExceptHandler (some (.Name "SlipError" p8)) none [.Assign [.Name x p4] e2 p5] p8'] [] [] pos) (conR r dc) (fun d => .nx (ρ.set ix (cVal d))) := by
  obtain ⟨_, S, _, _, hS, _⟩ := Wc.all "TooFew" "few" (by decide)
  have run := L2N.ps_try_many (X := X) (pos := pos) (body := [.Assign [.Name x p6] e p7]) (h₀ := .ExceptHandler (some (.Name "SlipError" p8)) none [.Assign [.Name x p4] e2 p5] p8') (hds := []) (l := [(.ref S, fun _ _ _ => tAsg (tS X.K X W ρ .V (.ok dc)) (gName ix))]) (Wout := W) hstk hfr C.tk
    (tb := fun W' => tAsg (tS X.K X W' ρ .V r) (gName ix)) (fun W' pn xe tk po => pss_one (ps_set (X := X.tr pn xe) C.nd hix hx ((he pn xe W' (tr_ctx C tk po)).sem (Y := X) rfl) hs2 hfn))
    (.cons ⟨hgS, by decide, .inl hS⟩ (fun a oe cls d pn hz hf => pss_one (ps_set (X := X.suite a ((a, oe) :: pn)) C.nd hix hx ((he2 a ((a, oe) :: pn) W).sem (Y := X) rfl) hs hfn)) .nil)
  refine ⟨_, run, fun B H0 F H σ D g q => ⟨B, H0, F, g, fun z => q.ns (by rw [z]; rfl), fun d ed v F' H' xx s a => ?_, fun n en H' Cv hC ss => ?_⟩⟩
  · exact q.ok d (by rw [ed]; rfl) F' H' _ ((g.go xx s).setV a)
  · subst en
    have : ∃ w, wordOf n = some w := by
      cases ew : wordOf n with
      | some w => exact ⟨w, rfl⟩
      | none => exact absurd (by rw [conR_exc, ew]) q.ns
    obtain ⟨w, hw⟩ := this
    obtain ⟨Dd, S', hmn, G, hS', hex, _⟩ := Wc.all n w hw
    rw [hS] at hS'
    cases hS'
    rw [hmn] at hC
    cases hC
    have g1 : Good B H0 F H' ρ σ := g.go ⟨Same.refl _, ss, fun _ _ => rfl⟩ (g.fh.trans ss)
    refine ⟨true, hex, fun _ a ha => ⟨B, H0, F, g1, fun z => (nomatch z), fun d ed v F' H2 xx s av => ?_, fun n en => (nomatch en)⟩, fun z => Bool.noConfusion z⟩
    cases ed
    exact q.ok dc (by rw [conR_exc, hw]) F' H2 _ ((g1.go xx s).setV av)
end
end DL
/-! for row, number in zip(rows of one's own, values): row.append(..); names first told within a loop. -/
namespace DL
open PySem L2
/-! ### names that may be told -/
def cOpt {K : PySem.W.Frag} : Option D → Cell K
  | none => cAny
  | some d => cVal d
def needS {T : Type} (o : Option D) (k : D → Res T) : Res T := match o with
  | none => .stuck
  | some d => k d
@[simp] theorem needS_some {T : Type} (d : D) (k : D → Res T) : needS (some d) k = k d := id rfl
@[simp] theorem needS_none {T : Type} (k : D → Res T) : needS none k = .stuck := id rfl
/-! ### rows that grow -/
def zipApp (f : D → Res D) : Nat → List D → List D → Res (List D)
  | _, ds, [] => .ok ds
  | n, ds, e :: es => match ds[n]? with
    | some (.list row) => (f e).bd fun x => if decide (row.length < 16777216) then zipApp f (n + 1) (ds.set n (.list (row ++ [x]))) es else .stuck
    | some _ => .stuck
    | none => .ok ds
section
variable {X : Cx} {W : WX} {rk m : Md} {ρ : Env X.K} {S T : Type} {ss body : List Stmt} {e E : Expr} {r rE : Res D} {fin : T → Fin X.K} {pos : Pos} {vs : List Nat}
theorem sv_need {o : Option D} {k : D → Res T} (i : Nat) (hρ : ρ[i]? = some (cOpt o)) (h : ∀ d, SV X W rk (ρ.set i (cVal d)) ss (k d) fin) : SV X W rk ρ ss (needS o k) fin := by
  cases o with
  | none => exact ⟨fun _ _ _ => False, ⟨fun pins s σ H D I h => h.elim⟩, fun B H0 F H σ D g k => k.ns rfl⟩
  | some d =>
    have := h d
    have e : ρ.set i (cVal d) = ρ := set_self (a := cVal d) hρ
    rwa [e] at this
theorem cells_back {K : PySem.W.Frag} {ρ : Env K} {i j l : Nat} {c c1 c2 c' : Cell K} (hij : i ≠ j) (hil : i ≠ l) (hjl : j ≠ l) (hj : ρ[j]? = some cAny) (hl : ρ[l]? = some cAny) :
    ((((((ρ.set i c).set j c1).set l c2).set i c').set j cAny).set l cAny) = ρ.set i c' := by
  apply List.ext_getElem?
  intro n
  simp only [List.getElem?_set, List.length_set]
  by_cases e1 : l = n
  · subst e1
    have : l < ρ.length := by
      rcases Nat.lt_or_ge l ρ.length with z | z
      · exact z
      · rw [List.getElem?_eq_none z] at hl; cases hl
    rw [if_pos rfl, if_pos this, if_neg hil, hl]
  · rw [if_neg e1]
    by_cases e2 : j = n
    · subst e2
      have : j < ρ.length := by
        rcases Nat.lt_or_ge j ρ.length with z | z
        · exact z
        · rw [List.getElem?_eq_none z] at hj; cases hj
      rw [if_pos rfl, if_pos this, if_neg hij, hj]
    · rw [if_neg e2]
      by_cases e3 : i = n
      · subst e3; rw [if_pos rfl, if_pos rfl]
      · rw [if_neg e3, if_neg e3, if_neg e1, if_neg e2, if_neg e3]
theorem s1_zipApp [C : Ctx X W] {d0 : D} {f : D → Res D} {x y cols : Str} {k : Nat} {p0 p1 p2 p3 pc pz pos2 apos cpos epos : Pos} (i j l : Nat) (hij : i ≠ j) (hil : i ≠ l) (hjl : j ≠ l)
    (hρ : ρ[i]? = some (cRows d0)) (hj : ρ[j]? = some cAny) (hl : ρ[l]? = some cAny) (hb : EG X W ρ .V E rE)
    (he : ∀ b cur v, EG X W (((ρ.set i (cRows (.list cur))).set j (cIs (.ref b))).set l (cVal v)) .V e (f v))
    (hn1 : NmOk X j x) (hn2 : NmOk X l y) (ha : AsOk X (.Name x p1) [.Name y p2] ∧ AsOk X (.Name y p2) [] ∧ TupOk X [.Name x p1, .Name y p2] 2)
    (hmz : X.mg "zip" = none) (hN : X.N[i]? = some cols := by rfl) (hv : Vis X.env.scope cols := by first | exact Or.inl rfl | exact Or.inr (Or.inl rfl) | exact Or.inr (Or.inr rfl))
    (hd : (cols == ("__debug__" : Str)) = false := by decide) (hcd : (cols == ("__classdict__" : Str)) = false := by decide) (hgz : Gl X "zip" := by rfl)
    (hs : starEach [.Name cols pc, E] X.env = (false, eval (.Name cols pc) X.env) :: starEach [E] X.env := by rfl) (hs2 : starEach [E] X.env = (false, eval E X.env) :: starEach [] X.env := by rfl) (hpl : (backTo pos2 (starEach [E] X.env)).any (·.1) = false := by rfl)
    (hv2 : Vis X.env.scope x := by first | exact Or.inl rfl | exact Or.inr (Or.inl rfl) | exact Or.inr (Or.inr rfl))
    (hd2 : (x == ("__debug__" : Str)) = false := by decide) (hcd2 : (x == ("__classdict__" : Str)) = false := by decide)
    (hbase : attributeBase (.Name x p3) "append" X.env (eval (.Name x p3) X.env) = eval (.Name x p3) X.env := by rfl)
    (hfew : ((backTo cpos (starEach [e] X.env)).all (fun x => !x.1) && (backToKw cpos (keywordEach [] X.env)).all (fun x => x.1.isSome) && decide (([e] : List Expr).length + ([] : List Keyword).length + (if ([] : List Keyword).isEmpty then 0 else 1) < 30)) = true := by rfl)
    (hline : (apos.endLine == cpos.line) = true := by rfl) (hse : starEach [e] X.env = (false, eval e X.env) :: starEach [] X.env := by rfl) (hplain : (backTo cpos (starEach [] X.env)).any (·.1) = false := by rfl)
    (hsw : swapsWith (.Call (.Attribute (.Name x p3) "append" apos) [e] [] cpos) none epos.line X.env = pure false := by rfl)
    (hfs : ∀ z, foldedSetIterable (.Call (.Name "zip" pz) [.Name cols pc, E] [] pos2) X.env z = pure z := by intro _; rfl) :
    S1 X W rk ρ (.For (.Tuple [.Name x p1, .Name y p2] k p0) (.Call (.Name "zip" pz) [.Name cols pc, E] [] pos2) [.Expr (.Call (.Attribute (.Name x p3) "append" apos) [e] [] cpos) epos] [] pos)
      (onL d0 fun ds => (rE.bd seqItems).bd fun es => (zipApp f 0 ds es).bd fun rs => .ok (.list rs)) (fun d => .nx (ρ.set i (cRows d))) := by
  obtain ⟨tE, b1, b2⟩ := hb
  have pz := pi_zipS (elts := [.Name x p1, .Name y p2]) (kk := k) (tpos := p0) (p := pz) (pos := pos2) hgz hmz (pa_cons (pe_var (pos := pc) hN hv hd hcd) (pa_cons b1 pa_nil hs2) hs) hs hpl
  have pt : PG X (.Tuple [.Name x p1, .Name y p2] k p0) (gTup X.K 2 (gCons (gName j) (gCons (gName l) gNil))) := pg_tup C.calm (pgs_cons (pg_name C.nd hn1.1 hn1.2.1 hn1.2.2) (pgs_cons (pg_name C.nd hn2.1 hn2.2.1 hn2.2.2) pgs_nil ha.2.1) ha.1) ha.2.2.1 ha.2.2.2
  have hE : PE X e (fun σ H Q => ∃ b cur v, tS X.K X W (((ρ.set i (cRows (.list cur))).set j (cIs (.ref b))).set l (cVal v)) .V (f v) σ H Q) := ⟨fun pins s σ H Q I ⟨b, cur, v, q⟩ => ((he b cur v).sem rfl).run pins s σ H Q I q⟩
  refine ⟨_, ps_for C.po C.calm pz pt (pss_one (ps_expr (pe_bm PySem.F.plainAttrs_list PySem.F.slot_list_append PySem.F.type_list_append mt_append (pe_var (pos := p3) hn1.1 hv2 hd2 hcd2) (pa_cons hE pa_nil hse) hbase hfew hline hse hplain) hsw)) hfs, fun B H0 F H σ D g q => ?_⟩
  obtain ⟨ds, rfl⟩ := onL_ns q.ns
  rw [onL_list] at q
  obtain ⟨a, xs, bs, ds', z, o1, o2, o3, o4⟩ := g.rows hρ
  cases z
  refine ⟨.ref a, o1, b2 B H0 F H σ _ g (KS.kn (f := fun d => (seqItems d).bd fun es => (zipApp f 0 ds es).bd fun rs => .ok (.list rs)) g (q.of_eq (bd_bd _ _ _)) fun d yv F1 H1 _ x1 s1 ac g1 q1 => ?_)⟩
  obtain ⟨es, hes⟩ : ∃ es, seqItems d = .ok es := by
    cases c : seqItems d with
    | ok es => exact ⟨es, rfl⟩
    | exc n => cases d <;> cases c
    | stuck => exact absurd (by rw [c]; rfl) q1.ns
  obtain ⟨bb, a2, ys, rfl, l0, l2⟩ := dp_seq ac hes
  have q2 := q1.of_eq (r' := (zipApp f 0 ds es).bd fun rs => .ok (.list rs)) (by rw [hes]; rfl)
  have n1 := o3.len.1
  have n2 := DpAll.length l2
  have ha1 : H1 a = some (.lst xs) := x1.hh _ _ o2
  refine ⟨true, bb, a, a2, xs, ys, rfl, SqL.of ha1, l0.mono s1, ?_⟩
  have gl := g1.inl
  refine ⟨fun n m σ3 H3 => m = es.length - n ∧ n ≤ es.length ∧ n ≤ ds.length ∧ ∃ F3 cur, Good F1 (DL.hl H0 F1 H1) F3 H3 (ρ.set i (cRows (.list cur))) σ3 ∧ σ3[i]? = some (some (.ref a)) ∧ H3 a = some (.lst xs) ∧ cur.length = ds.length ∧ zipApp f n cur (es.drop n) = zipApp f 0 ds es,
    ⟨es.length, by simp, Nat.zero_le _, Nat.zero_le _, F1, ds, by rw [set_self hρ]; exact gl, o1, ha1, rfl, rfl⟩, ?_⟩
  rintro n m σ3 H3 ⟨rfl, hn, hn', F3, cur, g3, h1, h2, h3, h4⟩
  have hil' : i < ρ.length := by
    rcases Nat.lt_or_ge i ρ.length with z | z
    · exact z
    · rw [List.getElem?_eq_none z] at hρ; cases hρ
  have ix : (ρ.set i (cRows (.list cur)))[i]? = some (cRows (.list cur)) := by rw [List.getElem?_set_self hil']
  have ly : SqS X.K bb H3 a2 ys := (l0.mono g3.ex.ff).mono g3.fh
  by_cases hlt : n < es.length ∧ n < ds.length
  · obtain ⟨hlt1, hlt2⟩ := hlt
    obtain ⟨a', xs', bs', cur', z, r1, r2, r3, r4⟩ := g3.rows ix
    cases z
    rw [h1] at r1
    cases r1
    rw [h2] at r2
    cases r2
    have hc : cur[n]? = some cur[n] := List.getElem?_eq_getElem (by omega)
    obtain ⟨b, zs, row, w1, w2, w3, w4, w5⟩ := r3.get hc
    obtain ⟨v, v1, v2⟩ := DpAll.get l2 (List.getElem?_eq_getElem hlt1)
    have hdrop : es.drop n = es[n] :: es.drop (n + 1) := List.drop_eq_getElem_cons hlt1
    generalize hen : es[n] = en at *
    rw [hdrop] at h4
    have h5 : zipApp f n cur (en :: es.drop (n + 1)) = (f en).bd fun x => if decide (row.length < 16777216) then zipApp f (n + 1) (cur.set n (.list (row ++ [x]))) (es.drop (n + 1)) else .stuck := by
      conv => lhs; unfold zipApp
      rw [hc, w3]
    rw [h5] at h4
    refine .inr ⟨⟨xs, ys, .ref b, v, SqL.of h2, ly, w1, v1⟩, fun σ' H' => n + 1 ≤ es.length ∧ n + 1 ≤ ds.length ∧ ∃ F3 cur, Good F1 (DL.hl H0 F1 H1) F3 H' (ρ.set i (cRows (.list cur))) σ' ∧ σ'[i]? = some (some (.ref a)) ∧ H' a = some (.lst xs) ∧ cur.length = ds.length ∧ zipApp f (n + 1) cur (es.drop (n + 1)) = zipApp f 0 ds es,
      fun σ' H' z => ⟨es.length - (n + 1), by omega, rfl, z⟩, fun xv H4 ⟨T, u, w, e1, e2, e3, e4, e5⟩ => ?_⟩
    subst e1; subst e3
    have eu := e4 xs (SqL.of h2)
    have ew := e5 ys ly
    rw [w1] at eu
    rw [v1] at ew
    cases eu; cases ew
    refine ⟨T, [.ref b, v], rfl, SqT.of upd_same, rfl, .ref b, [v], rfl, v, [], rfl, rfl, ?_⟩
    have g4 := g3.go (Ex.newO (o := .tup [.ref b, v]) e2) (Same.updO (o := .tup [.ref b, v]) g3.fh (Same.free g3.fh e2))
    have g4a := g4.set (i := j) (c := cIs (.ref b)) (x := .ref b) (as := []) ⟨rfl, rfl⟩ List.nodup_nil (fun _ z => nomatch z)
    have g5 := g4a.setV (i := l) (Dp.mono g3.ex.ff _ _ v2)
    have lσ : ρ.length = σ3.length := by have := g3.len; simpa using this
    have jl : j < ρ.length := by
      rcases Nat.lt_or_ge j ρ.length with z | z
      · exact z
      · rw [List.getElem?_eq_none z] at hj; cases hj
    have aT : a ≠ T := fun z => by rw [z, e2] at h2; cases h2
    have bT : b ≠ T := fun z => by rw [z, e2] at w4; cases w4
    refine ⟨.ref b, ?_, .inl ⟨rfl, _, SqL.of (by rw [upd_ne bT]; exact w4)⟩, b, cur, en, F1, DL.hl H0 F1 H1, F3, g5, (fun z => q2.ns (by rw [← h4, z]; rfl)), fun d' ed v' F5 H5 x5 s5 a5 => ?_, fun nn en' H' C' c z => ?_⟩
    · rw [List.getElem?_set_ne (fun z => hjl z.symm), List.getElem?_set_self (by omega)]
    · rw [ed] at h4
      simp only [bd_ok] at h4
      cases c : decide (row.length < 16777216) with
      | false => rw [c] at h4; exact absurd h4.symm (fun z => q2.ns (by rw [z]; rfl))
      | true =>
      rw [c, if_pos rfl] at h4
      have g6 := g5.go x5 s5
      have ix6 : ((((ρ.set i (cRows (.list cur))).set j (cIs (.ref b))).set l (cVal en)) : Env X.K)[i]? = some (cRows (.list cur)) := by
        rw [List.getElem?_set_ne (fun z => hil z.symm), List.getElem?_set_ne (fun z => hij z.symm)]; exact ix
      obtain ⟨a6, xs6, bs6, cur6, z, t1, t2, t3, t4⟩ := g6.rows ix6
      cases z
      rw [List.getElem?_set_ne (fun z => hil z.symm), List.getElem?_set_ne (fun z => hij z.symm), h1] at t1
      cases t1
      have ha5 : H5 a = some (.lst xs) := x5.hh _ _ (by rw [upd_ne aT]; exact h2)
      rw [ha5] at t2
      cases t2
      obtain ⟨b6, zs6, row6, y1, y2, y3, y4, y5⟩ := t3.get hc
      rw [w1] at y1
      cases y1
      rw [w3] at y3
      cases y3
      refine ⟨b, zs6, v', rfl, rfl, y4, by rw [DpAll.length y5, PySem.sizeLine_eq]; exact of_decide_eq_true c, ?_⟩
      have g7 := t4 n b _ _ y2 (DpAll.append y5 (.cons a5 .nil))
      obtain ⟨F8, s8, g8⟩ := (wk_any j).trans (wk_any l) _ _ _ _ _ g7
      rw [cells_back hij hil hjl hj hl] at g8
      have ab : a ≠ b := fun z => by
        obtain ⟨_, _, ass, sl, nd, _⟩ := g6
        obtain ⟨v, as, k1, k2, k3⟩ := sl.get ix6
        obtain ⟨x0, k4, a0, xs0, bs0, ds0, k5, k6, k7, k8, k9⟩ := k3
        have nd0 := nodup_of_flatten nd k2
        rw [k7] at nd0
        rw [List.getElem?_set_ne (fun z => hil z.symm), List.getElem?_set_ne (fun z => hij z.symm), h1] at k1
        cases k1
        cases k4
        cases k6
        cases k5
        obtain ⟨b9, _, _, m1, m2, _⟩ := k9.get hc
        rw [ha5] at k8
        cases k8
        rw [w1] at m1
        cases m1
        exact (List.nodup_cons.mp nd0).1 (z ▸ List.mem_of_getElem? m2)
      refine ⟨by omega, by omega, F8, _, g8, ?_, by rw [upd_ne ab]; exact ha5, by rw [List.length_set]; exact h3, h4⟩
      rw [List.getElem?_set_ne (fun z => hil z.symm), List.getElem?_set_ne (fun z => hij z.symm)]; exact h1
    · rw [en'] at h4
      exact q2.xc nn (by rw [← h4]; rfl) H' C' _ c fun p o hp => z p o (by
        have := g4.ex.hh p o (by rw [hl_some (by rw [hp]; exact fun z => nomatch z)]; exact g1.ex.hh p o hp)
        exact this)
  · have hz : zipApp f n cur (es.drop n) = .ok cur := by
      rcases Nat.lt_or_ge n es.length with z | z
      · rw [List.drop_eq_getElem_cons z]
        unfold zipApp
        rw [List.getElem?_eq_none (by omega)]
      · rw [List.drop_eq_nil_of_le z]
        rfl
    refine .inl ⟨⟨xs, ys, SqL.of h2, ly, by omega, by omega, by omega⟩, ?_⟩
    have z := q2.ok (.list cur) (by rw [← h4, hz]; rfl)
    exact z F3 H3 σ3 (Good.out g1.ex g3)
end
end DL
/-! x = left.pop(i); row[left.pop(i)] = v; x = [left.pop(..) for j in range(n)] -/
namespace DL
open PySem L2
section
variable {K : PySem.W.Frag} {B H0 F H F' H' : Hp} {ρ : Env K} {σ : St}
theorem Good.anyS (g : Good B H0 F H ρ σ) (j : Nat) (v : Option V) (hj : ρ[j]? = some cAny) : Good B H0 F H ρ (σ.set j v) := by
  obtain ⟨e, f, ass, h1, h2, h3⟩ := g
  obtain ⟨w, as, g1, g2, g3⟩ := h1.get hj
  have s := Slots.set (i := j) (c := (cAny : Cell K)) (v := v) (as := []) h1 rfl
  have ea : ass.set j [] = ass := set_self (by rw [g2]; exact congrArg some g3)
  rw [set_self hj, ea] at s
  exact ⟨e, f, ass, s, h2, h3⟩
theorem Good.move {L : Addr} {out : List D} (l : ρ.length = σ.length) (i : Nat) (g : Good B H0 F H (ρ ++ [cRes (.list out)]) (σ ++ [some (.ref L)])) : Good B H0 F H (ρ.set i (cRes (.list out))) (σ.set i (some (.ref L))) := by
  obtain ⟨x, f, ass, h1, h2, h3⟩ := g
  obtain ⟨bs, as, rfl, h4, h5⟩ := Slots.unapp l h1
  rw [List.flatten_append] at h2 h3
  have nd := List.nodup_append.mp h2
  have nda : as.Nodup := by simpa using nd.2.1
  refine ⟨x, f, bs.set i as, h4.set (c := cRes (.list out)) h5, nodup_flatten_set nd.1 nda fun b hb hm => nd.2.2 b hm b (by simpa using hb) rfl, fun a ha => ?_⟩
  rcases mem_flatten_set ha with z | z
  · exact h3 a (List.mem_append_left _ z)
  · exact h3 a (List.mem_append_right _ (by simpa using z))
end
section
variable {X : Cx} {W : WX} {rk : Md} {ρ : Env X.K} {N IX ev : Expr} {ri rv rn : Res D} {x y left row : Str} {scope : Scope} {p p1 p2 p3 pr pr2 py apos cpos spos pos pos2 pos3 : Pos} {d0 dr : D} {ix : D → List D → Res D}
/-- y = left.pop(i) -/
theorem s1_popOne [C : Ctx X W] (i l : Nat) (hρ : ρ[l]? = some (cRes d0)) (he : EG X W ρ .T IX ri)
    (hN : X.N[l]? = some left := by rfl) (hi : X.N[i]? = some y := by rfl) (hx : Loc X.env.scope y := by first | exact Or.inl rfl | exact Or.inr rfl) (hf : X.fn y = true ∨ X.env.scope.names.lookup y = some .local := by first | exact .inl rfl | exact .inr rfl)
    (hs : swapsWith (.Call (.Attribute (.Name left p2) "pop" apos) [IX] [] cpos) (some (.Name y py)) spos.line X.env = pure false := by rfl)
    (hv : Vis X.env.scope left := by first | exact Or.inl rfl | exact Or.inr (Or.inl rfl) | exact Or.inr (Or.inr rfl)) (hd : (left == ("__debug__" : Str)) = false := by decide) (hcd : (left == ("__classdict__" : Str)) = false := by decide)
    (hbase : attributeBase (.Name left p2) "pop" X.env (eval (.Name left p2) X.env) = eval (.Name left p2) X.env := by rfl)
    (hfew : ((backTo cpos (starEach [IX] X.env)).all (fun x => !x.1) && (backToKw cpos (keywordEach [] X.env)).all (fun x => x.1.isSome) && decide (([IX] : List Expr).length + ([] : List Keyword).length + (if ([] : List Keyword).isEmpty then 0 else 1) < 30)) = true := by rfl)
    (hline : (apos.endLine == cpos.line) = true := by rfl) (hse : starEach [IX] X.env = (false, eval IX X.env) :: starEach [] X.env := by rfl) (hplain : (backTo cpos (starEach [] X.env)).any (·.1) = false := by rfl) :
    S1 X W rk ρ (.Assign [.Name y py] (.Call (.Attribute (.Name left p2) "pop" apos) [IX] [] cpos) spos) (onL d0 fun cur => ri.bd fun iv => popL cur iv) (fun p => .nx ((ρ.set l (cRes (.list p.2))).set i (cVal p.1))) := by
  obtain ⟨t, t1, t2⟩ := he
  refine ⟨_, ps_set C.nd hi hx (pe_bm PySem.F.plainAttrs_list PySem.F.slot_list_pop PySem.F.type_list_pop mt_popAt (pe_var hN hv hd hcd) (pa_cons t1 pa_nil hse) hbase hfew hline hse hplain) hs hf, fun B H0 F H σ D g q => ?_⟩
  obtain ⟨ds, rfl⟩ := onL_ns q.ns
  rw [onL_list] at q
  obtain ⟨a, xs, o1, o2, o3, o4, o5⟩ := g.own hρ
  refine ⟨_, o1, .inl ⟨rfl, _, SqL.of o2⟩, t2 B H0 F H σ _ g (KS.kn g q fun d v F1 H1 _ x s ac g' q' => ?_)⟩
  obtain ⟨a', xs', p1, p2, p3, p4, p5⟩ := g'.own hρ
  rw [o1] at p1
  cases p1
  obtain ⟨pr, hp⟩ : ∃ pr, popL ds d = .ok pr := by
    cases e : popL ds d with
    | ok pr => exact ⟨pr, rfl⟩
    | stuck => exact absurd e q'.ns
    | exc m =>
      exfalso
      unfold popL at e
      cases d <;> try (cases e; done)
      dsimp only at e
      split at e <;> try (cases e; done)
      split at e <;> try (cases e; done)
      split at e <;> cases e
  obtain ⟨n, kk, rfl, w1, w2, w3, w4, w5⟩ := popL_ok hp
  cases tp_int ac
  obtain ⟨u, u1, u2⟩ := DpAll.get p4 w4
  refine ⟨a, xs', n, kk, u, rfl, rfl, p2, w1, w2, by rw [DpAll.length p4]; exact w3, u1, ?_⟩
  have g2 := (p5 _ _ (DpAll.erase kk p4)).setV (i := i) u2
  have q2 := q'.ok pr hp F1 _ (σ.set i (some u)) (by rw [w5]; exact g2)
  exact q2
/-- row[left.pop(i)] = v -/
theorem s1_popStore [C : Ctx X W] (i l : Nat) (hil : i ≠ l) (hρ : ρ[l]? = some (cRes d0)) (hr : ρ[i]? = some (cRes dr)) (hev : EG X W ρ .V ev rv) (he : EG X W ρ .T IX ri)
    (hN : X.N[l]? = some left := by rfl) (hNr : X.N[i]? = some row := by rfl)
    (hvr : Vis X.env.scope row := by first | exact Or.inl rfl | exact Or.inr (Or.inl rfl) | exact Or.inr (Or.inr rfl)) (hdr : (row == ("__debug__" : Str)) = false := by decide) (hcdr : (row == ("__classdict__" : Str)) = false := by decide)
    (hv : Vis X.env.scope left := by first | exact Or.inl rfl | exact Or.inr (Or.inl rfl) | exact Or.inr (Or.inr rfl)) (hd : (left == ("__debug__" : Str)) = false := by decide) (hcd : (left == ("__classdict__" : Str)) = false := by decide)
    (hbase : attributeBase (.Name left p2) "pop" X.env (eval (.Name left p2) X.env) = eval (.Name left p2) X.env := by rfl)
    (hfew : ((backTo cpos (starEach [IX] X.env)).all (fun x => !x.1) && (backToKw cpos (keywordEach [] X.env)).all (fun x => x.1.isSome) && decide (([IX] : List Expr).length + ([] : List Keyword).length + (if ([] : List Keyword).isEmpty then 0 else 1) < 30)) = true := by rfl)
    (hline : (apos.endLine == cpos.line) = true := by rfl) (hse : starEach [IX] X.env = (false, eval IX X.env) :: starEach [] X.env := by rfl) (hplain : (backTo cpos (starEach [] X.env)).any (·.1) = false := by rfl)
    (ha : ∀ v, assign (.Subscript (.Name row p1) (.Call (.Attribute (.Name left p2) "pop" apos) [IX] [] cpos) p3) X.env v = (do
      let ov ← holding [v] (eval (.Name row p1) X.env)
      let iv ← holding [v, ov] (eval (.Call (.Attribute (.Name left p2) "pop" apos) [IX] [] cpos) X.env)
      standAt p3
      holding [v, ov, iv] (setItem ov iv v)
      release [v, ov, iv] []) := by intro _; rfl)
    (hs : swapsWithSole [.Subscript (.Name row p1) (.Call (.Attribute (.Name left p2) "pop" apos) [IX] [] cpos) p3] ev pos.line X.env = pure false := by rfl) (hw : swappedStores [.Subscript (.Name row p1) (.Call (.Attribute (.Name left p2) "pop" apos) [IX] [] cpos) p3] ev X.env = pure none := by rfl)
    (h1 : (assignEach [.Subscript (.Name row p1) (.Call (.Attribute (.Name left p2) "pop" apos) [IX] [] cpos) p3] X.env).map (·.2) = [assign (.Subscript (.Name row p1) (.Call (.Attribute (.Name left p2) "pop" apos) [IX] [] cpos) p3) X.env] := by rfl) :
    S1 X W rk ρ (.Assign [.Subscript (.Name row p1) (.Call (.Attribute (.Name left p2) "pop" apos) [IX] [] cpos) p3] ev pos)
      (onL dr fun ds => onL d0 fun cur => rv.bd fun v => ri.bd fun iv => (popL cur iv).bd fun pr => (setL ds pr.1 v).bd fun r => .ok (r, PyData.list pr.2)) (fun s : D × D => .nx ((ρ.set l (cRes s.2)).set i (cRes s.1))) := by
  obtain ⟨tv, v1, v2⟩ := hev
  obtain ⟨t, t1, t2⟩ := he
  refine ⟨_, ps_asg v1 (pg_sub (pe_var hNr hvr hdr hcdr) (pe_bm PySem.F.plainAttrs_list PySem.F.slot_list_pop PySem.F.type_list_pop mt_popAt (pe_var hN hv hd hcd) (pa_cons t1 pa_nil hse) hbase hfew hline hse hplain) set_list ha) hs hw h1, fun B H0 F H σ D g q => ?_⟩
  obtain ⟨ds, rfl⟩ := onL_ns q.ns
  rw [onL_list] at q
  obtain ⟨cur, rfl⟩ := onL_ns q.ns
  rw [onL_list] at q
  refine v2 B H0 F H σ _ g (KS.kn g q fun dv v F1 H1 _ x s ac g' q' => ?_)
  obtain ⟨a, xs, o1, o2, o3, o4, o5⟩ := g'.own hr
  obtain ⟨b, zs, r1, r2, r3, r4, r5⟩ := g'.own hρ
  refine ⟨_, o1, _, r1, .inl ⟨rfl, _, SqL.of r2⟩, t2 B H0 F1 H1 σ _ g' (KS.kn g' q' fun k w F2 H2 _ x2 s2 ac2 g2 q2 => ?_)⟩
  obtain ⟨b', zs', p1, p2, p3, p4, p5⟩ := g2.own hρ
  rw [r1] at p1
  cases p1
  obtain ⟨pr, hp⟩ : ∃ pr, popL cur k = .ok pr := by
    cases e : popL cur k with
    | ok pr => exact ⟨pr, rfl⟩
    | stuck => exact absurd (by rw [e]; rfl) q2.ns
    | exc m =>
      exfalso
      unfold popL at e
      cases k <;> try (cases e; done)
      dsimp only at e
      split at e <;> try (cases e; done)
      split at e <;> try (cases e; done)
      split at e <;> cases e
  obtain ⟨n, kk, rfl, w1, w2, w3, w4, w5⟩ := popL_ok hp
  cases tp_int ac2
  obtain ⟨u, u1, u2⟩ := DpAll.get p4 w4
  refine ⟨b, zs', n, kk, u, rfl, rfl, p2, w1, w2, by rw [DpAll.length p4]; exact w3, u1, ?_⟩
  have g3 := p5 _ _ (DpAll.erase kk p4)
  have q3 := q2.of_eq (r' := (setL ds pr.1 dv).bd fun r => .ok (r, PyData.list pr.2)) (by rw [hp]; rfl)
  obtain ⟨j, m', hk, c4, c5⟩ := setL_ns (es := ds) (k := pr.1) (v := dv) fun z => q3.ns (by rw [z]; rfl)
  rw [hk] at u2
  cases u2
  have hr3 : (ρ.set l (cRes (.list (cur.eraseIdx kk))))[i]? = some (cRes (.list ds)) := by rw [List.getElem?_set_ne (fun z => hil z.symm)]; exact hr
  obtain ⟨a', xs', e1, e2, e3, e4, e5⟩ := g3.own hr3
  rw [o1] at e1
  cases e1
  have q4 := q3.ok (.list (ds.set m' dv), .list pr.2) (by rw [c5]; rfl)
  refine ⟨a, xs', j, m', rfl, rfl, e2, by rw [DpAll.length e4]; exact c4, ?_⟩
  have g5 := e5 _ _ (DpAll.set (Dp.mono x2.ff _ _ ac) m' e4)
  rw [← w5] at g5
  exact q4 F2 _ _ g5
theorem popL_nx {cur : List D} {k : D} (m : Str) : popL cur k ≠ .exc m := fun e => by
  unfold popL at e
  cases k <;> try (cases e; done)
  dsimp only at e
  split at e <;> try (cases e; done)
  split at e <;> try (cases e; done)
  split at e <;> cases e
/-- the two ways that a display is stored under a name: a plain local, or a captured one -/
def STc (X : Cx) (i j : Nat) (x : Str) (tg iter elt : Expr) (scope : Scope) (pos spos : Pos) (y : Str) (py : Pos) : Prop := ∀ {wi : TI} {g : TG} {tt : TT} {te : TE}, X.calm = true → X.N.Nodup → PI X tg iter wi → BlkOk X.N X.env.scope scope [(x, j)] →
    (∀ (s : Shared) (H : Hp) (C : Addr) (cl : List (Str × Addr)) (fp : List Addr), PG (X.blk s H scope (compEnvC scope cl C X.env) fp) tg g) → (∀ (s : Shared) (H : Hp) (C : Addr) (cl : List (Str × Addr)) (fp : List Addr), PTs (X.blk s H scope (compEnvC scope cl C X.env) fp) [] tt) →
    (∀ (s : Shared) (H : Hp) (C : Addr) (cl : List (Str × Addr)) (fp : List Addr), PE (X.blk s H scope (compEnvC scope cl C X.env) fp) elt te) → (∀ x, foldedSetIterable iter X.env x = pure x) →
    PS X (.Assign [.Name y py] (.ListComp elt [⟨tg, iter, [], 0⟩] scope pos) spos) (tAsg (tLc wi g tt te [j]) (gName i))
theorem st_plain {i j : Nat} {x : Str} {tg iter elt : Expr} {scope : Scope} {pos spos py : Pos} {y : Str} (hy : X.N[i]? = some y) (hyl : X.env.scope.names.lookup y = some .local)
    (hsw : swapsWith (.ListComp elt [⟨tg, iter, [], 0⟩] scope pos) (some (.Name y py)) spos.line X.env = pure true) : STc X i j x tg iter elt scope pos spos y py :=
  fun hc hN hi ok hg ht he hs => ps_setLc (pos := pos) hc hN hy hyl hsw hi ok hg ht he hs
theorem st_cell {i j : Nat} {x : Str} {tg iter elt : Expr} {scope : Scope} {pos spos py : Pos} {y : Str} (hy : X.N[i]? = some y) (hyl : Loc X.env.scope y)
    (hsw : swapsWith (.ListComp elt [⟨tg, iter, [], 0⟩] scope pos) (some (.Name y py)) spos.line X.env = pure false) (hf : X.fn y = true ∨ X.env.scope.names.lookup y = some .local) : STc X i j x tg iter elt scope pos spos y py :=
  fun hc hN hi ok hg ht he hs => ps_set hN hy hyl (pe_lc (own := [(x, j)]) hc hN hi ok hg ht he hs) hsw hf
/-- y = [left.pop(..) for x in range(n)] -/
theorem s1_popSet [C : Ctx X W] (i j l : Nat) (hlj : l ≠ j) (hil : i ≠ l) (hij : i ≠ j) (hj : j < ρ.length) (hρ : ρ[l]? = some (cRes d0)) (hn : EG X W ρ .T N rn)
    (ok : BlkOk X.N X.env.scope scope [(x, j)]) (hn1 : Blk5 X scope fun Y => NmOk Y j x)
    (hp : Blk5 X scope fun Y => PE Y (.Call (.Attribute (.Name left p2) "pop" apos) [IX] [] cpos) (tPop X.K ρ j l ix))
    (hmr : X.mg "range" = none) (hst : STc X i j x (.Name x p1) (.Call (.Name "range" pr) [N] [] pr2) (.Call (.Attribute (.Name left p2) "pop" apos) [IX] [] cpos) scope pos spos y py)
    (hgr : Gl X "range" := by rfl)
    (hsr : starEach [N] X.env = [(false, eval N X.env)] := by rfl) (hfs : ∀ y, foldedSetIterable (.Call (.Name "range" pr) [N] [] pr2) X.env y = pure y := by intro _; rfl) :
    S1 X W rk ρ (.Assign [.Name y py] (.ListComp (.Call (.Attribute (.Name left p2) "pop" apos) [IX] [] cpos) [⟨.Name x p1, .Call (.Name "range" pr) [N] [] pr2, [], 0⟩] scope pos) spos)
      ((rn.bd range1).bd fun ds => onL d0 fun cur => (popsR ix ds cur).bd lstR) (fun d => .nx (((ρ.set j cAny).set l cAny).set i (cRes d))) := by
  obtain ⟨tn, n1, n2⟩ := hn
  refine ⟨_, hst C.calm C.nd (pi_range1 (tg := .Name x p1) hgr hmr (pa_cons n1 pa_nil hsr) hsr) ok (fun s H c cl fp => pg_name (pos := p1) (blk_nd C.nd) (hn1 s H c cl fp).1 (hn1 s H c cl fp).2.1 (hn1 s H c cl fp).2.2) (fun s H c cl fp => pts_nil) hp hfs, fun B H0 F H σ D g q => n2 B H0 F H σ _ g (KS.kn (r := rn) (f := fun n => (range1 n).bd fun ds => onL d0 fun cur => (popsR ix ds cur).bd lstR) g (q.of_eq (bd_bd _ _ _)) fun n vn F3 H3 _ x3 s3 nc g3 q3 => ?_)⟩
  cases n <;> first | exact absurd rfl q3.ns | skip
  cases tp_int nc
  rename_i many _
  cases c : in62 many with
  | false => exact absurd (by simp [range1, c]) q3.ns
  | true =>
  have c' := of_decide_eq_true c
  have q4 := q3.of_eq (show _ = onL d0 fun cur => (popsR ix (rangeL 0 many.toNat) cur).bd lstR by simp [range1, c])
  obtain ⟨cur0, rfl⟩ := onL_ns q4.ns
  rw [onL_list] at q4
  obtain ⟨out, w1⟩ : ∃ out, popsR ix (rangeL 0 many.toNat) cur0 = .ok out := by
    cases e : popsR ix (rangeL 0 many.toNat) cur0 with
    | ok out => exact ⟨out, rfl⟩
    | exc m => exact absurd e (popsR_nx _ _ _ _)
    | stuck => exact absurd (by rw [e]; rfl) q4.ns
  rw [w1, bd_ok] at q4
  cases c2 : fits out.length with
  | false => exact absurd (by simp [lstR, c2]) q4.ns
  | true =>
  have q5 := q4.of_eq (r' := .ok (.list out)) (by simp [lstR, c2])
  have w3 := fits_le c2
  refine ⟨many, rfl, c'.1, c'.2, fun L hL => ?_⟩
  have hlen := g3.len
  have hlr : l < ρ.length := by
    rcases Nat.lt_or_ge l ρ.length with z | z
    · exact z
    · rw [List.getElem?_eq_none z] at hρ; cases hρ
  have gw : Good B H0 F3 H3 ((wipeE ρ [j]).set l (cRes (.list cur0))) (wipe σ [j]) := by
    have := g3.wipe [j]
    rwa [set_self (a := cRes (.list cur0)) (by simp only [wipeE]; rw [List.getElem?_set_ne (fun z => hlj z.symm)]; exact hρ)]
  have g4 := gw.push hL (xs := []) (ds := []) .nil
  refine ⟨fun i m H4 => m = many.toNat - i ∧ i ≤ many.toNat ∧ ∃ F4 done cur more, Same F3 F4 ∧ Good B H0 F4 H4 ((wipeE ρ [j]).set l (cRes (.list cur)) ++ [cRes (.list done)]) (wipe σ [j] ++ [some (.ref L)]) ∧ popsR ix ((rangeL 0 many.toNat).drop i) cur = .ok more ∧ out = done ++ more, ⟨_, rfl, Nat.zero_le _, F3, [], cur0, out, Same.refl _, g4, w1, rfl⟩, ?_⟩
  rintro i' m H4 ⟨rfl, hi, F4, done, cur, more, f34, gd, hm, ho⟩
  have lastc : ∀ cur : List PyData, ∀ c : Cell X.K, ((wipeE ρ [j]).set l (cRes (.list cur)) ++ [c])[ρ.length]? = some c := fun cur c => by
    rw [List.getElem?_append_right (by simp [wipeE])]
    simp [wipeE]
  have lasts : ∀ e : Option V, (wipe σ [j] ++ [e])[ρ.length]? = some e := fun e => by
    rw [List.getElem?_append_right (by rw [wipe_length]; omega)]
    simp [wipe_length, hlen]
  by_cases hlt : i' < many.toNat
  · refine .inr ⟨hlt, fun H' => i' + 1 ≤ many.toNat ∧ ∃ F4 done cur more, Same F3 F4 ∧ Good B H0 F4 H' ((wipeE ρ [j]).set l (cRes (.list cur)) ++ [cRes (.list done)]) (wipe σ [j] ++ [some (.ref L)]) ∧ popsR ix ((rangeL 0 many.toNat).drop (i' + 1)) cur = .ok more ∧ out = done ++ more, fun H' z => ⟨many.toNat - (i' + 1), by omega, rfl, z⟩, fun xv H5 y => ?_⟩
    obtain ⟨rfl, rfl⟩ := y
    have hdrop : (rangeL 0 many.toNat).drop i' = .int (0 + (i' : Int)) :: (rangeL 0 many.toNat).drop (i' + 1) := by
      rw [List.drop_eq_getElem_cons (by simpa [rangeL] using hlt)]
      simp [rangeL]
    rw [hdrop] at hm
    unfold popsR at hm
    obtain ⟨iv, hiv⟩ : ∃ iv, ix (.int (0 + (i' : Int))) cur = .ok iv := nx_ns fun z => by rw [z] at hm; cases hm
    rw [hiv, nx_ok, bd_ok] at hm
    cases hp : popL cur iv with
    | stuck => rw [hp] at hm; cases hm
    | exc n => rw [hp] at hm; cases hm
    | ok pr =>
    rw [hp, bd_ok] at hm
    cases hr : popsR ix ((rangeL 0 many.toNat).drop (i' + 1)) pr.2 with
    | stuck => rw [hr] at hm; cases hm
    | exc n => rw [hr] at hm; cases hm
    | ok more' =>
    rw [hr, bd_ok] at hm
    cases hm
    obtain ⟨n, k, rfl, p1', p2', p3', p4', p5'⟩ := popL_ok hp
    have g5 := gd.setV (i := j) (Dp.int (K := X.K) (H := F4) (0 + (i' : Int)))
    rw [List.set_append_left _ _ (by simpa [wipeE] using hj), List.set_append_left _ _ (by rw [wipe_length]; omega), rhoP_of hlj] at g5
    refine ⟨set_none, ?_⟩
    dsimp only [tYes]
    rw [if_pos rfl]
    refine ⟨B, H0, F4, .int (0 + (i' : Int)), cur, cRes (.list done), some (.ref L), g5, n, k, pr.1, hiv, p1', p2', p3', p4', fun v F6 H6 s46 g7 dv => ?_⟩
    obtain ⟨L', acc, o1, o2, o3, o4, o5⟩ := g7.own (i := ρ.length) (ds := done) (by rw [List.getElem?_append_right (by simp [rhoP_len])]; simp [rhoP_len])
    rw [List.getElem?_append_right (by simp [wipe_length]; omega)] at o1
    simp only [List.length_set, wipe_length, hlen, Nat.sub_self, List.getElem?_cons_zero, Option.some.injEq, V.ref.injEq] at o1
    subst o1
    have la := DpAll.length o4
    have lo := congrArg List.length ho
    rw [List.length_append, List.length_cons] at lo
    refine ⟨acc, o2, by omega, hlt, F6, done ++ [pr.1], pr.2, more', f34.trans s46, ?_, hr, by rw [ho]; simp⟩
    have g8 := (o5 _ _ (DpAll.append o4 (.cons dv .nil))).wipe [j]
    have e1 : wipeE ((rhoP ρ j l (.int (0 + (i' : Int))) (cur.eraseIdx k) ++ [cRes (.list done)]).set ρ.length (cRes (.list (done ++ [pr.1])))) [j] = (wipeE ρ [j]).set l (cRes (.list pr.2)) ++ [cRes (.list (done ++ [pr.1]))] := by
      rw [List.set_append_right _ _ (by rw [rhoP_len]; exact Nat.le_refl _), p5']
      show List.set (_ ++ _) j cAny = _
      rw [List.set_append_left _ _ (by rw [rhoP_len]; exact hj), rhoP_wipe hlj, rhoP_len, Nat.sub_self]
      rfl
    have e2 : wipe ((wipe σ [j]).set j (some (.int (0 + (i' : Int)))) ++ [some (.ref L)]) [j] = wipe σ [j] ++ [some (.ref L)] := by
      show List.set (_ ++ _) j none = _
      rw [List.set_append_left _ _ (by rw [List.length_set, wipe_length]; omega)]
      show wipe _ [j] ++ _ = _
      rw [set_none]
    rw [e1] at g8
    rw [e2] at g8
    exact g8
  · have e : i' = many.toNat := by omega
    subst e
    refine .inl ⟨Nat.le_refl _, ?_⟩
    rw [List.drop_eq_nil_of_le (by simp [rangeL])] at hm
    cases hm
    rw [List.append_nil] at ho
    subst ho
    have gm := gd.move (by simp [wipeE, wipe_length, hlen]) i
    obtain ⟨F5, s5, g5⟩ := wk_any l _ _ _ _ _ gm
    have hc : (((((wipeE ρ [j]).set l (cRes (.list cur))).set i (cRes (.list out))).set l cAny : Env X.K))[j]? = some cAny := by
      rw [List.getElem?_set_ne hlj, List.getElem?_set_ne hij, List.getElem?_set_ne hlj]
      simp only [wipeE]
      rw [List.getElem?_set_self hj]
    obtain ⟨vj, hvj⟩ : ∃ vj, σ[j]? = some vj := ⟨_, List.getElem?_eq_getElem (by omega)⟩
    have g6 := g5.anyS j vj hc
    have e1 : (((((wipeE ρ [j]).set l (cRes (.list cur))).set i (cRes (.list out))).set l cAny : Env X.K)) = ((ρ.set j cAny).set l cAny).set i (cRes (.list out)) := by
      simp only [wipeE]
      rw [List.set_comm _ _ hil, List.set_set]
    have e2 : (((wipe σ [j]).set i (some (.ref L))).set j vj) = σ.set i (some (.ref L)) := by
      simp only [wipe]
      rw [List.set_comm _ _ hij, List.set_set, set_self hvj]
    rw [e1, e2] at g6
    have q6 := q5.ok (.list out) rfl F5 H4 _ g6
    exact q6
end
end DL
/-! range(a, b, c) upwards -/
namespace DL
open PySem L2
def rangeC (lo c : Int) (n : Nat) : List D := (List.range n).map fun (t : Nat) => .int (lo + (t : Int) * c)
def range3V : D → D → D → Res (List D)
  | .int i, .int j, .int c => if decide (0 < c ∧ c < 1000000 ∧ 0 ≤ i ∧ i < 1000000 ∧ 0 ≤ j ∧ j < 1000000) then .ok (rangeC i c ((j - i + c - 1) / c).toNat) else .stuck
  | _, _, _ => .stuck
def range3R (ra rb rc : Res D) : Res (List D) := ra.bd fun a => rb.bd fun b => rc.bd fun c => range3V a b c
theorem rgC_up {i j c : Int} (c0 : 0 < c) (c1 : c < 1000000) (i0 : 0 ≤ i) (i1 : i < 1000000) (j0 : 0 ≤ j) (j1 : j < 1000000) : RgC i j c ((j - i + c - 1) / c).toNat := by
  have h0 : 0 ≤ (j - i + c - 1) / c ∨ j - i + c - 1 < 0 := by
    rcases Int.lt_or_le (j - i + c - 1) 0 with h | h
    · exact .inr h
    · exact .inl (Int.ediv_nonneg h (by omega))
  have hsz : Builtin.Range.rangeSize i j c = (((j - i + c - 1) / c).toNat : Int) := by
    unfold Builtin.Range.rangeSize
    rw [if_pos c0]
    by_cases h : i < j
    · rw [if_pos h]
      have e : (j - i + c - 1) / c = (j - i - 1) / c + 1 := by
        rw [show j - i + c - 1 = (j - i - 1) + 1 * c by omega, Int.add_mul_ediv_right _ _ (by omega)]
      have := Int.ediv_nonneg (show 0 ≤ j - i - 1 by omega) (show 0 ≤ c by omega)
      omega
    · rw [if_neg h]
      have : (j - i + c - 1) / c ≤ 0 := by
        have : (j - i + c - 1) / c ≤ (c - 1) / c := Int.ediv_le_ediv c0 (by omega)
        have e : (c - 1) / c = 0 := Int.ediv_eq_zero_of_lt (by omega) (by omega)
        omega
      omega
  refine ⟨by omega, by omega, ?_, hsz⟩
  have hle : (((j - i + c - 1) / c).toNat : Int) ≤ 2000000 := by
    have h1 : (j - i + c - 1) / c ≤ 2000000 := by
      have := Int.ediv_le_self (a := 2000000) c (by omega)
      have := Int.ediv_le_ediv (a := j - i + c - 1) (b := 2000000) c0 (by omega)
      omega
    omega
  unfold Builtin.Range.small
  rw [hsz]
  generalize ((j - i + c - 1) / c).toNat = n at *
  have hm : (n : Int) * c < 1000000000000000 := by
    have h1 : (n : Int) * c ≤ 2000000 * c := Int.mul_le_mul_of_nonneg_right hle (by omega)
    omega
  have hm0 : 0 ≤ (n : Int) * c := Int.mul_nonneg (by omega) (by omega)
  have hm2 : ((n : Int) - 1) * c = (n : Int) * c - c := by rw [Int.sub_mul, Int.one_mul]
  simp only [Builtin.Range.rangeFitsLong, Bool.and_eq_true, Bool.or_eq_true, decide_eq_true_eq, beq_iff_eq, hm2]
  rw [if_pos c0]
  simp only [Bool.and_eq_true, decide_eq_true_eq]
  omega
section
variable {X : Cx} {W : WX} {ρ : Env X.K} {a b c : Expr} {ra rb rc : Res D} {p pos : Pos}
theorem walk_rangeC {K : PySem.W.Frag} {F : Hp} (lo c : Int) (n : Nat) : WalkF K F (rangeC lo c n) (Itc lo c n) := fun F2 H2 e s => by
  refine ⟨by show n ≤ _; unfold rangeC; simp, fun i d hd => ?_⟩
  unfold rangeC at hd
  rw [List.getElem?_map] at hd
  by_cases hi : i < n
  · rw [List.getElem?_range hi] at hd
    cases hd
    refine ⟨hi, fun x H3 ⟨y1, y2⟩ => ?_⟩
    subst y1; subst y2
    exact ⟨F2, Ex.refl _ _, s, .int _⟩
  · rw [List.getElem?_eq_none (by simpa using hi)] at hd
    cases hd
theorem if_range3 {tg : Expr} (ha : EG X W ρ .T a ra) (hb : EG X W ρ .T b rb) (hc : EG X W ρ .T c rc) (hm : X.mg "range" = none) (hg : Gl X "range" := by rfl)
    (hs : starEach [a, b, c] X.env = (false, eval a X.env) :: starEach [b, c] X.env := by rfl) (hs2 : starEach [b, c] X.env = (false, eval b X.env) :: starEach [c] X.env := by rfl) (hs3 : starEach [c] X.env = (false, eval c X.env) :: starEach [] X.env := by rfl)
    (hpl : (backTo pos (starEach [b, c] X.env)).any (·.1) = false := by rfl) : IF' X W ρ tg (.Call (.Name "range" p) [a, b, c] [] pos) (range3R ra rb rc) := by
  obtain ⟨t, h1, h2⟩ := ha
  obtain ⟨u, g1, g2⟩ := hb
  obtain ⟨v, f1, f2⟩ := hc
  refine ⟨_, pi_range3 hg hm (pa_cons h1 (pa_cons g1 (pa_cons f1 pa_nil hs3) hs2) hs) hs hpl, fun B H0 F H σ Q gd k => h2 B H0 F H σ _ gd (Kn.bd k aF_base fun d x F1 H1 _ e1 s1 q1 k1 => g2 B H0 F1 H1 σ _ (gd.go e1 s1) (Kn.bd k1 aF_base fun d2 y F2 H2 _ e2 s2 q2 k2 => f2 B H0 F2 H2 σ _ ((gd.go e1 s1).go e2 s2) (Kn.bd k2 aF_base fun d3 z F3 H3 _ e3 s3 q3 k3 => ?_)))⟩
  cases d <;> first | exact absurd rfl k3.ns | skip
  cases d2 <;> first | exact absurd rfl k3.ns | skip
  cases d3 <;> first | exact absurd rfl k3.ns | skip
  cases tp_int q1
  cases tp_int q2
  cases tp_int q3
  rename_i i _ j _ m _
  cases hc : decide (0 < m ∧ m < 1000000 ∧ 0 ≤ i ∧ i < 1000000 ∧ 0 ≤ j ∧ j < 1000000) with
  | false => exact absurd (by simp only [range3V, hc]; rfl) k3.ns
  | true =>
    have k4 := k3.of_eq (r' := .ok (rangeC i m ((j - i + m - 1) / m).toNat)) (by simp only [range3V, hc]; rfl)
    obtain ⟨c0, c1, i0, i1, j0, j1⟩ := of_decide_eq_true hc
    exact ⟨i, j, m, _, rfl, rgC_up c0 c1 i0 i1 j0 j1, k4.ret (Ex.refl _ _) s3 (walk_rangeC _ _ _)⟩
end
end DL
/-! a, b = x, y -/
namespace DL
open PySem L2
def lst2 : List D → Res (D × D)
  | [a, b] => .ok (a, b)
  | _ => .stuck
@[simp] theorem lst2_two (a b : D) : lst2 [a, b] = .ok (a, b) := id rfl
section
variable {X : Cx} {W : WX} {rk : Md} {ρ : Env X.K} {a b : Expr} {rs : Res (List D)} {x y : Str} {px py pt pos : Pos} {kt : Nat} {k2 : Nat} {pt2 : Pos}
theorem s1_par2 [C : Ctx X W] (i j : Nat) (hij : i ≠ j) (ha : AG X W ρ [a, b] rs) (hi : X.N[i]? = some x := by rfl) (hj : X.N[j]? = some y := by rfl)
    (hx : X.env.scope.names.lookup x = some .local := by rfl) (hy : X.env.scope.names.lookup y = some .local := by rfl)
    (hw : swappedStores [.Tuple [.Name x px, .Name y py] kt pt] (.Tuple [a, b] k2 pt2) X.env = pure (some [x, y]) := by rfl)
    (hs : swapsWithSole [.Tuple [.Name x px, .Name y py] kt pt] (.Tuple [a, b] k2 pt2) pos.line X.env = pure false := by rfl) :
    S1 X W rk ρ (.Assign [.Tuple [.Name x px, .Name y py] kt pt] (.Tuple [a, b] k2 pt2) pos) (rs.bd lst2) (fun s : D × D => .nx ((ρ.set i (cVal s.1)).set j (cVal s.2))) := by
  obtain ⟨al, t, a1, a2⟩ := ha
  refine ⟨_, ps_par C.calm C.nd hi hj hij hx hy a1 hw hs, fun B H0 F H σ D g q => a2 B H0 F H σ _ g (KS.kn g q fun ds vs F1 H1 ed x1 s1 ac g1 q1 => ?_)⟩
  have hl := al ds ed
  match ds, vs, ac, hl with
  | [d, e], [v, w], .cons p1 (.cons p2 .nil), _ =>
    have q2 := q1.ok (d, e) rfl F1 H1 ((σ.set i (some v)).set j (some w)) ((g1.setV (i := i) p1).setV (i := j) p2)
    exact ⟨v, w, rfl, q2⟩
end
end DL
/-! dicts of one's own keyed by whole numbers: {}, d.get(k, x), d[k] = v -/
namespace DL
open PySem L2 PySem.Spec PyProof.Rows
def KEnts (K : PySem.W.Frag) (F : Hp) : List (D × D) → List (Key × V) → Prop := Paired fun p x => ∃ i : Int, p.1 = .int i ∧ x.1 = .inl i ∧ Dp K F x.2 p.2
theorem KEnts.mono {K : PySem.W.Frag} {F F' : Hp} (s : Same F F') {kvs : List (D × D)} {xs : List (Key × V)} (h : KEnts K F kvs xs) : KEnts K F' kvs xs := Paired.mapP h fun _ _ ⟨i, a, b, c⟩ => ⟨i, a, b, Dp.mono s _ _ c⟩
def cDk {K : PySem.W.Frag} (d : D) : Cell K := ⟨fun F H v as => ∃ a kvs xs, d = .dict kvs ∧ v = some (.ref a) ∧ as = [a] ∧ H a = some (.dK xs) ∧ KEnts K F kvs xs,
  fun s e ⟨a, kvs, xs, h1, h2, h3, h4, h5⟩ => ⟨a, kvs, xs, h1, h2, h3, by rw [e a (by rw [h3]; simp)]; exact h4, h5.mono s⟩,
  fun ⟨a, kvs, xs, _, _, h3, h4, _⟩ b hb => by rw [h3] at hb; rw [List.mem_singleton.mp hb, h4]; exact fun z => nomatch z⟩
def sameI (i : Int) (p : D × D) : Bool := match p.1 with
  | .int j => decide (j = i)
  | _ => false
def valI (kvs : List (D × D)) (i : Int) : Option D := (kvs.find? (sameI i)).map (·.2)
def putI (kvs : List (D × D)) (i : Int) (v : D) : List (D × D) := if (kvs.any (sameI i)) = true then kvs.map (fun p => if sameI i p then (p.1, v) else p) else kvs ++ [(.int i, v)]
theorem kents_val {K : PySem.W.Frag} {F : Hp} (i : Int) : ∀ {kvs : List (D × D)} {xs : List (Key × V)}, KEnts K F kvs xs → (kvs.any (sameI i) = xs.any fun kv => decide (kv.1 = .inl i)) ∧ ((valI kvs i = none ∧ valV xs (.inl i) = none) ∨ ∃ d v, valI kvs i = some d ∧ valV xs (.inl i) = some v ∧ Dp K F v d)
  | _, _, .nil => ⟨rfl, .inl ⟨rfl, rfl⟩⟩
  | (pk, pd) :: kvs, (xk, xv) :: xs, .cons ⟨j, h1, h2, h3⟩ t => by
    obtain ⟨i1, i2⟩ := kents_val i (kvs := kvs) (xs := xs) t
    simp only at h1 h2 h3
    subst h1 h2
    by_cases e : j = i
    · subst e
      refine ⟨by simp [sameI], .inr ⟨pd, xv, ?_, ?_, h3⟩⟩
      · simp [valI, sameI, List.find?_cons]
      · exact valV_pos rfl
    · have e2 : ¬ ((.inl j : Key) = .inl i) := fun z => e (Sum.inl.inj z)
      refine ⟨?_, ?_⟩
      · simp only [List.any_cons, i1]
        simp [sameI, e]
      · rw [valV_neg (p := ((.inl j : Key), xv)) e2]
        have : valI ((PyData.int j, pd) :: kvs) i = valI kvs i := by simp [valI, sameI, List.find?_cons, e]
        rw [this]
        exact i2
theorem kents_map {K : PySem.W.Frag} {F : Hp} (i : Int) {v : V} {d : D} (r : Dp K F v d) : ∀ {kvs : List (D × D)} {xs : List (Key × V)}, KEnts K F kvs xs → KEnts K F (kvs.map fun p => if sameI i p then (p.1, d) else p) (xs.map fun kv => if kv.1 = .inl i then (kv.1, v) else kv)
  | _, _, .nil => .nil
  | (pk, pd) :: kvs, (xk, xv) :: xs, .cons ⟨j, h1, h2, h3⟩ t => by
    have ih := kents_map i r (kvs := kvs) (xs := xs) t
    simp only at h1 h2 h3
    subst h1 h2
    rw [List.map_cons, List.map_cons]
    refine .cons ?_ ih
    by_cases e : j = i
    · subst e
      simp only [sameI, decide_true, if_true]
      exact ⟨j, rfl, rfl, r⟩
    · have e2 : ¬ ((.inl j : Key) = .inl i) := fun z => e (Sum.inl.inj z)
      simp only [sameI, e, decide_false, Bool.false_eq_true, if_false, e2]
      exact ⟨j, rfl, rfl, h3⟩
theorem kents_app {K : PySem.W.Frag} {F : Hp} (i : Int) {v : V} {d : D} (r : Dp K F v d) : ∀ {kvs : List (D × D)} {xs : List (Key × V)}, KEnts K F kvs xs → KEnts K F (kvs ++ [(.int i, d)]) (xs ++ [(.inl i, v)])
  | _, _, .nil => .cons ⟨i, rfl, rfl, r⟩ .nil
  | _ :: _, _ :: _, .cons h t => .cons h (kents_app i r t)
theorem kents_put {K : PySem.W.Frag} {F : Hp} (i : Int) {v : V} {d : D} (r : Dp K F v d) {kvs : List (D × D)} {xs : List (Key × V)} (h : KEnts K F kvs xs) : KEnts K F (putI kvs i d) (putK xs (.inl i) v) := by
  obtain ⟨h1, _⟩ := kents_val i h
  unfold putI putK
  rw [h1]
  split
  · exact kents_map i r h
  · exact kents_app i r h
/-- d.get(k, x); d[k] = v -/
def getI (d e z : D) : Res D := match d, e with
  | .dict kvs, .int i => .ok ((valI kvs i).getD z)
  | _, _ => .stuck
def setI (d e v : D) : Res D := match d, e with
  | .dict kvs, .int i => if decide (kvs.length < 16777216) then .ok (.dict (putI kvs i v)) else .stuck
  | _, _ => .stuck
def dictVals (d : D) : Res (List D) := match d with
  | .dict kvs => .ok (kvs.map (·.2))
  | _ => .stuck
theorem Good.dk {K : PySem.W.Frag} {B H0 F H : Hp} {ρ : Env K} {σ : L2.St} {i : Nat} {d : D} (g : Good B H0 F H ρ σ) (h : ρ[i]? = some (cDk d)) :
    ∃ a kvs xs, d = .dict kvs ∧ σ[i]? = some (some (.ref a)) ∧ H a = some (.dK xs) ∧ KEnts K F kvs xs ∧ ∀ ys es, KEnts K F es ys → Good B H0 F (upd H a (.dK ys)) (ρ.set i (cDk (.dict es))) σ := by
  obtain ⟨e, f, ass, h1, h2, h3⟩ := g
  obtain ⟨v, as, g1, g2, a, kvs, xs, g3, g4, g5, g6, g7⟩ := h1.get h
  subst g3 g4 g5
  have ha : a ∈ ass.flatten := List.mem_flatten.mpr ⟨[a], List.mem_of_getElem? g2, by simp⟩
  have hF := (h3 a ha).1
  refine ⟨a, kvs, xs, rfl, g1, g6, g7, fun ys es q => ?_⟩
  have s3 := Slots.set (i := i) (c := (cAny : Cell K)) (v := some (V.ref a)) (as := []) h1 rfl
  rw [set_self g1] at s3
  have na : a ∉ (ass.set i []).flatten := not_in_set h2 g2 (by simp) List.not_mem_nil
  have s4 : Slots F (upd H a (.dK ys)) (ρ.set i cAny) σ (ass.set i []) := s3.mono (Same.refl F) fun b hb => upd_ne fun z => na (z ▸ hb)
  have s5 := Slots.set (i := i) (c := (cDk (.dict es) : Cell K)) (v := some (V.ref a)) (as := [a]) s4 ⟨a, es, ys, rfl, rfl, rfl, upd_same, q⟩
  rw [set_self g1, List.set_set, List.set_set, set_self g2] at s5
  refine ⟨⟨e.ff, fun b o hb => ?_, e.eq⟩, Same.updO f hF, ass, s5, h2, h3⟩
  rw [upd_ne (fun z => by rw [z, (h3 a ha).2] at hb; cases hb)]
  exact e.hh b o hb
/-- a new dict in a slot -/
theorem Good.newK {K : PySem.W.Frag} {B H0 F H : Hp} {ρ : Env K} {σ : L2.St} {i : Nat} {p : Addr} (g : Good B H0 F H ρ σ) (hp : H p = none) : Good B H0 F (upd H p (.dK [])) (ρ.set i (cDk (.dict []))) (σ.set i (some (.ref p))) := by
  obtain ⟨e, f, ass, h1, h2, h3⟩ := g
  have th := h1.there
  have x : Ex F H F (upd H p (.dK [])) := Ex.newO hp
  have h1' : Slots F (upd H p (.dK [])) ρ σ ass := h1.mono x.ff fun a ha => Same.ne x.hh (th a ha)
  refine ⟨e.trans x, Same.updO f (Same.free f hp), ass.set i [p], h1'.set (c := cDk (.dict [])) ⟨p, [], [], rfl, rfl, rfl, upd_same, .nil⟩, nodup_flatten_set h2 (by simp) fun b hb hm => th b hm (by rw [List.mem_singleton.mp hb]; exact hp), fun b hb => ?_⟩
  rcases mem_flatten_set hb with z | z
  · exact h3 b z
  · rw [List.mem_singleton.mp z]
    exact ⟨Same.free f hp, Same.free e.hh hp⟩
section
variable {X : Cx} {W : WX} {rk m : Md} {ρ : Env X.K} {e a c f : Expr} {r ra rb rf : Res D} {pos p p2 p3 apos cpos : Pos} {x : Str} {d : D}
/-- x = {} -/
theorem s1_knew [C : CtxB X W] {pos' : Pos} (i : Nat) (hi : X.N[i]? = some x := by rfl) (hx : Loc X.env.scope x := by first | exact Or.inl rfl | exact Or.inr rfl) (hs : swapsWith (.Dict [] [] p) (some (.Name x pos')) pos.line X.env = pure false := by rfl) (hf : X.fn x = true ∨ X.env.scope.names.lookup x = some .local := by first | exact .inl rfl | exact .inr rfl) :
    S1 X W rk ρ (.Assign [.Name x pos'] (.Dict [] [] p) pos) (.ok (.dict [])) (fun d => .nx (ρ.set i (cDk d))) :=
  ⟨_, ps_set C.nd hi hx pe_dnewK hs hf, fun B H0 F H σ D g q p hp => q.ok _ rfl F _ _ (g.newK hp)⟩
/-- d.get(k, x) -/
theorem eg_getI [C : CtxB X W] (i : Nat) (hρ : ρ[i]? = some (cDk d)) (ha : EG X W ρ .V a ra) (hf : EG X W ρ .V f rf) (mm : M2 X (.Name x p) "get" apos a f cpos) (hN : X.N[i]? = some x := by rfl) (hv : Vis X.env.scope x := by first | exact Or.inl rfl | exact Or.inr (Or.inl rfl) | exact Or.inr (Or.inr rfl)) (hd : (x == ("__debug__" : Str)) = false := by decide)
    (hcd : (x == ("__classdict__" : Str)) = false := by decide) : EG X W ρ .V (.Call (.Attribute (.Name x p) "get" apos) [a, f] [] cpos) (ra.bd fun e => rf.bd fun z => getI d e z) := by
  obtain ⟨ta, a1, a2⟩ := ha
  obtain ⟨tf, f1, f2⟩ := hf
  refine ⟨_, pe_dget2 (by have := C.hu; omega) (pe_var hN hv hd hcd) a1 f1 mm, fun B H0 F H σ Q gd k => ?_⟩
  obtain ⟨a0, kvs, xs, rfl, h1, h2, _⟩ := gd.dk hρ
  refine ⟨_, h1, a0, rfl, .inl ⟨xs, .inl h2⟩, a2 B H0 F H σ _ gd (Kn.bd k acc_base fun e y F1 H1 _ e1 s1 q1 k1 => ?_)⟩
  have gd1 := gd.go e1 s1
  refine f2 B H0 F1 H1 σ _ gd1 (Kn.bd k1 acc_base fun z v F2 H2 _ e2 s2 q2 k2 => ?_)
  obtain ⟨a', kvs', xs', zz, g1, g2, g3, _⟩ := (gd1.go e2 s2).dk hρ
  cases zz
  rw [h1] at g1
  cases g1
  have q1 : Dp X.K F1 y e := q1
  have q2 : Dp X.K F2 v z := q2
  obtain ⟨n, rfl⟩ : ∃ n, e = .int n := by
    cases e <;> first | exact ⟨_, rfl⟩ | exact absurd rfl k2.ns
  cases q1
  refine ⟨_, DGet.k (k := .inl n) g2, ?_⟩
  rcases (kents_val n g3).2 with ⟨w1, w2⟩ | ⟨dd, vv, w1, w2, w3⟩
  · rw [w2]
    exact (k2.of_eq (r' := .ok z) (by simp only [getI, w1]; rfl)).ret (Ex.refl _ _) s2 q2
  · rw [w2]
    exact (k2.of_eq (r' := .ok dd) (by simp only [getI, w1]; rfl)).ret (Ex.refl _ _) s2 w3
/-- d[k] = v -/
theorem s1_putI [C : CtxB X W] {ev : Expr} {pos' : Pos} {rv : Res D} (i : Nat) (hρ : ρ[i]? = some (cDk d)) (hv' : EG X W ρ .V ev rv) (ha : EG X W ρ .V a ra) (hs : swapsWith ev (some (.Subscript (.Name x p) a pos')) pos.line X.env = pure false := by rfl) (hN : X.N[i]? = some x := by rfl)
    (hv : Vis X.env.scope x := by first | exact Or.inl rfl | exact Or.inr (Or.inl rfl) | exact Or.inr (Or.inr rfl)) (hd : (x == ("__debug__" : Str)) = false := by decide) (hcd : (x == ("__classdict__" : Str)) = false := by decide) :
    S1 X W rk ρ (.Assign [.Subscript (.Name x p) a pos'] ev pos) (rv.bd fun v => ra.bd fun e => setI d e v) (fun d => .nx (ρ.set i (cDk d))) := by
  obtain ⟨tv, v1, v2⟩ := hv'
  obtain ⟨ta, a1, a2⟩ := ha
  refine ⟨_, ps_dput (by have := C.hu; omega) (pe_var hN hv hd hcd) a1 v1 hs, fun B H0 F H σ D g q => ?_⟩
  refine v2 B H0 F H σ _ g (KS.kn g q fun dv v F1 H1 _ x s ac g' q' => ?_)
  obtain ⟨a0, kvs, xs, rfl, o1, _⟩ := g'.dk hρ
  refine ⟨_, o1, a2 B H0 F1 H1 σ _ g' (KS.kn g' q' fun e y F2 H2 _ x2 s2 ac2 g2 q2 => ?_)⟩
  obtain ⟨a', kvs', xs', z, p1, p2, p3, p4⟩ := g2.dk hρ
  cases z
  rw [o1] at p1
  cases p1
  have ac2 : Dp X.K F2 y e := ac2
  obtain ⟨n, rfl⟩ : ∃ n, e = .int n := by
    cases e <;> first | exact ⟨_, rfl⟩ | exact absurd rfl q2.ns
  cases ac2
  cases hl : decide (kvs.length < 16777216) with
  | false => exact absurd (by simp only [setI, hl]; rfl) q2.ns
  | true =>
    have q3 := q2.of_eq (r' := .ok (.dict (putI kvs n dv))) (by simp only [setI, hl]; rfl)
    have hl' := of_decide_eq_true hl
    refine ⟨a0, _, rfl, DPut.k (k := .inl n) p2 (by rw [← Paired.length p3, PySem.sizeLine_eq]; omega), ?_⟩
    exact q3.ok _ rfl F2 _ _ (p4 _ _ (kents_put n (Dp.mono x2.ff _ _ ac) p3))
end
end DL
/-! sorted(d.values(), reverse=True) -/
namespace DL
open PySem PySem.W PySem.Spec L2 PyProof.Rows
theorem collects_vals {prog : Program} {w : World} {A : Around} {s : Shared} {r a : Addr} {es : Array DictEntry} {ep : Nat} (vw : s.heap.IsValuesView r a) (raw : s.heap.DictRaw a es ep) (hh : A.handled = none) (hz : es.size ≤ sizeLine) : Collects prog w A s (.ref r) (es.toList.map (·.val)) := fun E R h =>
  PySem.W.kdu_collect KdlSrc.rawValues hh ⟨vw, raw⟩ hz fun h' tk acc k it => by
    have e : acc.toList = es.toList.map (·.val) := by
      apply List.ext_getElem?
      intro j
      rw [List.getElem?_map, Array.getElem?_toList, Array.getElem?_toList]
      cases c : acc[j]? with
      | none =>
        have h1 := Array.getElem?_eq_none_iff.mp c
        rw [Array.getElem?_eq_none (by rw [it.1] at h1; exact h1)]
        rfl
      | some v =>
        obtain ⟨hi, rfl⟩ := it.2 j v c
        rw [Array.getElem?_eq_getElem hi]
        rfl
    rw [e]
    exact h h' tk k
theorem kvals_each {K : PySem.W.Frag} {F : Hp} : ∀ {kvs : List (D × D)} {xs : List (Key × V)} {vs : List (Key × Value)}, KEnts K F kvs xs → KV xs vs → EachIs (RelD K F) (vs.map (·.2)) (kvs.map (·.2))
  | _, _, _, .nil, .nil => .nil
  | _, _, _, .cons ⟨_, _, _, h3⟩ t, .cons r t2 => .cons ⟨_, r.2, h3⟩ (kvals_each t t2)
def sortDR (ds : List D) : List D := ds.mergeSort (dataLe true id)
def sortRR (ds : List D) : Res D := if sortOk ds then .ok (.list (sortDR ds)) else .stuck
def sortedVR (d : D) : Res D := (dictVals d).bd sortRR
section
variable {X : Cx} {W : WX} {rk m : Md} {ρ : Env X.K} {o e a c f : Expr} {r ra rb rf : Res D} {pos p p2 p3 apos cpos kpos bpos : Pos} {x : Str} {d : D} {td : TE}
/-- d.values() -/
theorem pe_kvals (hd : PE X o td) (hbase : attributeBase o "values" X.env (eval o X.env) = eval o X.env := by rfl) (hline : (apos.endLine == cpos.line) = true := by rfl) :
    PE X (.Call (.Attribute o "values" apos) [] [] cpos) (fun σ H Q => td σ H fun x H1 => ∃ a kvs, x = V.ref a ∧ H1 a = some (.dK kvs) ∧ ∀ p, H1 p = none → Q (.ref p) (upd H1 p (viewO "dict_values" p a))) := by
  refine ⟨fun pins s σ H Q I h => ?_⟩
  refine wpAny_Call_method (T := "dict") (id := "dict.values") hbase rfl hline PySem.F.plainAttrs_dict PySem.F.slot_dict_values PySem.F.type_dict_values (thn (hd.run pins s σ H _ I h) fun u s1 ⟨x, H1, I1, rx, a, kvs, ex, ha, q⟩ => ?_)
  subst ex
  obtain rfl : u = Value.ref a := rx
  obtain ⟨_, hsys, vs, rel, dof⟩ := dk_of I1.hok ha
  refine ⟨dof.typeIs, dof.mapOf.noDict, ?_⟩
  show wpAny _ _ (callWith cpos (.builtin "dict.values") [.ref a] [] []) _ X.xe s1
  exact method_meetsIn PySem.F.slot_dict_values PySem.F.entry_dict_values rfl (PySem.evalArgs_none ⟨rfl, dof.typeIs, PySem.F.args_dict_values_1 _, _, meets_dict_values (mixKind X.prog X.w) a hsys, ⟨vs, dof⟩,
    ⟨.ref s1.heap.objs.size, _, I1.laid (t' := s1.toks) (fun b o q => Heap.get?_push_of_some _ q) (Nat.le_refl _) (viewO_ok (Heap.get?_push_size _ rfl)), rfl, q _ (I1.hok.fresh (Nat.le_refl _))⟩⟩)
def rSV (K : PySem.W.Frag) : List V → List V → Hp → VK → Prop := fun vs zs H Q => ∃ p a xs kvs F, vs = [.ref p] ∧ zs = [.bl true] ∧ Same F H ∧ H p = some (viewO "dict_values" p a) ∧ H a = some (.dK xs) ∧ KEnts K F kvs xs ∧ sortOk (kvs.map (·.2)) = true ∧ ∀ q ys, H q = none → DpAll K F ys (sortDR (kvs.map (·.2))) → Q (.ref q) (upd H q (.lst ys))
theorem cr_sortedV (hc : X.calm = true) (hu : X.A.units + 16 < cLine) : CallRK X (.builtin "sorted") [Str.ofString "reverse"] (rSV X.K) := by
  intro pins s σ H vs zs us ws Q I r rz h
  obtain ⟨p, a, xs, kvs, F, rfl, rfl, fh, hp, ha, en, ok, q⟩ := h
  obtain rfl := Vals.ref1 r
  obtain ⟨w1, rfl, e1⟩ : ∃ w, ws = [w] ∧ RelV (.bl true) w := by
    cases rz with
    | cons h t => cases t; exact ⟨_, rfl, h⟩
  obtain rfl : w1 = Value.bool true := e1
  have hv : s.heap.get? p = some (DSub.viewOb "dict_values" a) := (I.hok p _ hp).1
  obtain ⟨hz, hsys, vs, rel, dof⟩ := dk_of I.hok ha
  obtain ⟨es, ep, raw, hsz, hent⟩ := dof.raw
  have hlx : xs.length = vs.length := Paired.length rel
  have e : es.toList.map (·.val) = vs.map (·.2) := by
    apply List.ext_getElem?
    intro j
    rw [List.getElem?_map, List.getElem?_map, Array.getElem?_toList]
    by_cases hj : j < es.size
    · have hv : vs[j]? = some vs[j] := List.getElem?_eq_getElem (by omega)
      rw [Array.getElem?_eq_getElem hj, hv]
      exact congrArg some (hent j hj _ _ hv).2
    · rw [Array.getElem?_eq_none (by omega), List.getElem?_eq_none (by omega)]
      rfl
  have col : Collects X.prog X.w X.A.in1 s (.ref p) (vs.map (·.2)) := by
    rw [← e]
    exact collects_vals ⟨_, hv, rfl, rfl⟩ raw (I.ok.hd hc) (by omega)
  have ea := kvals_each en rel
  have hsort := sortOk_of ok
  refine sorted_any (kw := [(Str.ofString "reverse", .bool true)]) (rev := true) (.inr rfl) col ea (each_reads I fh ea) ok hu fun h1 h' tk out n k1 k2 hn hl2 he => ?_
  obtain ⟨ys, g1, g2, J⟩ := sorted_laid (tk := tk) I k1 k2 hn (by rw [hl2]; exact hsort.2.2.2) he
  exact ⟨.ref _, _, J, rfl, q _ ys g2 g1⟩
theorem eg_sortedVals [C : Ctx X W] {bk : Nat} (i : Nat) (hρ : ρ[i]? = some (cDk d)) (hm : X.mg "sorted" = none) (hg : Gl X "sorted" := by rfl) (hN : X.N[i]? = some x := by rfl) (hv : Vis X.env.scope x := by first | exact Or.inl rfl | exact Or.inr (Or.inl rfl) | exact Or.inr (Or.inr rfl)) (hd : (x == ("__debug__" : Str)) = false := by decide)
    (hcd : (x == ("__classdict__" : Str)) = false := by decide) (hbase : attributeBase (.Name x p) "values" X.env (eval (.Name x p) X.env) = eval (.Name x p) X.env := by rfl) (hline : (apos.endLine == cpos.line) = true := by rfl)
    (he : starEach [.Call (.Attribute (.Name x p) "values" apos) [] [] cpos] X.env = (false, eval (.Call (.Attribute (.Name x p) "values" apos) [] [] cpos) X.env) :: starEach [] X.env := by rfl)
    (he2 : backTo pos (starEach [.Call (.Attribute (.Name x p) "values" apos) [] [] cpos] X.env) = (false, eval (.Call (.Attribute (.Name x p) "values" apos) [] [] cpos) X.env) :: backTo pos (starEach [] X.env) := by rfl)
    (hpl : (backTo pos (starEach [.Call (.Attribute (.Name x p) "values" apos) [] [] cpos] X.env)).any (·.1) = false := by rfl)
    (hall : (backToKw pos (keywordEach [⟨some "reverse", .Constant (.bool true) bk bpos, kpos⟩] X.env)).all (·.1.isSome) = true := by rfl) (hnone : (backToKw pos (keywordEach [⟨some "reverse", .Constant (.bool true) bk bpos, kpos⟩] X.env)).any (·.1.isNone) = false := by rfl) (hks : (backToKw pos (keywordEach [⟨some "reverse", .Constant (.bool true) bk bpos, kpos⟩] X.env)).filterMap (·.1) = [Str.ofString "reverse"] := by rfl) :
    EG X W ρ .O (.Call (.Name "sorted" p2) [.Call (.Attribute (.Name x p) "values" apos) [] [] cpos] [⟨some "reverse", .Constant (.bool true) bk bpos, kpos⟩] pos) (sortedVR d) := by
  refine ⟨_, pe_callBK (cr_sortedV C.calm (by have := C.hu; omega)) hg hm DL.boot_sorted (pa_cons (pe_kvals (pe_var hN hv hd hcd) hbase hline) pa_nil he) (pk_cons pe_bl pk_nil) (by decide) (by decide) he2 hpl hall hnone hks, fun B H0 F H σ Q gd k => ?_⟩
  obtain ⟨a0, kvs, xs, rfl, h1, h2, h3, _⟩ := gd.dk hρ
  cases ok : sortOk (kvs.map (·.2)) with
  | false => exact absurd (show sortedVR (.dict kvs) = .stuck from by unfold sortedVR sortRR dictVals; rw [bd_ok, ok]; rfl) k.ns
  | true =>
    have e : sortedVR (.dict kvs) = .ok (.list (sortDR (kvs.map (·.2)))) := by unfold sortedVR sortRR dictVals; rw [bd_ok, ok]; rfl
    refine ⟨_, h1, a0, xs, rfl, h2, fun q hq => ?_⟩
    have f1 : Same F (upd H q (viewO "dict_values" q a0)) := Same.updO gd.fh (Same.free gd.fh hq)
    have na : a0 ≠ q := fun z => by rw [z] at h2; rw [h2] at hq; cases hq
    refine ⟨q, a0, xs, kvs, F, rfl, rfl, f1, upd_same, by rw [upd_ne na]; exact h2, h3, ok, fun q2 ys hq2 dd => ?_⟩
    exact (k.of_eq e).ret ((Ex.newO hq).trans (Ex.newO hq2)) (Same.updO f1 (Same.free f1 hq2)) (acc_base _ _ _ _ _ _ (same_upd hq) (acc_newL f1 hq2 dd))
end
end DL
/-! xs.insert(i, y) into a list of one's own -/
namespace DL
open PySem L2 PySem.Spec PyProof.Rows
theorem dp_take {K : PySem.W.Frag} {F : Hp} : ∀ (n : Nat) {xs : List V} {ds : List D}, DpAll K F xs ds → DpAll K F (xs.take n) (ds.take n)
  | 0, _, _, _ => by simpa using DpAll.nil
  | _ + 1, _, _, .nil => by simpa using DpAll.nil
  | n + 1, _, _, .cons a t => by simpa using DpAll.cons a (dp_take n t)
theorem dp_drop {K : PySem.W.Frag} {F : Hp} : ∀ (n : Nat) {xs : List V} {ds : List D}, DpAll K F xs ds → DpAll K F (xs.drop n) (ds.drop n)
  | 0, _, _, h => h
  | _ + 1, _, _, .nil => by simpa using DpAll.nil
  | n + 1, _, _, .cons a t => by simpa using dp_drop n t
def insL (ds : List D) (i d : D) : Res D := match i with
  | .int n => if decide (0 ≤ n ∧ n < 2 ^ 63) && decide (ds.length < 16777216) then .ok (.list (ds.take n.toNat ++ [d] ++ ds.drop n.toNat)) else .stuck
  | _ => .stuck
section
variable {X : Cx} {W : WX} {rk m : Md} {ρ : Env X.K} {e e2 : Expr} {r ri : Res D} {pos : Pos}
theorem s1_insert [C : Ctx X W] {x : Str} {p2 apos cpos : Pos} {d0 : D} (i : Nat) (hρ : ρ[i]? = some (cRes d0)) (hi : EG X W ρ .V e ri) (he : EG X W ρ .V e2 r) (hN : X.N[i]? = some x := by rfl) (hv : Vis X.env.scope x := by first | exact Or.inl rfl | exact Or.inr (Or.inl rfl) | exact Or.inr (Or.inr rfl))
    (hd : (x == ("__debug__" : Str)) = false := by decide) (hcd : (x == ("__classdict__" : Str)) = false := by decide)
    (hbase : attributeBase (.Name x p2) "insert" X.env (eval (.Name x p2) X.env) = eval (.Name x p2) X.env := by rfl)
    (hfew : ((backTo cpos (starEach [e, e2] X.env)).all (fun x => !x.1) && (backToKw cpos (keywordEach [] X.env)).all (fun x => x.1.isSome) && decide (([e, e2] : List Expr).length + ([] : List Keyword).length + (if ([] : List Keyword).isEmpty then 0 else 1) < 30)) = true := by rfl)
    (hline : (apos.endLine == cpos.line) = true := by rfl) (hs : starEach [e, e2] X.env = (false, eval e X.env) :: starEach [e2] X.env := by rfl) (hs2 : starEach [e2] X.env = (false, eval e2 X.env) :: starEach [] X.env := by rfl) (hplain : (backTo cpos (starEach [e2] X.env)).any (·.1) = false := by rfl)
    (hsw : swapsWith (.Call (.Attribute (.Name x p2) "insert" apos) [e, e2] [] cpos) none pos.line X.env = pure false := by rfl) :
    S1 X W rk ρ (.Expr (.Call (.Attribute (.Name x p2) "insert" apos) [e, e2] [] cpos) pos) (onL d0 fun ds => ri.bd fun n => r.bd fun d => insL ds n d) (fun d => .nx (ρ.set i (cRes d))) := by
  obtain ⟨ti, i1, i2⟩ := hi
  obtain ⟨t, h1, h2⟩ := he
  refine ⟨_, ps_expr (pe_bm PySem.F.plainAttrs_list PySem.F.slot_list_insert PySem.F.type_list_insert mt_insert (pe_var hN hv hd hcd) (pa_cons i1 (pa_cons h1 pa_nil hs2) hs) hbase hfew hline hs hplain) hsw, fun B H0 F H σ D g q => ?_⟩
  obtain ⟨ds, rfl⟩ := onL_ns q.ns
  rw [onL_list] at q
  obtain ⟨a, xs, o1, o2, o3, o4, o5⟩ := g.own hρ
  refine ⟨_, o1, .inl ⟨rfl, _, SqL.of o2⟩, i2 B H0 F H σ _ g (KS.kn g q fun n vn F1 H1 _ x s ac g' q' => ?_)⟩
  refine h2 B H0 F1 H1 σ _ g' (KS.kn g' q' fun d v F2 H2 _ x2 s2 ac2 g2 q2 => ?_)
  obtain ⟨a', xs', p1, p2, p3, p4, p5⟩ := g2.own hρ
  rw [o1] at p1
  cases p1
  have l := DpAll.length p4
  have ac : Dp X.K F1 vn n := ac
  obtain ⟨k, rfl⟩ : ∃ k, n = .int k := by
    cases n <;> first | exact ⟨_, rfl⟩ | exact absurd rfl q2.ns
  cases ac
  cases c : (decide (0 ≤ k ∧ k < 2 ^ 63) && decide (ds.length < 16777216)) with
  | false => exact absurd (by simp only [insL, c]; rfl) q2.ns
  | true =>
    have q3 := q2.of_eq (r' := .ok (.list (ds.take k.toNat ++ [d] ++ ds.drop k.toNat))) (by simp only [insL, c]; rfl)
    rw [Bool.and_eq_true, decide_eq_true_eq, decide_eq_true_eq] at c
    refine ⟨a, xs', k, v, rfl, rfl, p2, by rw [l, PySem.sizeLine_eq]; exact c.2, c.1.1, c.1.2, ?_⟩
    exact q3.ok _ rfl F2 _ _ (p5 _ _ (DpAll.append (DpAll.append (dp_take _ p4) (.cons ac2 .nil)) (dp_drop _ p4)))
end
end DL
/-! try: x = e / except TooFew: x = [] -/
namespace DL
open PySem L2 PySem.Spec PyProof.Rows
structure SelfC (K : PySem.W.Frag) (mg : Str → Option Value) : Prop where
  one : ∀ n w, wordOf n = some w → ∃ D, mg n = some (.ref D) ∧ PySem.W.exmOne K (.ref D) (.ref D) = some true
def conT (cn : Str) (r : Res D) (dc : D) : Res D := match r with
  | .ok d => .ok d
  | .exc n => if n = cn then .ok dc else .stuck
  | .stuck => .stuck
theorem conT_exc (cn n : Str) (dc : D) : conT cn (.exc n) dc = if n = cn then .ok dc else .stuck := rfl
@[simp] theorem conT_ok (cn : Str) (d dc : D) : conT cn (.ok d) dc = .ok d := id rfl
section
variable {X : Cx} {W : WX} {rk : Md} {ρ : Env X.K} {r : Res D} {dc : D} {x cn wn : Str} {p4 p5 p6 p7 p8 p8' pos : Pos} {e e2 : Expr}
theorem s1_tryConO [C : Ctx X W] (ix : Nat) (Wc : WordC X.K X.mg) (Sc : SelfC X.K X.mg) (hcn : wordOf cn = some wn)
    (he : ∀ (pn : List (Addr × Obj)) (xe : Value → Shared → Prop) (W' : WX), Ctx (X.tr pn xe) W' → EG (X.tr pn xe) W' ρ .O e r)
    (he2 : ∀ (a : Addr) (pn : List (Addr × Obj)) (W' : WX), EG (X.suite a pn) W' ρ .O e2 (.ok dc))
    (hdb : (cn == ("__debug__" : Str)) = false := by decide) (hstk : X.stack = X.env :: X.outer := by rfl) (hfr : X.env.frame = some X.env.locals := by rfl) (hgS : Gl X cn := by rfl)
    (hix : X.N[ix]? = some x := by rfl) (hx : Loc X.env.scope x := by first | exact Or.inl rfl | exact Or.inr rfl)
    (hs : swapsWith e2 (some (.Name x p4)) p5.line X.env = pure false := by rfl) (hfn : X.fn x = true ∨ X.env.scope.names.lookup x = some .local := by first | exact .inl rfl | exact .inr rfl)
    (hs2 : swapsWith e (some (.Name x p6)) p7.line X.env = pure false := by rfl) :
    S1 X W rk ρ (.Try [.Assign [.Name x p6] e p7] [.ExceptHandler (some (.Name cn p8)) none [.Assign [.Name x p4] e2 p5] p8'] [] [] pos) (conT cn r dc) (fun d => .nx (ρ.set ix (cRes d))) := by
  obtain ⟨S, hS, hself⟩ := Sc.one cn wn hcn
  have run := L2N.ps_try_many (X := X) (pos := pos) (body := [.Assign [.Name x p6] e p7]) (h₀ := .ExceptHandler (some (.Name cn p8)) none [.Assign [.Name x p4] e2 p5] p8') (hds := []) (l := [(.ref S, fun _ _ _ => tAsg (tS X.K X W ρ .O (.ok dc)) (gName ix))]) (Wout := W) hstk hfr C.tk
    (tb := fun W' => tAsg (tS X.K X W' ρ .O r) (gName ix)) (fun W' pn xe tk po => pss_one (ps_set (X := X.tr pn xe) C.nd hix hx ((he pn xe W' (tr_ctx C tk po)).sem (Y := X) rfl) hs2 hfn))
    (.cons ⟨hgS, hdb, .inl hS⟩ (fun a oe cls d pn hz hf => pss_one (ps_set (X := X.suite a ((a, oe) :: pn)) C.nd hix hx ((he2 a ((a, oe) :: pn) W).sem (Y := X) rfl) hs hfn)) .nil)
  refine ⟨_, run, fun B H0 F H σ D g q => ⟨B, H0, F, g, fun z => q.ns (by rw [z]; rfl), fun d ed v F' H' xx s a => ?_, fun n en H' Cv hC ss => ?_⟩⟩
  · exact q.ok d (by rw [ed]; rfl) F' H' _ (g.setO xx s a)
  · subst en
    have hn : n = cn := Classical.byContradiction fun z => q.ns (by rw [conT_exc, if_neg z])
    subst hn
    rw [hS] at hC
    cases hC
    have g1 : Good B H0 F H' ρ σ := g.go ⟨Same.refl _, ss, fun _ _ => rfl⟩ (g.fh.trans ss)
    refine ⟨true, hself, fun _ a ha => ⟨B, H0, F, g1, fun z => (nomatch z), fun d ed v F' H2 xx s av => ?_, fun n en => (nomatch en)⟩, fun z => Bool.noConfusion z⟩
    cases ed
    exact q.ok dc (by rw [conT_exc, if_pos rfl]) F' H2 _ (g1.setO xx s av)
end
end DL
/-! Dicts of one's own from tuples to lists of one's own: x.setdefault(k, []).append(v), len(x[k]), sorted(x[k]), for k in x -/
namespace DL
open PySem L2 PySem.Spec PyProof.Rows
/-- what a slot owns is changed -/
theorem Good.chg {K : PySem.W.Frag} {B H0 F H F1 H1 : Hp} {ρ : Env K} {σ : L2.St} {i : Nat} {c : Cell K} (g : Good B H0 F H ρ σ) (hi : ρ[i]? = some c) (x : Ex F H F1 H1) (s : Same F1 H1) :
    ∃ v as, σ[i]? = some v ∧ c.P F H v as ∧ c.P F1 H1 v as ∧ as.Nodup ∧ (∀ a ∈ as, F1 a = none) ∧ ∀ (H2 : Hp) (c' : Cell K) (as' : List Addr), (∀ b, b ∉ as → (H b ≠ none ∨ F1 b ≠ none) → H2 b = H1 b) → c'.P F1 H2 v as' → as'.Nodup → (∀ b ∈ as', b ∈ as ∨ (H b = none ∧ F1 b = none)) → Good B H0 F1 H2 (ρ.set i c') σ := by
  obtain ⟨e, f, ass, h1, h2, h3⟩ := g
  have th := h1.there
  obtain ⟨v, as, g1, g2, g3⟩ := h1.get hi
  have sub : ∀ a ∈ as, a ∈ ass.flatten := fun a ha => List.mem_flatten.mpr ⟨as, List.mem_of_getElem? g2, ha⟩
  have h1' : Slots F1 H1 ρ σ ass := h1.mono x.ff fun a ha => Same.ne x.hh (th a ha)
  have h3' : ∀ a ∈ ass.flatten, F1 a = none ∧ H0 a = none := fun a ha => ⟨by rw [x.eq a (th a ha)]; exact (h3 a ha).1, (h3 a ha).2⟩
  obtain ⟨v', as2, q1, q2, q3⟩ := h1'.get hi
  rw [g1] at q1
  rw [g2] at q2
  cases q1
  cases q2
  refine ⟨v, as, g1, g3, q3, nodup_of_flatten h2 g2, fun a ha => (h3' a (sub a ha)).1, fun H2 c' as' k1 k2 k3 k4 => ?_⟩
  have s3 := Slots.set (i := i) (c := (cAny : Cell K)) (v := v) (as := []) h1' rfl
  rw [set_self g1] at s3
  have na : ∀ a ∈ (ass.set i []).flatten, a ∉ as := fun a ha z => not_in_set h2 g2 z List.not_mem_nil ha
  have s4 : Slots F1 H2 (ρ.set i cAny) σ (ass.set i []) := s3.mono (Same.refl F1) fun b hb => by
    rcases mem_flatten_set hb with z | z
    · exact k1 b (na b hb) (.inl (th b z))
    · cases z
  have s5 := Slots.set (i := i) (c := c') (v := v) (as := as') s4 k2
  rw [set_self g1, List.set_set, List.set_set] at s5
  have hH0 : ∀ b o, H0 b = some o → b ∉ as := fun b o hb z => by
    have := (h3 b (sub b z)).2
    rw [hb] at this
    cases this
  refine ⟨⟨e.ff.trans x.ff, fun b o hb => ?_, fun b hb => ?_⟩, fun b o hb => ?_, ass.set i as', s5, nodup_flatten_set' h2 g2 k3 fun b hb => ?_, fun b hb => ?_⟩
  · have hb2 := e.hh b o hb
    rw [k1 b (hH0 b o hb) (.inl (by rw [hb2]; exact fun z => nomatch z))]
    exact x.hh b o hb2
  · rw [x.eq b (Same.ne' e.hh hb), e.eq b hb]
  · have hn : b ∉ as := fun z => by
      have := (h3' b (sub b z)).1
      rw [hb] at this
      cases this
    rw [k1 b hn (.inr (by rw [hb]; exact fun z => nomatch z))]
    exact s b o hb
  · rcases k4 b hb with z | z
    · exact .inl z
    · exact .inr fun hm => th b hm z.1
  · rcases mem_flatten_set hb with z | z
    · exact h3' b z
    · rcases k4 b z with z | z
      · exact h3' b (sub b z)
      · exact ⟨z.2, Same.free e.hh z.1⟩
def KeysOk (K : PySem.W.Frag) (F : Hp) : List (D × D) → List Ent → Prop := Paired fun p x => keyT p.1 = some x.1 ∧ Dp K F (.ref x.2.1) p.1
theorem KeysOk.mono {K : PySem.W.Frag} {F F' : Hp} (s : Same F F') {kvs : List (D × D)} {xs : List Ent} (h : KeysOk K F kvs xs) : KeysOk K F' kvs xs := Paired.mapP h fun _ _ z => ⟨z.1, Dp.mono s _ _ z.2⟩
def cGrp {K : PySem.W.Frag} (w : World) (d : D) : Cell K := ⟨fun F H v as => ∃ a kvs xs ep bs, d = .dict kvs ∧ v = some (.ref a) ∧ as = a :: bs ∧ H a = some (HDct w a xs ep) ∧ KeysOk K F kvs xs ∧ RowsOk K F H (xs.map (·.2.2)) bs (kvs.map (·.2)),
  fun s e ⟨a, kvs, xs, ep, bs, h1, h2, h3, h4, h5, h6⟩ => ⟨a, kvs, xs, ep, bs, h1, h2, h3, by rw [e a (by rw [h3]; simp)]; exact h4, h5.mono s, by rw [h3] at e; exact h6.mono s fun b hb => e b (List.mem_cons_of_mem _ hb)⟩,
  fun ⟨a, kvs, xs, ep, bs, _, _, h3, h4, _, h6⟩ b hb => by
    rw [h3] at hb
    rcases List.mem_cons.mp hb with rfl | hb
    · rw [h4]; exact fun z => nomatch z
    · exact h6.there b hb⟩
theorem rows_dp {K : PySem.W.Frag} {F H : Hp} (s : Same F H) : ∀ {kvs : List (D × D)} {xs : List Ent} {bs : List Addr}, KeysOk K F kvs xs → RowsOk K F H (xs.map (·.2.2)) bs (kvs.map (·.2)) → Ents K H kvs xs
  | _, _, _, .nil, _ => .nil
  | p :: kvs, x :: xs, [], .cons _ _, r => by cases r
  | p :: kvs, x :: xs, b :: bs, .cons h t, r => by
    obtain ⟨⟨ys, es, h1, h2, h3, h4⟩, h5⟩ := r
    refine .cons ⟨h.1, Dp.mono s _ _ h.2, ?_⟩ (rows_dp s t h5)
    rw [show x.2.2 = .ref b from h1, show p.2 = .list es from h2]
    exact .lst (SqL.of h3) (DpAll.mono s _ _ h4)
theorem keys_find {K : PySem.W.Frag} {F : Hp} {e : D} {k : NestedKey} (hk : keyT e = some k) : ∀ {kvs : List (D × D)} {xs : List Ent}, KeysOk K F kvs xs → kvs.findIdx? (sameK e) = xs.findIdx? fun x => decide (x.1 = k)
  | _, _, .nil => rfl
  | _, _, .cons (a := p) (b := x) h t => by
    have hp : sameK e p = decide (x.1 = k) := by
      unfold sameK
      rw [h.1, hk]
      simp
    rw [List.findIdx?_cons, List.findIdx?_cons, hp, keys_find hk t]
theorem find_of_idx {α : Type} {p : α → Bool} : ∀ {l : List α} {n : Nat}, l.findIdx? p = some n → ∃ x, l[n]? = some x ∧ l.find? p = some x
  | [], n, h => by simp at h
  | a :: l, n, h => by
    rw [List.findIdx?_cons] at h
    rw [List.find?_cons]
    cases c : p a with
    | true =>
      rw [c] at h
      simp at h
      subst h
      exact ⟨a, rfl, rfl⟩
    | false =>
      rw [c] at h
      simp at h
      obtain ⟨m, h1, rfl⟩ := h
      obtain ⟨x, q1, q2⟩ := find_of_idx h1
      exact ⟨x, by simpa using q1, q2⟩
theorem find_none {α : Type} {p : α → Bool} {l : List α} (h : l.findIdx? p = none) : l.find? p = none := by
  rw [List.findIdx?_eq_none_iff] at h
  rw [List.find?_eq_none]
  intro x hx
  simp [h x hx]
/-- d.setdefault(k, []) -/
def slotG (d e : D) : Res D := match d with
  | .dict kvs => if (keyT e).isSome && decide (kvs.length < 16777216) then (match kvs.findIdx? (sameK e) with
      | some _ => .ok (.dict kvs)
      | none => .ok (.dict (kvs ++ [(e, .list [])]))) else .stuck
  | _ => .stuck
/-- .append(v) behind it -/
def appG (d e v : D) : Res D := match d with
  | .dict kvs => (match kvs.findIdx? (sameK e) with
      | some n => (match kvs[n]? with
        | some (q, .list es) => if decide (es.length < 16777216) then .ok (.dict (kvs.set n (q, .list (es ++ [v])))) else .stuck
        | _ => .stuck)
      | none => .stuck)
  | _ => .stuck
/-- .. with what stands there told -/
def cGrpE {K : PySem.W.Frag} (w : World) (kvs : List (D × D)) (a : Addr) (xs : List Ent) (bs : List Addr) : Cell K := ⟨fun F H v as => ∃ ep, v = some (.ref a) ∧ as = a :: bs ∧ H a = some (HDct w a xs ep) ∧ KeysOk K F kvs xs ∧ RowsOk K F H (xs.map (·.2.2)) bs (kvs.map (·.2)),
  fun s e ⟨ep, h2, h3, h4, h5, h6⟩ => ⟨ep, h2, h3, by rw [e a (by rw [h3]; simp)]; exact h4, h5.mono s, by rw [h3] at e; exact h6.mono s fun b hb => e b (List.mem_cons_of_mem _ hb)⟩,
  fun ⟨ep, _, h3, h4, _, h6⟩ b hb => by
    rw [h3] at hb
    rcases List.mem_cons.mp hb with rfl | hb
    · rw [h4]; exact fun z => nomatch z
    · exact h6.there b hb⟩
theorem rows_set {K : PySem.W.Frag} {F H : Hp} {ys : List V} {es : List D} {q : D} (h2 : DpAll K F ys es) {xs : List V} {bs : List Addr} {kvs : List (D × D)} {n : Nat} {b : Addr} (nd : bs.Nodup) (h : RowsOk K F H xs bs (kvs.map (·.2))) (e : bs[n]? = some b) : RowsOk K F (upd H b (.lst ys)) xs bs ((kvs.set n (q, .list es)).map (·.2)) := by
  rw [List.map_set]
  exact RowsOk.set h2 nd h e
theorem keys_set {K : PySem.W.Frag} {F : Hp} {q v v' : D} : ∀ {kvs : List (D × D)} {xs : List Ent} {n : Nat}, KeysOk K F kvs xs → kvs[n]? = some (q, v) → KeysOk K F (kvs.set n (q, v')) xs
  | _, _, _, .nil, e => by simp at e
  | p :: kvs, x :: xs, 0, .cons h t, e => by
    simp at e
    subst e
    exact .cons h t
  | p :: kvs, x :: xs, n + 1, .cons h t, e => .cons h (keys_set (n := n) t (by simpa using e))
section
variable {X : Cx} {W : WX} {rk m : Md} {ρ : Env X.K} {e a c f o ev : Expr} {r ra rb rf rv : Res D} {pos p p2 p3 apos cpos ap2 cp2 : Pos} {x : Str} {d : D} {td ty tx : TE}
/-- x = {} -/
theorem s1_gnew [C : CtxB X W] {pos' : Pos} (i : Nat) (hi : X.N[i]? = some x := by rfl) (hx : Loc X.env.scope x := by first | exact Or.inl rfl | exact Or.inr rfl) (hs : swapsWith (.Dict [] [] p) (some (.Name x pos')) pos.line X.env = pure false := by rfl) (hf : X.fn x = true ∨ X.env.scope.names.lookup x = some .local := by first | exact .inl rfl | exact .inr rfl) :
    S1 X W rk ρ (.Assign [.Name x pos'] (.Dict [] [] p) pos) (.ok (.dict [])) (fun d => .nx (ρ.set i (cGrp X.w d))) :=
  ⟨_, ps_set C.nd hi hx pe_dnewX hs hf, fun B H0 F H σ D g q p hp => by
    refine q.ok _ rfl F _ _ ?_
    obtain ⟨e, f, ass, h1, h2, h3⟩ := g
    have th := h1.there
    have x : Ex F H F (upd H p (HDct X.w p [] 0)) := Ex.newO hp
    have h1' : Slots F (upd H p (HDct X.w p [] 0)) ρ σ ass := h1.mono x.ff fun a ha => Same.ne x.hh (th a ha)
    refine ⟨e.trans x, Same.updO f (Same.free f hp), ass.set i [p], h1'.set (c := cGrp X.w (.dict [])) ⟨p, [], [], 0, [], rfl, rfl, rfl, upd_same, .nil, trivial⟩, nodup_flatten_set h2 (by simp) fun b hb hm => th b hm (by rw [List.mem_singleton.mp hb]; exact hp), fun b hb => ?_⟩
    rcases mem_flatten_set hb with z | z
    · exact h3 b z
    · rw [List.mem_singleton.mp z]
      exact ⟨Same.free f hp, Same.free e.hh hp⟩⟩
theorem pe_setdef (hu : X.A.units + 20 < cLine) (ho : PE X o td) (he : PE X e ty) (hf : PE X f tx) (m : M2 X o "setdefault" apos e f cpos) : PE X (.Call (.Attribute o "setdefault" apos) [e, f] [] cpos) (fun σ H Q => td σ H fun x H1 => ∃ a xs0 ep0, x = .ref a ∧ H1 a = some (HDct X.w a xs0 ep0) ∧ ty σ H1 fun y H2 => tx σ H2 fun z H3 => ∃ xs ep kvs b ek k, H3 a = some (HDct X.w a xs ep) ∧ Ents X.K H3 kvs xs ∧ y = .ref b ∧ Dp X.K H3 (.ref b) ek ∧ keyT ek = some k ∧ xs.length ≤ sizeLine ∧
      (∀ q, xs.find? (fun x => decide (x.1 = k)) = some q → Q q.2.2 H3) ∧ (xs.find? (fun x => decide (x.1 = k)) = none → ∀ ep2, Q z (upd H3 a (HDct X.w a (xs ++ [(k, b, z)]) ep2)))) := by
  refine ⟨fun pins s σ H Q I h => ?_⟩
  refine wpAny_Call_method m.base m.few m.line PySem.F.plainAttrs_dict PySem.F.slot_dict_setdefault PySem.F.type_dict_setdefault (thn (ho.run pins s σ H _ I h) fun u s1 ⟨x, H1, I1, rx, a, xs0, ep0, ex, hH0, q1⟩ => ?_)
  subst ex
  obtain rfl : u = Value.ref a := rx
  obtain ⟨hs0, es0, raw0, _⟩ := raw_of I1 hH0
  refine ⟨raw0.typeIs, fun b z => ?_, ?_⟩
  · cases z
    obtain ⟨o0, g1, g2, _⟩ := raw0
    exact ⟨o0, g1, g2.2.1⟩
  rw [m.trees]
  refine Calls.callWith_builtin rfl (Calls.evalArgs_plain (Calls.spliced_cons (thn (he.run pins s1 σ H1 _ I1 q1) fun iv s2 ⟨y, H2, I2, ry, q2⟩ =>
    Calls.spliced_cons (thn (hf.run pins s2 σ H2 _ I2 q2) fun fv s3 ⟨z, H3, I3, rz, q3⟩ => Calls.spliced_nil ?_))))
  obtain ⟨xs, ep, kvs, b, ek, k, hH, en, rfl, hd, hk, hl, k1, k2⟩ := q3
  cases ry
  obtain ⟨hs, vs, rr, dd, _⟩ := draw_of I3 hH en
  have fnd := entR_find k rr
  refine call_setdefault_heap (knd := nestedKind X.prog X.w) (by show X.A.units + 1 + 8 < cLine; omega) (key_is I3 hd hk) hs dd (fun pr hp => ?_) (fun hn h' dd' sb => ?_) (by rw [← Paired.length rr]; exact hl)
  · rw [hp] at fnd
    cases c : xs.find? (fun x => decide (x.1 = k)) with
    | none => rw [c] at fnd; exact fnd.elim
    | some q =>
      rw [c] at fnd
      exact ⟨q.2.2, H3, I3.tok _, fnd, k1 q c⟩
  · rw [hn] at fnd
    cases c : xs.find? (fun x => decide (x.1 = k)) with
    | some q => rw [c] at fnd; exact fnd.elim
    | none =>
      have e1 : putX xs k b z = xs ++ [(k, b, z)] := by unfold putX; rw [c]; rfl
      obtain ⟨ep', ok⟩ := draw_new (P := X.prog) (H' := upd H3 a (HDct X.w a (putX xs k b z) 0)) hs (entR_put rr rz) dd'
      rw [e1] at ok
      have mu : Mut (H3 a) := by rw [hH]; trivial
      have J : Inv X pins σ (upd H3 a (HDct X.w a (xs ++ [(k, b, z)]) ep')) { s3 with heap := h', toks := s3.toks + k.draws } := d_write I3 mu sb ok.2.1 (draw_ok ok.1)
      exact ⟨z, _, J, rz, k2 c ep'⟩
/-- x.setdefault(k, []).append(v) -/
theorem s1_groupPut [C : Ctx X W] (i : Nat) (hρ : ρ[i]? = some (cGrp X.w d)) (ha : EG X W ρ .V a ra) (hf : EG X W ρ .O f (.ok (.list []))) (hv' : EG X W (ρ.set i cAny) .V ev rv) (mm : M2 X (.Name x p) "setdefault" apos a f cpos)
    (hN : X.N[i]? = some x := by rfl) (hv : Vis X.env.scope x := by first | exact Or.inl rfl | exact Or.inr (Or.inl rfl) | exact Or.inr (Or.inr rfl)) (hd : (x == ("__debug__" : Str)) = false := by decide) (hcd : (x == ("__classdict__" : Str)) = false := by decide)
    (hbase : attributeBase (.Call (.Attribute (.Name x p) "setdefault" apos) [a, f] [] cpos) "append" X.env (eval (.Call (.Attribute (.Name x p) "setdefault" apos) [a, f] [] cpos) X.env) = eval (.Call (.Attribute (.Name x p) "setdefault" apos) [a, f] [] cpos) X.env := by rfl)
    (hfew : ((backTo cp2 (starEach [ev] X.env)).all (fun x => !x.1) && (backToKw cp2 (keywordEach [] X.env)).all (fun x => x.1.isSome) && decide (([ev] : List Expr).length + ([] : List Keyword).length + (if ([] : List Keyword).isEmpty then 0 else 1) < 30)) = true := by rfl)
    (hline : (ap2.endLine == cp2.line) = true := by rfl) (hs : starEach [ev] X.env = (false, eval ev X.env) :: starEach [] X.env := by rfl) (hplain : (backTo cp2 (starEach [] X.env)).any (·.1) = false := by rfl)
    (hsw : swapsWith (.Call (.Attribute (.Call (.Attribute (.Name x p) "setdefault" apos) [a, f] [] cpos) "append" ap2) [ev] [] cp2) none pos.line X.env = pure false := by rfl) :
    S1 X W rk ρ (.Expr (.Call (.Attribute (.Call (.Attribute (.Name x p) "setdefault" apos) [a, f] [] cpos) "append" ap2) [ev] [] cp2) pos) (ra.bd fun e => (slotG d e).bd fun d1 => rv.bd fun v => appG d1 e v) (fun d => .nx (ρ.set i (cGrp X.w d))) := by
  obtain ⟨ta, a1, a2⟩ := ha
  obtain ⟨tf, f1, f2⟩ := hf
  obtain ⟨tv, v1, v2⟩ := hv'
  refine ⟨_, ps_expr (pe_bm PySem.F.plainAttrs_list PySem.F.slot_list_append PySem.F.type_list_append mt_append (pe_setdef (by have := C.hu; omega) (pe_var hN hv hd hcd) a1 f1 mm) (pa_cons v1 pa_nil hs) hbase hfew hline hs hplain) hsw, fun B H0 F H σ Ed g q => ?_⟩
  obtain ⟨v0, as0, o1, ⟨a0, kvs, xs, ep, bs, rfl, rfl, _, o2, _, _⟩, _⟩ := g.chg hρ (Ex.refl _ _) g.fh
  refine ⟨_, o1, a0, xs, ep, rfl, o2, a2 B H0 F H σ _ g (KS.kn g q fun ek y F1 H1 _ x1 s1 ac1 g1 q1 => ?_)⟩
  refine f2 B H0 F1 H1 σ _ g1 ⟨(fun z => nomatch z), fun dl ed zl F2 H2 x2 s2 ac2 => ?_, (fun n z => nomatch z)⟩
  cases ed
  obtain ⟨asl, r2, hn2⟩ := ac2
  rcases r2 with ⟨_, z, pl, ys, rfl, rfl, r3, r4⟩ | ⟨z, _⟩
  case inr => cases z
  cases z
  cases r4
  have hp := hn2 pl (by simp)
  obtain ⟨v1', as1, p1, P1, P2, nd, hF, chg⟩ := g1.chg hρ x2 s2
  have th1 := (cGrp X.w (.dict kvs)).there P1
  clear P1
  obtain ⟨a0', kvs', xs', ep', bs', z, rfl, rfl, w1, w2, w3⟩ := P2
  cases z
  rw [o1] at p1
  cases p1
  have ac1 : Dp X.K F1 y ek := ac1
  cases hk : keyT ek with
  | none => exact absurd (by simp only [slotG, hk]; rfl) q1.ns
  | some key =>
    cases hl : decide (kvs.length < 16777216) with
    | false => exact absurd (by simp only [slotG, hk, hl]; rfl) q1.ns
    | true =>
      obtain ⟨kb, rfl⟩ := dp_key ac1 hk
      have hl' := of_decide_eq_true hl
      have kf := keys_find hk w2
      have fin : ∀ (kvs2 : List (D × D)) (xs2 : List Ent) (bs2 : List Addr) (n : Nat) (b2 : Addr) (H3 : Hp), Good B H0 F2 H3 (ρ.set i (cGrpE X.w kvs2 a0 xs2 bs2)) σ → slotG (.dict kvs) ek = .ok (.dict kvs2) → kvs2.findIdx? (sameK ek) = some n → bs2[n]? = some b2 → tyV X.K "list" (.ref b2) H3 ∧ tv σ H3 fun y H4 => rAppend (.ref b2) [y] H4 (fun _ H' => Ed.nx σ H') := fun kvs2 xs2 bs2 n b2 H3 gd hsl hfi hb => by
        have q2 := q1.of_eq (r' := rv.bd fun v => appG (.dict kvs2) ek v) (by rw [hsl]; rfl)
        have fh3 := gd.fh
        have hi2 : (ρ.set i (cGrpE X.w kvs2 a0 xs2 bs2))[i]? = some (cGrpE X.w kvs2 a0 xs2 bs2) := by
          rw [List.getElem?_set_self (List.getElem?_eq_some_iff.mp hρ).1]
        obtain ⟨v3, as3, p3, P3, _, nd3, hF3, chg3⟩ := gd.chg hi2 (Ex.refl _ _) fh3
        have gA : Good B H0 F2 H3 (ρ.set i cAny) σ := by
          have := chg3 H3 cAny [] (fun _ _ _ => rfl) rfl List.nodup_nil (fun b z => nomatch z)
          rwa [List.set_set] at this
        obtain ⟨ep3, rfl, rfl, u1, u2, u3⟩ := P3
        have hnl : n < kvs2.length := by
          have := (List.getElem?_eq_some_iff.mp hb).1
          have := u3.len.2
          rw [List.length_map] at this
          omega
        obtain ⟨⟨qk, dv0⟩, hq⟩ : ∃ p, kvs2[n]? = some p := ⟨_, List.getElem?_eq_getElem hnl⟩
        obtain ⟨b', ys', es', e1, e2, rfl, e4, e5⟩ := u3.get (n := n) (d := dv0) (by rw [List.getElem?_map, hq]; rfl)
        rw [hb] at e2
        cases e2
        refine ⟨.inl ⟨rfl, ys', SqL.of e4⟩, v2 B H0 F2 H3 σ _ gA (KS.kn gd q2 fun dv v F4 H4 _ x4 s4 ac4 g4 q4 => ?_)⟩
        obtain ⟨v5, as5, p5, _, P5, nd5, hF5, chg5⟩ := gd.chg hi2 x4 s4
        obtain ⟨ep5, rfl, rfl, y1, y2, y3⟩ := P5
        obtain ⟨b'', ys, es, e1', e2', ees, e4', e5'⟩ := y3.get (n := n) (d := .list es') (by rw [List.getElem?_map, hq]; rfl)
        cases ees
        rw [hb] at e2'
        cases e2'
        cases hel : decide (es'.length < 16777216) with
        | false => exact absurd (by simp only [appG, hfi, hq, hel]; rfl) q4.ns
        | true =>
          have q5 := q4.of_eq (r' := .ok (.dict (kvs2.set n (qk, .list (es' ++ [dv]))))) (by simp only [appG, hfi, hq, hel]; rfl)
          have hel' := of_decide_eq_true hel
          refine ⟨b2, ys, v, rfl, rfl, e4', by rw [DpAll.length e5', PySem.sizeLine_eq]; exact hel', ?_⟩
          have ac4 : Dp X.K F4 v dv := ac4
          have ab : a0 ≠ b2 := fun z => (List.nodup_cons.mp nd5).1 (z ▸ List.mem_of_getElem? hb)
          have hbm : b2 ∈ a0 :: bs2 := List.mem_cons_of_mem _ (List.mem_of_getElem? hb)
          have gz := chg5 (upd H4 b2 (.lst (ys ++ [v]))) (cGrp X.w (.dict (kvs2.set n (qk, .list (es' ++ [dv]))))) (a0 :: bs2) (fun b hb' _ => upd_ne fun z => hb' (z ▸ hbm)) ⟨a0, _, xs2, ep5, bs2, rfl, rfl, rfl, by rw [upd_ne ab]; exact y1, keys_set y2 hq, rows_set (DpAll.append e5' (.cons ac4 .nil)) (List.nodup_cons.mp nd5).2 y3 hb⟩ nd5 (fun b z => .inl z)
          rw [List.set_set] at gz
          exact q5.ok _ rfl F4 _ _ gz
      have hxl : xs'.length ≤ sizeLine := by rw [← Paired.length w2, PySem.sizeLine_eq]; omega
      refine ⟨xs', ep', kvs, kb, ek, key, w1, rows_dp s2 w2 w3, rfl, Dp.mono (x2.ff.trans s2) _ _ ac1, hk, hxl, fun q hq => ?_, fun hn ep2 => ?_⟩
      · cases hfi : xs'.findIdx? (fun x => decide (x.1 = key)) with
        | none => rw [find_none hfi] at hq; cases hq
        | some n =>
          obtain ⟨q', h1, h2⟩ := find_of_idx hfi
          rw [hq] at h2
          cases h2
          have hnl : n < kvs.length := by
            have := (List.getElem?_eq_some_iff.mp h1).1
            have := Paired.length w2
            omega
          obtain ⟨⟨qk, dv0⟩, hq2⟩ : ∃ p, kvs[n]? = some p := ⟨_, List.getElem?_eq_getElem hnl⟩
          obtain ⟨b', ys', es', e1, e2, rfl, e4, e5⟩ := w3.get (n := n) (d := dv0) (by rw [List.getElem?_map, hq2]; rfl)
          rw [List.getElem?_map, h1] at e1
          have e1' : q.2.2 = .ref b' := Option.some.inj e1
          rw [e1']
          have gd := chg H2 (cGrpE X.w kvs a0 xs' bs') (a0 :: bs') (fun _ _ _ => rfl) ⟨ep', rfl, rfl, w1, w2, w3⟩ nd (fun b z => .inl z)
          exact fin kvs xs' bs' n b' H2 gd (by simp only [slotG, hk, hl, kf, hfi]; rfl) (by rw [kf, hfi]) e2
      · have hfi : xs'.findIdx? (fun x => decide (x.1 = key)) = none := by
          cases c : xs'.findIdx? (fun x => decide (x.1 = key)) with
          | none => rfl
          | some n =>
            obtain ⟨q', h1, h2⟩ := find_of_idx c
            rw [hn] at h2
            cases h2
        have pna : pl ∉ a0 :: bs' := fun z => th1 pl z hp.1
        have gd := chg (upd H2 a0 (HDct X.w a0 (xs' ++ [(key, kb, .ref pl)]) ep2)) (cGrpE X.w (kvs ++ [(ek, .list [])]) a0 (xs' ++ [(key, kb, .ref pl)]) (bs' ++ [pl])) (a0 :: (bs' ++ [pl])) (fun b hb' _ => upd_ne fun z => hb' (by rw [z]; simp)) ⟨ep2, rfl, rfl, upd_same, ?_, ?_⟩ ?_ (fun b z => ?_)
        · refine fin _ _ _ kvs.length pl _ gd (by simp only [slotG, hk, hl, kf, hfi]; rfl) ?_ ?_
          · rw [List.findIdx?_append, kf, hfi]
            simp [sameK]
          · have := w3.len.2
            rw [List.length_map] at this
            rw [← this]
            simp
        · exact Paired.snoc w2 ⟨hk, Dp.mono x2.ff _ _ ac1⟩
        · rw [List.map_append, List.map_append]
          have na0 : pl ≠ a0 := fun z => pna (by rw [z]; simp)
          exact RowsOk.append (v := .ref pl) (es := []) rfl (by rw [upd_ne na0]; exact r3) .nil (w3.mono (Same.refl F2) fun b hb' => upd_ne fun z => (List.nodup_cons.mp nd).1 (z ▸ hb'))
        · refine List.nodup_cons.mpr ⟨fun hm => ?_, List.nodup_append.mpr ⟨(List.nodup_cons.mp nd).2, by simp, fun c hc c' hc' z => ?_⟩⟩
          · rcases List.mem_append.mp hm with hm | hm
            · exact (List.nodup_cons.mp nd).1 hm
            · exact pna (by rw [← List.mem_singleton.mp hm]; simp)
          · rw [List.mem_singleton.mp hc'] at z
            exact pna (by rw [← z]; exact List.mem_cons_of_mem _ hc)
        · rcases List.mem_cons.mp z with rfl | z
          · exact .inl (by simp)
          · rcases List.mem_append.mp z with z | z
            · exact .inl (List.mem_cons_of_mem _ z)
            · rw [List.mem_singleton.mp z]
              exact .inr hp
end
end DL
/-! x[k] of a dict of lists, looked at; a walk over its keys; max of tuples -/
namespace DL
open PySem L2 PySem.Spec PyProof.Rows PySem.W
section
variable {X : Cx} {W : WX} {rk m : Md} {ρ : Env X.K} {e a c : Expr} {r ra rb : Res D} {pos p p2 p3 : Pos} {x : Str} {d : D}
theorem eg_getG [C : CtxB X W] (i : Nat) (hρ : ρ[i]? = some (cGrp X.w d)) (ha : EG X W ρ .V a ra) (hs : NoSl a := by intro _ _; rfl) (hN : X.N[i]? = some x := by rfl) (hv : Vis X.env.scope x := by first | exact Or.inl rfl | exact Or.inr (Or.inl rfl) | exact Or.inr (Or.inr rfl)) (hd : (x == ("__debug__" : Str)) = false := by decide)
    (hcd : (x == ("__classdict__" : Str)) = false := by decide) : EG X W ρ .T (.Subscript (.Name x p) a pos) (ra.bd fun e => getD d e) := by
  obtain ⟨ta, a1, a2⟩ := ha
  refine ⟨_, pe_dgetX (by have := C.hu; omega) (pe_var hN hv hd hcd) a1 hs, fun B H0 F H σ Q gd k => ?_⟩
  obtain ⟨v0, as0, o1, ⟨a0, kvs, xs, ep, bs, rfl, rfl, _, o2, _, _⟩, _⟩ := gd.chg hρ (Ex.refl _ _) gd.fh
  refine ⟨_, o1, a2 B H0 F H σ _ gd (Kn.bd k acc_base fun e y F1 H1 _ e1 s1 q1 k1 => ?_)⟩
  have gd1 := gd.go e1 s1
  obtain ⟨v1, as1, p1, ⟨a1', kvs1, xs1, ep1, bs1, z, z2, _, w1, w2, w3⟩, _⟩ := gd1.chg hρ (Ex.refl _ _) gd1.fh
  cases z
  subst z2
  rw [o1] at p1
  cases p1
  have q1 : Dp X.K F1 y e := q1
  cases hk : keyT e with
  | none => exact absurd (by simp only [getD, hk]; rfl) k1.ns
  | some key =>
    obtain ⟨kb, rfl⟩ := dp_key q1 hk
    cases hfi : kvs.findIdx? (sameK e) with
    | none => exact absurd (by simp only [getD, hk, valD, find_none hfi]; rfl) k1.ns
    | some n =>
      obtain ⟨pp, h1, h2⟩ := find_of_idx hfi
      have hfx := keys_find hk w2
      rw [hfi] at hfx
      obtain ⟨q', g1, g2⟩ := find_of_idx hfx.symm
      obtain ⟨b', ys, es, e1', e2', ed, e4, e5⟩ := w3.get (n := n) (d := pp.2) (by rw [List.getElem?_map, h1]; rfl)
      rw [List.getElem?_map, g1] at e1'
      have e1'' : q'.2.2 = .ref b' := Option.some.inj e1'
      have k2 := k1.of_eq (r' := .ok (.list es)) (by simp only [getD, hk, valD, h2, Option.map_some, ed]; rfl)
      exact ⟨a0, xs1, ep1, kvs, kb, e, key, .ref b', rfl, w1, rows_dp s1 w2 w3, rfl, Dp.mono s1 _ _ q1, hk, by rw [g2]; exact congrArg some e1'', k2.ret (Ex.refl _ _) s1 (.inl ⟨es, b', ys, rfl, rfl, SqL.of e4, e5⟩)⟩
theorem keys_get {K : PySem.W.Frag} {F : Hp} : ∀ {kvs : List (D × D)} {xs : List Ent} {i : Nat} {q : Ent}, KeysOk K F kvs xs → xs[i]? = some q → ∃ p, kvs[i]? = some p ∧ Dp K F (.ref q.2.1) p.1
  | _, _, _, _, .nil, e => by simp at e
  | _, _, 0, _, .cons h _, e => by simp at e; subst e; exact ⟨_, by simp, h.2⟩
  | _, _, i + 1, q, .cons _ t, e => by
    obtain ⟨p, h1, h2⟩ := keys_get (i := i) (q := q) t (by simpa using e)
    exact ⟨p, by simpa using h1, h2⟩
/-- for k in d -/
theorem ig_grp {tg : Expr} (i : Nat) (hρ : ρ[i]? = some (cGrp X.w d)) (hN : X.N[i]? = some x := by rfl) (hv : Vis X.env.scope x := by first | exact Or.inl rfl | exact Or.inr (Or.inl rfl) | exact Or.inr (Or.inr rfl)) (hd : (x == ("__debug__" : Str)) = false := by decide)
    (hcd : (x == ("__classdict__" : Str)) = false := by decide) : IG X W ρ tg (.Name x p) (dictKeys d) := by
  refine ⟨_, pi_dct (pe_var hN hv hd hcd), fun B H0 F H σ Q gd k => ?_⟩
  obtain ⟨v0, as0, h1, ⟨a0, kvs, xs, ep, bs, rfl, rfl, _, h2, h3, _⟩, _⟩ := gd.chg hρ (Ex.refl _ _) gd.fh
  refine ⟨_, h1, a0, xs, ep, rfl, h2, k.ret (Ex.refl _ _) gd.fh fun F2 H2 e s => ?_⟩
  have hl : kvs.length = xs.length := Paired.length h3
  refine ⟨⟨e.hh _ _ h2, by rw [List.length_map]; omega⟩, fun j dk hj => ?_⟩
  have hjl : j < xs.length := by
    have := (List.getElem?_eq_some_iff.mp hj).1
    rw [List.length_map] at this
    omega
  refine ⟨⟨e.hh _ _ h2, hjl⟩, fun y H3 ⟨y1, q, y2, y3⟩ => ?_⟩
  subst y1 y3
  obtain ⟨pr, g1, g2⟩ := keys_get h3 y2
  rw [List.getElem?_map, g1] at hj
  cases hj
  exact ⟨F2, Ex.refl _ _, s, Dp.mono e.ff _ _ g2⟩
end
/-! ### max of tuples -/
section
variable {prog : Program} {w : World} {A : Around} {E : Value → Shared → Prop} {s : Shared}
theorem max_list_at {l : Addr} {vs : Array Value} {x : PyData} {xs : List PyData} {as : List Addr} {Q : Value → Shared → Prop} (hh : A.handled = none) (hl : s.heap.IsList l vs) (hr : ReadsAll s.heap vs.toList (x :: xs) as) (ha : AlikeAll (x :: xs)) (hu : A.units + 1 + PyData.depthAll (x :: xs) < cLine)
    (h : ∀ (i : Nat) v h' tk, vs[i]? = some v → (x :: xs)[i]? = some (maxD x xs) → (∀ b o, s.heap.get? b = some o → h'.get? b = some o) → Q v { s with heap := h', toks := tk }) :
    wpAny (model prog w) A (call (.builtin "max") [.ref l]) Q E s := by
  have hn : vs.size = xs.length + 1 := readsAll_len hr
  refine call_max_walkH (iter_listW (A := A.in1) hh hl fun s₂ e W st hfp hw hk => ?_)
  refine ⟨_, _, _, _, _, _, _, s.heap, _, rfl, W, st, hfp, by omega, hw, hk, cmpIn_gt (A := A.in1) hr ha (by show A.units + 1 + _ < _; exact hu), fun v s' hP m => ?_⟩
  obtain ⟨h', tk, rfl, hk'⟩ := moved_old e rfl m
  have e1 : vs.size - 1 = xs.length := by omega
  have e2 := argBest_fold (fun a b => dataLt b a) PyData.none x xs xs.length (Nat.le_refl _)
  rw [List.take_length] at e2
  rw [e1] at hP
  refine h _ v h' tk hP ?_ hk'
  have e3 := e2.2
  rw [List.getD_eq_getElem?_getD] at e3
  have hlt : argBest (fun i j => dataLt ((x :: xs).getD j PyData.none) ((x :: xs).getD i PyData.none)) xs.length < (x :: xs).length := by
    have := e2.1
    simp only [List.length_cons]
    omega
  rw [List.getElem?_eq_getElem hlt] at e3 ⊢
  exact congrArg some e3
end
theorem readsAll_of {h : Heap} : ∀ {us : List Value} {ds : List D}, EachIs (fun v d => ∃ as, Reads h v d as) us ds → ∃ as, ReadsAll h us ds as
  | _, _, .nil => ⟨_, .nil⟩
  | _, _, .cons ⟨as, r⟩ t => by
    obtain ⟨bs, r2⟩ := readsAll_of t
    exact ⟨_, .cons r r2⟩
theorem depthAll_le {n : Nat} : ∀ {ds : List D}, (∀ d ∈ ds, d.depth ≤ n) → PyData.depthAll ds ≤ n
  | [], _ => by simp [PyData.depthAll]
  | d :: ds, h => by
    have h1 := h d (by simp)
    have h2 := depthAll_le (n := n) (ds := ds) fun e he => h e (by simp [he])
    simp only [PyData.depthAll]
    omega
theorem each_at {α β : Type} {R : α → β → Prop} {us : List α} {ds : List β} (h : EachIs R us ds) : ∀ {i : Nat} {u : α} {d : β}, us[i]? = some u → ds[i]? = some d → R u d := by
  induction h with
  | nil => intro i u d e; simp at e
  | cons h t ih =>
    intro i u d e1 e2
    cases i with
    | zero => simp at e1 e2; subst e1 e2; exact h
    | succ i => exact ih (i := i) (by simpa using e1) (by simpa using e2)
/-- the greatest of a list of data that are alike -/
def maxTV : D → Res D
  | .list (d :: ds) => if sortOk (d :: ds) then .ok (maxD d ds) else .stuck
  | _ => .stuck
def rMaxD (K : PySem.W.Frag) : List V → Hp → VK → Prop := fun vs H Q => ∃ a F d ds xs, vs = [.ref a] ∧ Same F H ∧ SqL K H a xs ∧ DpAll K F xs (d :: ds) ∧ sortOk (d :: ds) = true ∧ ∀ v, Dp K F v (maxD d ds) → Q v H
theorem cr_maxD {X : Cx} (hc : X.calm = true) (hu : X.A.units + 16 < cLine) : CallR X (.builtin "max") (rMaxD X.K) := by
  intro pins s σ H vs us Q I r h
  obtain ⟨a, F, d, ds, xs, rfl, fh, hx, dp, ok, q⟩ := h
  rw [Vals.ref1 r]
  obtain ⟨its, rv, pl, hz⟩ := I.list hx
  have e := each_of rv dp
  obtain ⟨as, ra⟩ := readsAll_of (each_reads I fh e)
  obtain ⟨h1, h2, h3, h4⟩ := sortOk_of ok
  rw [List.map_id] at h1 h2
  have hal : AlikeAll (d :: ds) := by
    refine ⟨fun x hx y hy => h1 x hx y hy, fun x hx z => ?_⟩
    rcases h2 with h2 | h2
    · obtain ⟨_, _, h⟩ := h2 x hx
      rw [z] at h
      cases h
    · exact (h2 x hx).1 z
  have hda : PyData.depthAll (d :: ds) ≤ 8 := depthAll_le h3
  refine max_list_at (I.ok.hd hc) pl.isList (by simpa using ra) hal (by omega) fun i v h' tk hv hd hk => ?_
  obtain ⟨y, r1, r2⟩ := each_at e (i := i) (by simpa using hv) hd
  exact ⟨y, H, I.kept hk, r1, q y r2⟩
theorem b_maxTV {X : Cx} {W : WX} [C : Ctx X W] : C1D X W (.builtin "max") .V maxTV := by
  refine ⟨_, cr_maxD C.calm (by have := C.hu; omega), fun F H σ x d Q s h k => ?_⟩
  cases d <;> first | exact absurd rfl k.ns | skip
  obtain ⟨a, xs, rfl, q1, q2⟩ := tp_list h
  rename_i ds
  cases ds with
  | nil => exact absurd rfl k.ns
  | cons d ds =>
    cases ok : sortOk (d :: ds) with
    | false => exact absurd (by simp only [maxTV, ok]; rfl) k.ns
    | true => exact ⟨a, F, d, ds, xs, rfl, s, q1, q2, ok, fun v hv => (k.of_eq (r' := .ok (maxD d ds)) (by simp only [maxTV, ok]; rfl)).ret (Ex.refl _ _) s hv⟩
end DL
/-! a // b, b up to 2 ^ 200 -/
namespace DL
open PySem L2
def fdivW : D → D → Res D
  | .int i, .int j => if decide (0 < j ∧ j.natAbs < 2 ^ 200) then .ok (.int (i / j)) else .stuck
  | _, _ => .stuck
section
variable {X : Cx} {W : WX} {ρ : Env X.K} {a b : Expr} {ra rb : Res D} {pos : Pos}
theorem od_fdivW : OpD X W .V (rI CDivW fun i j => .int (i / j)) fdivW := opIC (c := fun _ j => decide (0 < j ∧ j.natAbs < 2 ^ 200)) (fun i j h => by
    have h := of_decide_eq_true h
    exact wide_div (b := 200) h.1 h.2 (by decide) (by decide)) (fun _ _ => rfl) (fun d e h => by cases d <;> first | rfl | (cases e <;> first | rfl | exact absurd ⟨rfl, rfl⟩ (h _ _))) fun _ _ _ => .int _
theorem eg_fdivW (ha : EG X W ρ .T a ra) (hb : EG X W ρ .T b rb) : EG X W ρ .V (.BinOp a .FloorDiv b pos) (bd2 ra rb fdivW) := eg_op op_fdivW od_fdivW ha hb
end
theorem fdivW_ok {i j : Int} (h : 0 < j) (h2 : j.natAbs < 2 ^ 200) : fdivW (.int i) (.int j) = .ok (.int (i / j)) := by
  show (if decide (0 < j ∧ j.natAbs < 2 ^ 200) then _ else _) = _
  exact if_pos (decide_eq_true ⟨h, h2⟩)
end DL
/-! Texts: str(i), int(text), sep.join(texts), text.split(sep), x in text, slices, walks -/
namespace DL
open PySem L2
def strV : D → Res D
  | .int i => if decide (i.natAbs.log2 < 1920) then .ok (.str (toString i)) else .stuck
  | _ => .stuck
def intSV : D → Res D
  | .str a => match PySem.intText? a with
    | some n => if decide (a.length ≤ 640) then .ok (.int n) else .stuck
    | none => .stuck
  | _ => .stuck
def strsOf : List D → Option (List Str)
  | [] => some []
  | .str x :: r => (strsOf r).map (x :: ·)
  | _ => none
def joinS (a : Str) (ds : List D) : Res D := match strsOf ds with
  | some ys => if decide ((ys.map (·.length)).sum + ys.length * a.length ≤ 16777216) then .ok (.str (Txt.join a ys)) else .stuck
  | none => .stuck
def onS {α : Type} (d : D) (f : Str → Res α) : Res α := match d with
  | .str z => f z
  | _ => .stuck
@[simp] theorem onS_str {α : Type} (z : Str) (f : Str → Res α) : onS (.str z) f = f z := id rfl
def joinV (a : Str) : D → Res D
  | .list ds => joinS a ds
  | .tuple ds => joinS a ds
  | _ => .stuck
def splitV (a : Str) : D → Res D
  | .str b => if (!(b.length == 0)) && decide (a.length + 2 ≤ 16777216) then .ok (.list ((Txt.split a b).map .str)) else .stuck
  | _ => .stuck
def inS : D → D → Res D
  | .str i, .str j => .ok (.bool (!(Builtin.Str.occurrences j i 0 j.length 1).isEmpty))
  | _, _ => .stuck
def notInS : D → D → Res D
  | .str i, .str j => .ok (.bool (!(!(Builtin.Str.occurrences j i 0 j.length 1).isEmpty)))
  | _, _ => .stuck
def slV' (d : D) (lo hi : Option Int) : Res D := match d with
  | .str z => if decide (z.length ≤ 16777216) then .ok (.str (cutS z lo hi)) else .stuck
  | _ => .stuck
def slS (a : Res D) (l u : Res (Option Int)) : Res D := a.bd fun d => l.bd fun x => u.bd fun y => slV' d x y
def strItems : D → Res (List D)
  | .str z => .ok (z.cps.toList.map fun c => .str ⟨#[c]⟩)
  | _ => .stuck
section
variable {X : Cx} {W : WX} {ρ : Env X.K} {a b c e : Expr} {r ra rb rc : Res D} {pos p p2 p3 : Pos} {d : D} {F H : Hp} {σ : L2.St} {Q : VK} {v : V}
theorem b_strI : C1D X W (.type "str") .V strV := by
  refine ⟨_, call_str_int, fun F H σ x d Q s h k => ?_⟩
  cases d <;> first | exact absurd rfl k.ns | skip
  rename_i i
  cases tp_int h
  cases hl : decide (i.natAbs.log2 < 1920) with
  | false => exact absurd (by simp only [strV, hl]; rfl) k.ns
  | true => exact ⟨i, rfl, of_decide_eq_true hl, kn_flat (k.of_eq (r' := .ok (.str (toString i))) (by simp only [strV, hl]; rfl)) s rfl (.str _)⟩
theorem b_intS : C1D X W (.type "int") .V intSV := by
  refine ⟨_, call_int_str, fun F H σ x d Q s h k => ?_⟩
  cases d <;> first | exact absurd rfl k.ns | skip
  rename_i z
  cases tp_str h
  cases hn : PySem.intText? z with
  | none => exact absurd (by simp only [intSV, hn]) k.ns
  | some n =>
    cases hl : decide (z.length ≤ 640) with
    | false => exact absurd (by simp only [intSV, hn, hl]; rfl) k.ns
    | true => exact ⟨z, n, rfl, hn, of_decide_eq_true hl, kn_flat (k.of_eq (r' := .ok (.int n)) (by simp only [intSV, hn, hl]; rfl)) s rfl (.int _)⟩
theorem strsOf_dp {K : PySem.W.Frag} {F : Hp} : ∀ {ds : List D} {ys : List Str} {vs : List V}, strsOf ds = some ys → DpAll K F vs ds → vs = ys.map V.str
  | [], _, _, e, .nil => by cases e; rfl
  | d :: r, ys, _, e, .cons h t => by
    cases d <;> first | (cases e; done) | skip
    rename_i z
    unfold strsOf at e
    obtain ⟨zs, e1, rfl⟩ := Option.map_eq_some_iff.mp e
    cases h
    rw [strsOf_dp e1 t]
    rfl
theorem strs_dp {K : PySem.W.Frag} {F : Hp} : ∀ ys : List Str, DpAll K F (ys.map V.str) (ys.map .str)
  | [] => .nil
  | y :: ys => .cons (.str y) (strs_dp ys)
/-- sep.join(texts) -/
theorem eg_join [C : CtxB X W] {apos : Pos} (ha : EG X W ρ .T a ra) (hb : EG X W ρ .T c rb)
    (hbase : attributeBase a "join" X.env (eval a X.env) = eval a X.env := by rfl)
    (hfew : ((backTo p (starEach [c] X.env)).all (fun x => !x.1) && (backToKw p (keywordEach [] X.env)).all (fun x => x.1.isSome) && decide (([c] : List Expr).length + ([] : List Keyword).length + (if ([] : List Keyword).isEmpty then 0 else 1) < 30)) = true := by rfl)
    (hline : (apos.endLine == p.line) = true := by rfl) (hs : starEach [c] X.env = (false, eval c X.env) :: starEach [] X.env := by rfl) (hplain : (backTo p (starEach [] X.env)).any (·.1) = false := by rfl) :
    EG X W ρ .V (.Call (.Attribute a "join" apos) [c] [] p) (ra.bd fun d => onS d fun z => rb.bd fun e => joinV z e) := by
  obtain ⟨ta, a1, a2⟩ := ha
  obtain ⟨tb, b1, b2⟩ := hb
  refine ⟨_, pe_bm PySem.F.plainAttrs_str PySem.F.slot_str_join PySem.F.type_str_join mt_join a1 (pa_cons b1 pa_nil hs) hbase hfew hline hs hplain, fun B H0 F H σ Q gd k => ?_⟩
  refine a2 B H0 F H σ _ gd (Kn.bd k acc_base fun d1 x F1 H1 z1 e1 s1 q1 k1 => ?_)
  clear z1
  obtain ⟨z, rfl⟩ : ∃ z, d1 = .str z := by
    cases d1 <;> first | exact ⟨_, rfl⟩ | exact absurd rfl k1.ns
  rw [onS_str] at k1
  cases tp_str q1
  refine ⟨rfl, b2 B H0 F1 H1 σ _ (gd.go e1 s1) (Kn.bd k1 acc_base fun d2 y F2 H2 _ e2 s2 q2 k2 => ?_)⟩
  have fin : ∀ {a0 : Addr} {xs : List V} {ds : List D}, (SqL X.K H2 a0 xs ∨ SqT X.K H2 a0 xs) → DpAll X.K F2 xs ds → joinV z d2 = joinS z ds → ∃ ys : List Str, (SqL X.K H2 a0 (ys.map V.str) ∨ SqT X.K H2 a0 (ys.map V.str)) ∧ (ys.map (·.length)).sum + ys.length * z.length ≤ 16777216 ∧ Q (.str (Txt.join z ys)) H2 := fun {a0 xs ds} hx dp ej => by
    cases hso : strsOf ds with
    | none => exact absurd (ej.trans (by simp only [joinS, hso])) k2.ns
    | some ys =>
      cases hl : decide ((ys.map (·.length)).sum + ys.length * z.length ≤ 16777216) with
      | false => exact absurd (ej.trans (by simp only [joinS, hso, hl]; rfl)) k2.ns
      | true =>
        rw [strsOf_dp hso dp] at hx
        exact ⟨ys, hx, of_decide_eq_true hl, kn_flat (k2.of_eq (r' := .ok (.str (Txt.join z ys))) (ej.trans (by simp only [joinS, hso, hl]; rfl))) s2 rfl (.str _)⟩
  cases d2 with
  | list ds =>
    obtain ⟨a0, xs, rfl, g1, g2⟩ := tp_list q2
    obtain ⟨ys, w1, w2, w3⟩ := fin (.inl g1) g2 rfl
    exact ⟨z, a0, ys, rfl, rfl, w1, w2, w3⟩
  | tuple ds =>
    obtain ⟨a0, xs, rfl, g1, g2⟩ := tp_tup q2
    obtain ⟨ys, w1, w2, w3⟩ := fin (.inr (Same.tup s2 g1)) g2 rfl
    exact ⟨z, a0, ys, rfl, rfl, w1, w2, w3⟩
  | _ => exact absurd rfl k2.ns
/-- text.split(sep) -/
theorem eg_split [C : CtxB X W] {apos : Pos} (ha : EG X W ρ .T a ra) (hb : EG X W ρ .T c rb)
    (hbase : attributeBase a "split" X.env (eval a X.env) = eval a X.env := by rfl)
    (hfew : ((backTo p (starEach [c] X.env)).all (fun x => !x.1) && (backToKw p (keywordEach [] X.env)).all (fun x => x.1.isSome) && decide (([c] : List Expr).length + ([] : List Keyword).length + (if ([] : List Keyword).isEmpty then 0 else 1) < 30)) = true := by rfl)
    (hline : (apos.endLine == p.line) = true := by rfl) (hs : starEach [c] X.env = (false, eval c X.env) :: starEach [] X.env := by rfl) (hplain : (backTo p (starEach [] X.env)).any (·.1) = false := by rfl) :
    EG X W ρ .O (.Call (.Attribute a "split" apos) [c] [] p) (ra.bd fun d => onS d fun z => rb.bd fun e => splitV z e) := by
  obtain ⟨ta, a1, a2⟩ := ha
  obtain ⟨tb, b1, b2⟩ := hb
  refine ⟨_, pe_bm PySem.F.plainAttrs_str PySem.F.slot_str_split PySem.F.type_str_split mt_split a1 (pa_cons b1 pa_nil hs) hbase hfew hline hs hplain, fun B H0 F H σ Q gd k => ?_⟩
  refine a2 B H0 F H σ _ gd (Kn.bd k acc_base fun d1 x F1 H1 z1 e1 s1 q1 k1 => ?_)
  clear z1
  obtain ⟨z, rfl⟩ : ∃ z, d1 = .str z := by
    cases d1 <;> first | exact ⟨_, rfl⟩ | exact absurd rfl k1.ns
  rw [onS_str] at k1
  cases tp_str q1
  refine ⟨rfl, b2 B H0 F1 H1 σ _ (gd.go e1 s1) (Kn.bd k1 acc_base fun d2 y F2 H2 _ e2 s2 q2 k2 => ?_)⟩
  obtain ⟨b, rfl⟩ : ∃ b, d2 = .str b := by
    cases d2 <;> first | exact ⟨_, rfl⟩ | exact absurd rfl k2.ns
  cases tp_str q2
  cases hc : (!(b.length == 0)) && decide (z.length + 2 ≤ 16777216) with
  | false => exact absurd (by simp only [splitV, hc]; rfl) k2.ns
  | true =>
    have k3 := k2.of_eq (r' := .ok (.list ((Txt.split z b).map .str))) (by simp only [splitV, hc]; rfl)
    rw [Bool.and_eq_true] at hc
    refine ⟨z, b, rfl, rfl, by simpa using hc.1, by rw [PySem.sizeLine_eq]; exact of_decide_eq_true hc.2, fun q hq => ?_⟩
    exact kn_newL k3 s2 hq (strs_dp _)
/-- x in text -/
theorem od_inS : OpD X W .V (fun x y H Q => ∃ i j, x = .str i ∧ y = .str j ∧ Q (.bl (!(Builtin.Str.occurrences j i 0 j.length 1).isEmpty)) H) inS := by
  intro F H σ x y d1 d2 Q s h1 h2 k
  cases d1 <;> cases d2 <;> first | exact absurd rfl k.ns | skip
  cases tp_str h1
  cases tp_str h2
  exact ⟨_, _, rfl, rfl, kn_flat k s rfl (.bl _)⟩
theorem od_notInS : OpD X W .V (fun x y H Q => ∃ i j, x = .str i ∧ y = .str j ∧ Q (.bl (!(!(Builtin.Str.occurrences j i 0 j.length 1).isEmpty))) H) notInS := by
  intro F H σ x y d1 d2 Q s h1 h2 k
  cases d1 <;> cases d2 <;> first | exact absurd rfl k.ns | skip
  cases tp_str h1
  cases tp_str h2
  exact ⟨_, _, rfl, rfl, kn_flat k s rfl (.bl _)⟩
theorem c_inS : CmpD X W .In inS := ⟨_, op_in_str, od_inS⟩
theorem c_ninS : CmpD X W .NotIn notInS := ⟨_, op_notin_str, od_notInS⟩
/-- a text's slice -/
theorem eg_sliceS {lo hi : Option Expr} {rl ru : Res (Option Int)} (ha : EG X W ρ .T a ra) (hl : OG X W ρ lo rl) (hu : OG X W ρ hi ru) : EG X W ρ .V (.Subscript a (.Slice lo hi none p2) pos) (slS ra rl ru) := by
  obtain ⟨ta, a1, a2⟩ := ha
  obtain ⟨tl, l1, l2⟩ := hl
  obtain ⟨tu, u1, u2⟩ := hu
  refine ⟨_, pe_slice sl_str a1 l1 u1, fun B H0 F H σ Q gd k => a2 B H0 F H σ _ gd (Kn.bd k acc_base fun d x F1 H1 _ e1 s1 q1 k1 => l2 B H0 F1 H1 σ _ (gd.go e1 s1) (Kn.bd k1 acc_base fun l l' F2 H2 _ e2 s2 q2 k2 => u2 B H0 F2 H2 σ _ ((gd.go e1 s1).go e2 s2) (Kn.bd k2 acc_base fun u u' F3 H3 _ e3 s3 q3 k3 => ?_)))⟩
  cases q2; cases q3
  have q := Tp.go (e2.trans e3) q1
  obtain ⟨z, rfl⟩ : ∃ z, d = .str z := by
    cases d <;> first | exact ⟨_, rfl⟩ | exact absurd rfl k3.ns
  cases tp_str q
  cases hc : decide (z.length ≤ 16777216) with
  | false => exact absurd (by simp only [slV', hc]; rfl) k3.ns
  | true =>
    have k4 := k3.of_eq (r' := .ok (.str (cutS z l u))) (by simp only [slV', hc]; rfl)
    exact ⟨z, rfl, by rw [PySem.sizeLine_eq]; exact of_decide_eq_true hc, kn_flat k4 s3 rfl (.str _)⟩
/-- for sign in text -/
theorem ig_str {tg : Expr} (ha : EG X W ρ .T a ra) : IG X W ρ tg a (ra.bd strItems) := by
  obtain ⟨t, h1, h2⟩ := ha
  refine ⟨_, pi_str h1, fun B H0 F H σ Q gd k => h2 B H0 F H σ _ gd (Kn.bd k aG_base fun d x F1 H1 _ e1 s1 q1 k1 => ?_)⟩
  obtain ⟨z, rfl⟩ : ∃ z, d = .str z := by
    cases d <;> first | exact ⟨_, rfl⟩ | exact absurd rfl k1.ns
  have q1 : Tp X.K F1 H1 x (.str z) := q1
  cases tp_str q1
  refine ⟨z, rfl, k1.ret (Ex.refl _ _) s1 fun F2 H2 e s => ?_⟩
  refine ⟨by show z.cps.size ≤ _; rw [List.length_map, Array.length_toList]; exact Nat.le_refl _, fun i d hd => ?_⟩
  rw [List.getElem?_map, Array.getElem?_toList] at hd
  cases hc : z.cps[i]? with
  | none => rw [hc] at hd; cases hd
  | some c =>
    rw [hc] at hd
    cases hd
    refine ⟨(Array.getElem?_eq_some_iff.mp hc).1, fun x H3 ⟨y1, c', y2, y3⟩ => ?_⟩
    subst y1 y3
    rw [hc] at y2
    cases y2
    exact ⟨F2, Ex.refl _ _, s, .str _⟩
end
end DL
/-! try: e / except C: x = (a constant) -/
namespace DL
open PySem L2 PySem.Spec PyProof.Rows
/-- it is caught by its own name -/
structure SelfN (K : PySem.W.Frag) (mg : Str → Option Value) (n : Str) : Prop where
  one : ∃ D, mg n = some (.ref D) ∧ PySem.W.exmOne K (.ref D) (.ref D) = some true
def conE (cn : Str) (r : Res D) (d0 dc : D) : Res D := match r with
  | .ok _ => .ok d0
  | .exc n => if n = cn then .ok dc else .stuck
  | .stuck => .stuck
theorem conE_exc (cn n : Str) (d0 dc : D) : conE cn (.exc n) d0 dc = if n = cn then .ok dc else .stuck := rfl
@[simp] theorem conE_ok (cn : Str) (d d0 dc : D) : conE cn (.ok d) d0 dc = .ok d0 := id rfl
section
variable {X : Cx} {W : WX} {rk : Md} {ρ : Env X.K} {r : Res D} {d0 dc : D} {x cn : Str} {p4 p5 p7 p8 p8' pos : Pos} {e e2 : Expr}
theorem s1_tryExpr [C : Ctx X W] (ix : Nat) (Sc : SelfN X.K X.mg cn) (hρ : ρ[ix]? = some (cVal d0))
    (he : ∀ (pn : List (Addr × Obj)) (xe : Value → Shared → Prop) (W' : WX), Ctx (X.tr pn xe) W' → EG (X.tr pn xe) W' ρ .T e r)
    (he2 : ∀ (a : Addr) (pn : List (Addr × Obj)) (W' : WX), EG (X.suite a pn) W' ρ .V e2 (.ok dc))
    (hdb : (cn == ("__debug__" : Str)) = false := by decide) (hstk : X.stack = X.env :: X.outer := by rfl) (hfr : X.env.frame = some X.env.locals := by rfl) (hgS : Gl X cn := by rfl)
    (hix : X.N[ix]? = some x := by rfl) (hx : Loc X.env.scope x := by first | exact Or.inl rfl | exact Or.inr rfl)
    (hs : swapsWith e2 (some (.Name x p4)) p5.line X.env = pure false := by rfl) (hfn : X.fn x = true ∨ X.env.scope.names.lookup x = some .local := by first | exact .inl rfl | exact .inr rfl)
    (hs2 : swapsWith e none p7.line X.env = pure false := by rfl) :
    S1 X W rk ρ (.Try [.Expr e p7] [.ExceptHandler (some (.Name cn p8)) none [.Assign [.Name x p4] e2 p5] p8'] [] [] pos) (conE cn r d0 dc) (fun d => .nx (ρ.set ix (cVal d))) := by
  obtain ⟨S, hS, hself⟩ := Sc.one
  have run := L2N.ps_try_many (X := X) (pos := pos) (body := [.Expr e p7]) (h₀ := .ExceptHandler (some (.Name cn p8)) none [.Assign [.Name x p4] e2 p5] p8') (hds := []) (l := [(.ref S, fun _ _ _ => tAsg (tS X.K X W ρ .V (.ok dc)) (gName ix))]) (Wout := W) hstk hfr C.tk
    (tb := fun W' => tDrop (tS X.K X W' ρ .T r)) (fun W' pn xe tk po => pss_one (ps_expr (X := X.tr pn xe) ((he pn xe W' (tr_ctx C tk po)).sem (Y := X) rfl) hs2))
    (.cons ⟨hgS, hdb, .inl hS⟩ (fun a oe cls d pn hz hf => pss_one (ps_set (X := X.suite a ((a, oe) :: pn)) C.nd hix hx ((he2 a ((a, oe) :: pn) W).sem (Y := X) rfl) hs hfn)) .nil)
  refine ⟨_, run, fun B H0 F H σ D g q => ⟨B, H0, F, g, fun z => q.ns (by rw [z]; rfl), fun d ed v F' H' xx s a => ?_, fun n en H' Cv hC ss => ?_⟩⟩
  · have := q.ok d0 (by rw [ed]; rfl) F' H' σ
    rw [set_self hρ] at this
    exact this (g.go xx s)
  · subst en
    have hn : n = cn := Classical.byContradiction fun z => q.ns (by rw [conE_exc, if_neg z])
    subst hn
    rw [hS] at hC
    cases hC
    have g1 : Good B H0 F H' ρ σ := g.go ⟨Same.refl _, ss, fun _ _ => rfl⟩ (g.fh.trans ss)
    refine ⟨true, hself, fun _ a ha => ⟨B, H0, F, g1, fun z => (nomatch z), fun d ed v F' H2 xx s av => ?_, fun n en => (nomatch en)⟩, fun z => Bool.noConfusion z⟩
    cases ed
    exact q.ok dc (by rw [conE_exc, if_pos rfl]) F' H2 _ ((g1.go xx s).setV av)
end
end DL
/-! a, b = a list of two -/
namespace DL
open PySem L2
def un2L {α : Type} (d : D) (f : D → D → Res α) : Res α := match d with
  | .list [a, b] => f a b
  | _ => .stuck
theorem un2L_mk {α : Type} (a b : D) (f : D → D → Res α) : un2L (.list [a, b]) f = f a b := id rfl
def lstE {K : PySem.W.Frag} (n : Nat) (f : List D → Res (Env K)) : D → Res (Env K)
  | .list ds => if decide (ds.length = n) then f ds else .stuck
  | _ => .stuck
section
variable {X : Cx} {W : WX} {rk : Md} {ρ : Env X.K} {vs : List Nat} {x y : Str} {k : Nat} {p0 p1 p2 pos : Pos}
theorem gg_lst {es : List Expr} {n : Nat} {f : List D → Res (Env X.K)} (hc : X.calm = true) (h : GGs X es vs ρ f)
    (hn : (assignEach es X.env).length = n) (hst : (assignEach es X.env).findIdx? (·.1) = none) : GG X (.Tuple es k pos) vs ρ (lstE n f) := by
  obtain ⟨g, g1, g2⟩ := h
  refine ⟨_, pg_lst hc g1 hn hst, fun B H0 F H σ x d Q gd p ns q => ?_⟩
  cases d with
  | list ds =>
    obtain ⟨a, xs, e0, p1, p2⟩ := tp_list (Dp.tp (H := H) gd.fh p)
    by_cases e : ds.length = n
    · have e2 : lstE n f (.list ds) = f ds := by simp [lstE, e]
      exact ⟨a, xs, e0, p1, by rw [DpAll.length p2]; exact e, g2 B H0 F H σ xs ds Q gd p2 (fun z => ns (e2.trans z)) fun ρ' σ' q1 q2 q3 => q ρ' σ' (e2.trans q1) q2 q3⟩
    · exact absurd (by simp [lstE, e]) ns
  | _ => exact absurd rfl ns
theorem lstE2 {K : PySem.W.Frag} {ρ : Env K} (i j : Nat) (d : D) : lstE 2 (consE (fun a => .ok (ρ.set i (cVal a))) fun ρ' => consE (fun b => .ok (ρ'.set j (cVal b))) fun ρ2 ds => match ds with | [] => .ok ρ2 | _ => .stuck) d
    = un2L d fun a b => .ok ((ρ.set i (cVal a)).set j (cVal b)) := by
  cases d with
  | list ds =>
    match ds with
    | [] => rfl
    | [_] => rfl
    | [a, b] => rfl
    | _ :: _ :: _ :: _ => simp [lstE, un2L]
  | _ => rfl
theorem gg2L (i j : Nat) (hc : X.calm = true) (hN : X.N.Nodup) (hx : NmOk X i x) (hy : NmOk X j y) (vi : i ∈ vs) (vj : j ∈ vs) (s2 : AsOk X (.Name x p1) [.Name y p2]) (s1 : AsOk X (.Name y p2) []) (ht : TupOk X [.Name x p1, .Name y p2] 2) :
    GG X (.Tuple [.Name x p1, .Name y p2] k pos) vs ρ (fun d => un2L d fun a b => .ok ((ρ.set i (cVal a)).set j (cVal b))) := by
  have h := gg_lst (k := k) (pos := pos) (ρ := ρ) (vs := vs) hc (ggs_cons (gg1 (pos := p1) i hN hx vi) (fun ρ' => ggs_cons (gg1 (pos := p2) j hN hy vj) (fun ρ2 => ggs_nil) (fun _ _ z => nomatch z) fun u hu g hg => pgs_cons hg hu s1) (fun _ _ z => nomatch z) fun u hu g hg => pgs_cons hg hu s2) ht.1 ht.2
  have e : (fun d => un2L d fun a b => Res.ok ((ρ.set i (cVal a)).set j (cVal b))) = lstE 2 (consE (fun a => .ok (ρ.set i (cVal a))) fun ρ' => consE (fun b => .ok (ρ'.set j (cVal b))) fun ρ2 ds => match ds with | [] => .ok ρ2 | _ => .stuck) := funext fun d => (lstE2 i j d).symm
  rw [e]
  exact h
theorem un2L_ex {α : Type} {d : D} {f : D → D → Res α} (hf : ∀ a b n, f a b ≠ .exc n) (n : Str) : un2L d f ≠ .exc n := by
  unfold un2L
  split
  · exact hf _ _ n
  · exact fun z => nomatch z
theorem s1_un2L [C : Ctx X W] {e : Expr} {r : Res D} (i j : Nat) (he : EG X W ρ .V e r) (hn1 : NmOk X i x) (hn2 : NmOk X j y) (ha : AsOk X (.Name x p1) [.Name y p2] ∧ AsOk X (.Name y p2) [] ∧ TupOk X [.Name x p1, .Name y p2] 2)
    (hs : swapsWithSole [.Tuple [.Name x p1, .Name y p2] k p0] e pos.line X.env = pure false := by rfl) (hw : swappedStores [.Tuple [.Name x p1, .Name y p2] k p0] e X.env = pure none := by rfl)
    (h1 : (assignEach [.Tuple [.Name x p1, .Name y p2] k p0] X.env).map (·.2) = [assign (.Tuple [.Name x p1, .Name y p2] k p0) X.env] := by rfl) :
    S1 X W rk ρ (.Assign [.Tuple [.Name x p1, .Name y p2] k p0] e pos) (r.bd fun d => un2L d fun a b => .ok (a, b)) (fun s : D × D => .nx ((ρ.set i (cVal s.1)).set j (cVal s.2))) := by
  have q := s1_unpack (rk := rk) (pos := pos) he (gg2L (k := k) (pos := p0) (vs := [i, j]) (ρ := ρ) i j C.calm C.nd hn1 hn2 (by simp) (by simp) ha.1 ha.2.1 ha.2.2) (fun d n => un2L_ex (fun _ _ _ => ok_ne) n) hs hw h1
  refine s1_map (T := Env X.K) (h := fun s : D × D => (ρ.set i (cVal s.1)).set j (cVal s.2)) (fin2 := fun ρ' => .nx ρ') (fun _ => rfl) ?_
  have e : (fun d => un2L d fun a b => Res.ok ((ρ.set i (cVal a)).set j (cVal b))) = fun d => (un2L d fun a b => Res.ok (a, b)).bd fun s : D × D => Res.ok ((ρ.set i (cVal s.1)).set j (cVal s.2)) := funext fun d => by unfold un2L; split <;> rfl
  rw [e, ← bd_bd] at q
  exact q
end
end DL
/-! x in a tuple -/
namespace DL
open PySem L2
def inT : D → D → Res D
  | d, .tuple ds => if SeqAt.shaped d && SeqAt.shaped (.tuple ds) then .ok (.bool (ds.any fun z => PyData.eqv z d)) else .stuck
  | _, _ => .stuck
section
variable {X : Cx} {W : WX}
def rInTD (K : PySem.W.Frag) : R2 := fun x y H Q => ∃ d ds, Dp K H x d ∧ Dp K H y (.tuple ds) ∧ SeqAt.shaped d = true ∧ SeqAt.shaped (.tuple ds) = true ∧ Q (.bl (ds.any fun z => PyData.eqv z d)) H
theorem op_inTD (hu : X.A.units + 65 < cLine) : OpR X (compareOp .In) (rInTD X.K) := by
  intro pins s σ H x y v u Q I rx ry h
  obtain ⟨d, ds, hd, he, sd, se, q⟩ := h
  obtain ⟨as, r1⟩ := Dp.reads I d x v hd rx
  obtain ⟨bs, r2⟩ := Dp.reads I (.tuple ds) y u he ry
  exact SeqAt.in_tuple_reads r2 r1 (SeqAt.canLay_of_shaped se) (SeqAt.canLay_of_shaped sd) (by have := SeqAt.depth_of_shaped sd; have := Nat.min_le_right (PyData.depthAll ds) d.depth; omega) ⟨.bl _, H, I, rfl, q⟩
theorem c_inT [C : CtxB X W] : CmpD X W .In inT := by
  refine ⟨_, op_inTD (by have := C.hu; omega), ?_⟩
  intro F H σ x y d1 d2 Q s h1 h2 k
  have nl : (∀ ds, d2 ≠ .tuple ds) → False := fun z => k.ns (by cases d2 <;> first | exact absurd rfl (z _) | (cases d1 <;> rfl))
  cases d2 with
  | tuple ds =>
    cases c : (SeqAt.shaped d1 && SeqAt.shaped (.tuple ds)) with
    | false => exact absurd (by unfold inT; cases d1 <;> (simp only; rw [c]; rfl)) k.ns
    | true =>
      have k3 := k.of_eq (r' := .ok (.bool (ds.any fun z => PyData.eqv z d1))) (by unfold inT; cases d1 <;> (simp only; rw [c]; rfl))
      rw [Bool.and_eq_true] at c
      exact ⟨d1, ds, Tp.dp s h1, Tp.dp s h2, c.1, c.2, kn_flat k3 s rfl (.bl _)⟩
  | _ => exact (nl (fun _ z => nomatch z)).elim
end
end DL
/-! An object that listens: its fields, what its methods promise. -/
namespace DL
open PySem L2
def fl (cv sv : V) (r e u : Addr) : List (Str × V) := [("code", cv), ("slips", sv), ("heard_row", .ref r), ("earlier", .ref e), ("undone", .ref u)]
theorem lk_hit {k : Str} {v : V} {l : List (Str × V)} : ((k, v) :: l).lookup k = some v := by simp [List.lookup]
theorem lk_miss {k k' : Str} {v : V} {l : List (Str × V)} (h : (k == k') = false) : ((k', v) :: l).lookup k = l.lookup k := by simp [List.lookup, h]
section
variable {cv sv : V} {r e u : Addr}
theorem fl_code : (fl cv sv r e u).lookup ("code" : Str) = some cv := lk_hit
theorem fl_slips : (fl cv sv r e u).lookup ("slips" : Str) = some sv := by
  unfold fl
  rw [lk_miss (by decide +kernel)]
  exact lk_hit
theorem fl_row : (fl cv sv r e u).lookup ("heard_row" : Str) = some (.ref r) := by
  unfold fl
  rw [lk_miss (by decide +kernel), lk_miss (by decide +kernel)]
  exact lk_hit
theorem fl_earlier : (fl cv sv r e u).lookup ("earlier" : Str) = some (.ref e) := by
  unfold fl
  rw [lk_miss (by decide +kernel), lk_miss (by decide +kernel), lk_miss (by decide +kernel)]
  exact lk_hit
theorem fl_undone : (fl cv sv r e u).lookup ("undone" : Str) = some (.ref u) := by
  unfold fl
  rw [lk_miss (by decide +kernel), lk_miss (by decide +kernel), lk_miss (by decide +kernel), lk_miss (by decide +kernel)]
  exact lk_hit
/-- names that are no fields -/
def noFl (m : Str) : Bool := !(m == "code") && !(m == "slips") && !(m == "heard_row") && !(m == "earlier") && !(m == "undone")
theorem fl_no {m : Str} (h : noFl m = true) : (fl cv sv r e u).lookup m = none := by
  simp only [noFl, Bool.and_eq_true, Bool.not_eq_true'] at h
  unfold fl
  rw [lk_miss h.1.1.1.1, lk_miss h.1.1.1.2, lk_miss h.1.1.2, lk_miss h.1.2, lk_miss h.2]
  rfl
theorem fl_put (u' : Addr) : putF "undone" (.ref u') (fl cv sv r e u) = fl cv sv r e u' := by
  have h : ∀ {a b : Str} {v w : V} {l : List (Str × V)}, ¬ a = b → putF b w ((a, v) :: l) = (a, v) :: putF b w l := fun {a b v w l} n => by
    show (if a = b then _ else _) = _
    rw [if_neg n]
  unfold fl
  rw [h (by decide +kernel), h (by decide +kernel), h (by decide +kernel), h (by decide +kernel)]
  show _ :: _ :: _ :: _ :: (if ("undone" : Str) = "undone" then _ else _) = _
  rw [if_pos rfl]
end
structure Li where
  code : D
  slips : D
  row : List D
  earlier : List D
  undone : List D
def Li.d (l : Li) : D := .tuple [l.code, l.slips, .list l.row, .list l.earlier, .list l.undone]
def onLi {α : Type} (d : D) (f : Li → Res α) : Res α := match d with
  | .tuple [c, s, .list r, .list e, .list u] => f ⟨c, s, r, e, u⟩
  | _ => .stuck
@[simp] theorem onLi_d {α : Type} (l : Li) (f : Li → Res α) : onLi l.d f = f l := id rfl
theorem Li.inj {l m : Li} (h : l.d = m.d) : l = m := by
  obtain ⟨a, b, c, d, e⟩ := l
  obtain ⟨a', b', c', d', e'⟩ := m
  simp only [Li.d, PyData.tuple.injEq, List.cons.injEq, PyData.list.injEq, and_true] at h
  obtain ⟨rfl, rfl, rfl, rfl, rfl⟩ := h
  rfl
mutual
def noL : D → Bool
  | .list _ => false
  | .dict _ => false
  | .tuple ds => noLs ds
  | _ => true
def noLs : List D → Bool
  | [] => true
  | d :: ds => noL d && noLs ds
end
def okLi (l : Li) : Bool := noL l.code && (noL l.slips && (noLs l.row && (noLs l.earlier && noLs l.undone)))
structure LiX (K : PySem.W.Frag) (C : Addr) (F H : Hp) (a dx r e u : Addr) (cv sv : V) (xs es us : List V) (l : Li) : Prop where
  ha : H a = some (.ins C dx (fl cv sv r e u))
  hr : H r = some (.lst xs)
  he : H e = some (.lst es)
  hu : H u = some (.lst us)
  dc : Dp K F cv l.code
  ds : Dp K F sv l.slips
  dr : DpAll K F xs l.row
  de : DpAll K F es l.earlier
  du : DpAll K F us l.undone
  re : r ≠ e
  ru : r ≠ u
  eu : e ≠ u
  ok : okLi l = true
def LiAt (K : PySem.W.Frag) (C : Addr) (F H : Hp) (a : Addr) (ow : List Addr) (l : Li) : Prop := ∃ dx r e u cv sv xs es us, ow = [a, r, e, u] ∧ LiX K C F H a dx r e u cv sv xs es us l
section
variable {K : PySem.W.Frag} {C : Addr} {F H F' H' : Hp} {a dx r e u : Addr} {cv sv : V} {xs es us : List V} {l : Li} {ow : List Addr}
theorem LiX.mono (x : LiX K C F H a dx r e u cv sv xs es us l) (s : Same F F') (h : ∀ b ∈ [a, r, e, u], H' b = H b) : LiX K C F' H' a dx r e u cv sv xs es us l :=
  ⟨by rw [h a (by simp)]; exact x.ha, by rw [h r (by simp)]; exact x.hr, by rw [h e (by simp)]; exact x.he, by rw [h u (by simp)]; exact x.hu, Dp.mono s _ _ x.dc, Dp.mono s _ _ x.ds, DpAll.mono s _ _ x.dr, DpAll.mono s _ _ x.de, DpAll.mono s _ _ x.du, x.re, x.ru, x.eu, x.ok⟩
theorem LiX.nd (x : LiX K C F H a dx r e u cv sv xs es us l) : [a, r, e, u].Nodup := by
  have n1 : a ≠ r := fun z => by have := x.ha; rw [z, x.hr] at this; cases this
  have n2 : a ≠ e := fun z => by have := x.ha; rw [z, x.he] at this; cases this
  have n3 : a ≠ u := fun z => by have := x.ha; rw [z, x.hu] at this; cases this
  simp [n1, n2, n3, x.re, x.ru, x.eu]
theorem LiAt.mono (x : LiAt K C F H a ow l) (s : Same F F') (h : ∀ b ∈ ow, H' b = H b) : LiAt K C F' H' a ow l := by
  obtain ⟨dx, r, e, u, cv, sv, xs, es, us, rfl, x⟩ := x
  exact ⟨dx, r, e, u, cv, sv, xs, es, us, rfl, x.mono s h⟩
theorem LiAt.nd (x : LiAt K C F H a ow l) : ow.Nodup := by
  obtain ⟨dx, r, e, u, cv, sv, xs, es, us, rfl, x⟩ := x
  exact x.nd
theorem LiAt.there (x : LiAt K C F H a ow l) : ∀ b ∈ ow, H b ≠ none := by
  obtain ⟨dx, r, e, u, cv, sv, xs, es, us, rfl, x⟩ := x
  intro b hb z
  simp only [List.mem_cons, List.not_mem_nil, or_false] at hb
  rcases hb with rfl | rfl | rfl | rfl
  · rw [x.ha] at z; cases z
  · rw [x.hr] at z; cases z
  · rw [x.he] at z; cases z
  · rw [x.hu] at z; cases z
/-- none of its cells is a tuple -/
theorem LiAt.noT (x : LiAt K C F H a ow l) : ∀ b ∈ ow, ∀ ys, ¬ Rd H b (.tup ys) := by
  obtain ⟨dx, r, e, u, cv, sv, xs, es, us, rfl, x⟩ := x
  intro b hb ys z
  simp only [List.mem_cons, List.not_mem_nil, or_false] at hb
  rcases hb with rfl | rfl | rfl | rfl
  all_goals
    rcases z with z | ⟨o, z⟩
  · rw [x.ha] at z; cases z
  · rw [x.ha] at z; cases z
  · rw [x.hr] at z; cases z
  · rw [x.hr] at z; cases z
  · rw [x.he] at z; cases z
  · rw [x.he] at z; cases z
  · rw [x.hu] at z; cases z
  · rw [x.hu] at z; cases z
end
/-- an object of one's own -/
def cLi {K : PySem.W.Frag} (C : Addr) (d : D) : Cell K where
  P := fun F H v as => ∃ (a : Addr) (l : Li), v = some (.ref a) ∧ d = l.d ∧ LiAt K C F H a as l
  mono := fun s h x => by
    obtain ⟨a, l, e1, e2, x⟩ := x
    exact ⟨a, l, e1, e2, x.mono s h⟩
  there := fun x => by
    obtain ⟨a, l, _, _, x⟩ := x
    exact x.there
/-! ### what a method that only reads promises -/
/-- what may be told -/
def okT (rk : Md) (d : D) : Bool := match rk, d with
  | .O, .list ds => noLs ds
  | _, d => noL d
def chT (rk : Md) (d : D) : Res D := if okT rk d then .ok d else .stuck
def spR (K : PySem.W.Frag) (mg : Str → Option Value) (C : Addr) (n : Nat) (rk : Md) (g : Li → List D → Res D) : Sp := fun vs H Q E => ∃ F a ow l rest ds, vs = .ref a :: rest ∧ Same F H ∧ LiAt K C F H a ow l ∧ (∀ b ∈ ow, F b = none) ∧ DpAll K F rest ds ∧ rest.length = n ∧ (g l ds).bd (chT rk) ≠ .stuck ∧
  (∀ d, g l ds = .ok d → ∀ v F' H', Ex F H F' H' → Same F' H' → Acc K rk H F' H' d v → Q v H') ∧ ∀ x, g l ds = .exc x → ∀ H' C', mg x = some C' → Same H H' → E C' none H'
/-- .. that changes it -/
structure MutTo (F H : Hp) (ow : List Addr) (F' H' : Hp) (ow' : List Addr) : Prop where
  ff : Same F F'
  fh : Same F' H'
  keep : ∀ b o, H b = some o → b ∉ ow → H' b = some o
  eq : ∀ b, H b ≠ none → F' b = F b
  ow : ∀ b ∈ ow', F' b = none ∧ (b ∈ ow ∨ H b = none)
  nf : ∀ b, H b ≠ none → H' b ≠ none
theorem upd_nf {H : Hp} {p b : Addr} {o : HO} (h : H b ≠ none) : upd H p o b ≠ none := by
  by_cases e : b = p
  · rw [e, upd_same]; exact fun z => nomatch z
  · rw [upd_ne e]; exact h
def spM (K : PySem.W.Frag) (mg : Str → Option Value) (C : Addr) (n : Nat) (g : Li → List D → Res (D × Li)) : Sp := fun vs H Q E => ∃ F a ow l rest ds, vs = .ref a :: rest ∧ Same F H ∧ LiAt K C F H a ow l ∧ (∀ b ∈ ow, F b = none) ∧ DpAll K F rest ds ∧ rest.length = n ∧ g l ds ≠ .stuck ∧
  (∀ d l', g l ds = .ok (d, l') → ∀ v F' H' ow', MutTo F H ow F' H' ow' → LiAt K C F' H' a ow' l' → Dp K F' v d → Q v H') ∧ ∀ x, g l ds = .exc x → ∀ H' C', mg x = some C' → Same H H' → E C' none H'
/-- what the class is like -/
structure LisC (K : PySem.W.Frag) (mg : Str → Option Value) (C : Addr) : Prop where
  cl : Cls K C
  nC : NoAttr K C "code"
  nS : NoAttr K C "slips"
  nR : NoAttr K C "heard_row"
  nE : NoAttr K C "earlier"
  nU : NoAttr K C "undone"
  mgC : mg "Listener" = some (.ref C)
/-- a method that keeps its promise -/
structure DefL (P : Program) (w : World) (K : PySem.W.Frag) (mg : Str → Option Value) (base : Heap) (C : Addr) (m : Str) (k : Nat) (sp : Sp) : Prop where
  ex : ∃ f fd ps, FnOk P w K mg base (L2N.CX P w) k f fd ps sp ∧ Meth K C m f ∧ Binds K fd ps []
end DL
/-! Calls of methods; what is frozen for a while. -/
namespace DL
open PySem L2
section
variable {X : Cx} {CX : CXT} {k : Nat} {f C : Addr} {fd : FuncData} {ps : List Str} {sp : Sp} {E : L2.St → XK} {x m : Str} {p pos apos : Pos} {e o : Expr} {es : List Expr} {ta : TE} {t : TA}
def tMethE (C : Addr) (m : Str) (sp : Sp) (E : L2.St → XK) (ta : TE) (t : TA) : TE := fun σ H Q => ta σ H fun x H1 => ∃ a dx fs, x = .ref a ∧ H1 a = some (.ins C dx fs) ∧ fs.lookup m = none ∧ t σ H1 fun vs H2 => sp (x :: vs) H2 Q (E σ)
theorem pe_methE {pl : Sem Bool} (he : PE X o ta) (c : Cls X.K C) (hm : Meth X.K C m f) (F : FnOk X.prog X.w X.K X.mg X.base CX k f fd ps sp) (hr : Room k X.A) (hb : Binds X.K fd ps []) (hx : ∀ σ, PassesAt CX X σ (E σ)) (ha : PA X (e :: es) t)
    (hst : starEach (e :: es) X.env = (false, eval e X.env) :: starEach es X.env := by rfl) (hpl : (backTo pos (starEach es X.env)).any (·.1) = false := by rfl)
    (ht : eval (.Call (.Attribute o m apos) (e :: es) [] pos) X.env = (do
      let ov ← eval o X.env
      standAt apos.atName
      let (f, first) ← holding [ov] (getMethod ov m pl)
      callWith pos f first (backTo pos (starEach (e :: es) X.env)) (backToKw pos (keywordEach [] X.env))) := by rfl) :
    PE X (.Call (.Attribute o m apos) (e :: es) [] pos) (tMethE C m sp E ta t) := by
  refine ⟨fun pins s σ H Q I h => ?_⟩
  refine PySem.W.methodCall_KW (pl := pl) (thn (he.run pins s σ H _ I h) fun u s1 ⟨x, H1, I1, rx, a, dx, fs, ex, ea, l, q⟩ => ?_) ht
  subst ex
  obtain rfl : u = Value.ref a := rx
  refine getmeth_ok I1 ea c hm l ?_
  refine PySem.W.callWith_K (first := [.ref a]) (h₀ := X.base) I.ok.mod.kin hm.kp (thn (ha.run pos pins s1 σ H1 _ I1 q) fun us s2 ⟨vs, H2, I2, r, q2⟩ => ⟨I2.kIn, ?_⟩) hst hpl
  exact run_fnS (us := .ref a :: us) (vs := .ref a :: vs) F hr hb (hx σ) I2 (.cons rfl r) q2
theorem pe_methE0 {pl : Sem Bool} (he : PE X o ta) (c : Cls X.K C) (hm : Meth X.K C m f) (F : FnOk X.prog X.w X.K X.mg X.base CX k f fd ps sp) (hr : Room k X.A) (hb : Binds X.K fd ps []) (hx : ∀ σ, PassesAt CX X σ (E σ))
    (ht : eval (.Call (.Attribute o m apos) [] [] pos) X.env = (do
      let ov ← eval o X.env
      standAt apos.atName
      let (f, first) ← holding [ov] (getMethod ov m pl)
      callWith pos f first (backTo pos (starEach [] X.env)) (backToKw pos (keywordEach [] X.env))) := by rfl) :
    PE X (.Call (.Attribute o m apos) [] [] pos) (tMethE C m sp E ta tNil) := by
  refine ⟨fun pins s σ H Q I h => ?_⟩
  refine PySem.W.methodCall_KW (pl := pl) (thn (he.run pins s σ H _ I h) fun u s1 ⟨x, H1, I1, rx, a, dx, fs, ex, ea, l, q⟩ => ?_) ht
  subst ex
  obtain rfl : u = Value.ref a := rx
  refine getmeth_ok I1 ea c hm l ?_
  exact PySem.W.callWith_K0 (first := [.ref a]) I1.kIn hm.kp (run_fnS (us := [.ref a]) (vs := [.ref a]) F hr hb (hx σ) I1 (.cons rfl .nil) q)
def tMakeE (C : Addr) (sp : Sp) (E : L2.St → XK) (t : TA) : TE := fun σ H Q => t σ H fun vs H1 => ∀ x dx, H1 x = none → H1 dx = none → dx ≠ x →
  sp (.ref x :: vs) (upd (upd H1 dx (.own x)) x (.ins C dx [])) (fun v H2 => v = .non ∧ Q (.ref x) H2) (fun _ _ _ => False)
theorem pe_makeE (M : Mk X.K C f) (F : FnOk X.prog X.w X.K X.mg X.base (L2N.CX X.prog X.w) k f fd ps sp) (hr : Room (k + 1) X.A) (hg : Gl X x) (hm : X.mg x = some (.ref C)) (hb : Binds X.K fd ps [])
    (ha : PA X (e :: es) t) (hdb : (x == ("__debug__" : Str)) = false := by decide) (he : starEach (e :: es) X.env = (false, eval e X.env) :: starEach es X.env := by rfl) (hpl : (backTo pos (starEach es X.env)).any (·.1) = false := by rfl) :
    PE X (.Call (.Name x p) (e :: es) [] pos) (tMakeE C sp E t) := by
  refine ⟨fun pins s σ H Q I h => ?_⟩
  refine wpAny_Call_Name_kw (ld_glob I hg hm ?_ hdb)
  refine PySem.W.callWith_K (h₀ := X.base) I.ok.mod.kin M.kp (thn (ha.run pos pins s σ H _ I h) fun us s1 ⟨vs, H1, I1, r, q⟩ => ⟨I1.kIn, ?_⟩) he hpl
  refine run_make (dvs := []) (ds := []) (E := fun _ _ _ => False) M F hr hb .nil (fun pins σ H s e s' I c => ?_) I1 r fun x dx h1 h2 h3 => ?_
  · obtain ⟨_, _, _, _, _, _, _, _, _, _, _, _, z⟩ := c
    exact z.elim
  · rw [List.append_nil]
    exact q x dx h1 h2 h3
end
/-! ### frozen for a while -/
def unfz (ow : List Addr) (F : Hp) : Hp := fun b => if b ∈ ow then none else F b
theorem unfz_in {ow : List Addr} {F : Hp} {b : Addr} (h : b ∈ ow) : unfz ow F b = none := by unfold unfz; rw [if_pos h]
theorem unfz_out {ow : List Addr} {F : Hp} {b : Addr} (h : b ∉ ow) : unfz ow F b = F b := by unfold unfz; rw [if_neg h]
theorem unfz_same {ow : List Addr} {F : Hp} : Same (unfz ow F) F := fun b o e => by
  by_cases h : b ∈ ow
  · rw [unfz_in h] at e; cases e
  · rwa [unfz_out h] at e
section
variable {K : PySem.W.Frag} {F F' H H' : Hp} {ow : List Addr}
mutual
theorem Dp_strip (hT : ∀ b ∈ ow, ∀ ys, ¬ Rd F b (.tup ys)) : ∀ (d : D) (v : V), noL d = true → Dp K F v d → Dp K (unfz ow F) v d
  | .none, _, _, h => by cases h; exact .non
  | .bool b, _, _, h => by cases h; exact .bl b
  | .int i, _, _, h => by cases h; exact .int i
  | .str x, _, _, h => by cases h; exact .str x
  | .list ds, _, n, _ => by cases n
  | .dict _, _, n, _ => by cases n
  | .tuple ds, _, n, h => by
    cases h with
    | tup a b =>
      rename_i adr xs
      refine .tup ?_ (Dp_strips hT ds _ n b)
      rcases a with a | a
      · have hb : adr ∉ ow := fun z => hT adr z _ a
        left
        rcases a with a | ⟨o, a⟩
        · exact .inl (by rw [unfz_out hb]; exact a)
        · exact .inr ⟨o, by rw [unfz_out hb]; exact a⟩
      · exact .inr a
theorem Dp_strips (hT : ∀ b ∈ ow, ∀ ys, ¬ Rd F b (.tup ys)) : ∀ (ds : List D) (vs : List V), noLs ds = true → DpAll K F vs ds → DpAll K (unfz ow F) vs ds
  | [], _, _, h => by cases h; exact .nil
  | d :: ds, _, n, h => by
    have n : (noL d && noLs ds) = true := n
    rw [Bool.and_eq_true] at n
    cases h with | cons a b => exact .cons (Dp_strip hT d _ n.1 a) (Dp_strips hT ds _ n.2 b)
end
end
end DL
namespace DL
open PySem L2
section
variable {K : PySem.W.Frag} {C a : Addr} {F F' H H' : Hp} {ow : List Addr} {l : Li}
theorem LiAt.strip (x : LiAt K C F F a ow l) (fh : Same F H) : LiAt K C (unfz ow F) H a ow l := by
  have hT := x.noT
  obtain ⟨dx, r, e, u, cv, sv, xs, es, us, e0, x⟩ := x
  have ok := x.ok
  simp only [okLi, Bool.and_eq_true] at ok
  obtain ⟨o1, o2, o3, o4, o5⟩ := ok
  exact ⟨dx, r, e, u, cv, sv, xs, es, us, e0, fh _ _ x.ha, fh _ _ x.hr, fh _ _ x.he, fh _ _ x.hu, Dp_strip hT _ _ o1 x.dc, Dp_strip hT _ _ o2 x.ds, Dp_strips hT _ _ o3 x.dr, Dp_strips hT _ _ o4 x.de, Dp_strips hT _ _ o5 x.du, x.re, x.ru, x.eu, x.ok⟩
theorem LiAt.froz (x : LiAt K C F H a ow l) (hn : ∀ b ∈ ow, F b = none) : LiAt K C (fz ow F H) (fz ow F H) a ow l := x.mono (fz_ff hn) fun b hb => fz_in hb
/-- what a frozen one is told by a promise over the unfrozen -/
theorem ex_refz {F1 H1 : Hp} {v : V} {d : D} {rk : Md} (np : rk ≠ .P) (x : LiAt K C F1 F1 a ow l) (s1 : Same F1 H1) (e : Ex (unfz ow F1) H1 F' H') (s : Same F' H') (ac : Acc K rk H1 F' H' d v) : ∃ F2, Ex F1 H1 F2 H' ∧ Same F2 H' ∧ Acc K rk H1 F2 H' d v := by
  have th : ∀ b ∈ ow, F1 b ≠ none := x.there
  have hh : ∀ b ∈ ow, H1 b ≠ none := fun b hb => Same.ne' s1 (th b hb)
  have n : ∀ b ∈ ow, F' b = none := fun b hb => by rw [e.eq b (hh b hb), unfz_in hb]
  have hf : Same F' (fz ow F' H') := fz_ff n
  refine ⟨fz ow F' H', ⟨fun b o q => ?_, e.hh, fun b hb => ?_⟩, fz_fh s, ?_⟩
  · by_cases hb : b ∈ ow
    · rw [fz_in hb]
      exact e.hh _ _ (s1 _ _ q)
    · rw [fz_out hb]
      exact e.ff _ _ (by rw [unfz_out hb]; exact q)
  · by_cases h : b ∈ ow
    · rw [fz_in h, Same.ne e.hh hb, Same.ne s1 (th b h)]
    · rw [fz_out h, e.eq b hb, unfz_out h]
  · cases rk with
    | V => exact Dp.mono hf _ _ ac
    | T =>
      rcases ac with ⟨ds, b, xs, e1, e2, h1, h2⟩ | ⟨h0, h⟩
      · exact .inl ⟨ds, b, xs, e1, e2, h1, DpAll.mono hf _ _ h2⟩
      · exact .inr ⟨h0, Dp.mono hf _ _ h⟩
    | O =>
      obtain ⟨as, q, w⟩ := ac
      refine ⟨as, q.mono hf fun _ _ => rfl, fun b hb => ⟨(w b hb).1, ?_⟩⟩
      rw [fz_out fun z => hh b z (w b hb).1]
      exact (w b hb).2
    | P => exact absurd rfl np
end
/-- frozen for a while -/
def cFz {K : PySem.W.Frag} (C a : Addr) (ow : List Addr) (l : Li) : Cell K where
  P := fun F H v as => as = [] ∧ v = some (.ref a) ∧ LiAt K C F F a ow l
  mono := fun s _ h => by
    obtain ⟨h1, h2, x⟩ := h
    exact ⟨h1, h2, x.mono s fun b hb => Same.ne s (x.there b hb)⟩
  there := fun h b hb => by
    obtain ⟨rfl, _, _⟩ := h
    cases hb
section
variable {X : Cx} {W : WX} {rk m : Md} {ρ : Env X.K} {C a : Addr} {ow : List Addr} {l : Li} {x f : Str} {p p2 pos apos : Pos} {e : Expr} {es : List Expr} {rs : Res (List D)} {n k : Nat} {d0 : D}
theorem eg_fz (i : Nat) (g : Li → D) (hρ : ρ[i]? = some (cFz C a ow l)) (T : Cls X.K C) (nA : NoAttr X.K C f)
    (hg : ∀ {F : Hp}, LiAt X.K C F F a ow l → ∃ dx fs v, F a = some (.ins C dx fs) ∧ fs.lookup f = some v ∧ Dp X.K F v (g l))
    (hN : X.N[i]? = some x := by rfl) (hv : Vis X.env.scope x := by first | exact Or.inl rfl | exact Or.inr (Or.inl rfl) | exact Or.inr (Or.inr rfl)) (hd : (x == ("__debug__" : Str)) = false := by decide) (hcd : (x == ("__classdict__" : Str)) = false := by decide)
    (hb : attributeBase (.Name x p2) f X.env (eval (.Name x p2) X.env) = eval (.Name x p2) X.env := by rfl) : EG X W ρ .V (.Attribute (.Name x p2) f pos) (.ok (g l)) := by
  refine ⟨_, pe_fld (pe_var hN hv hd hcd) hb, fun B H0 F H σ Q gd k => ?_⟩
  obtain ⟨_, fh, ass, sl, _⟩ := gd
  obtain ⟨v, as, h1, _, _, h3, q⟩ := sl.get hρ
  subst h3
  obtain ⟨dx, fs, v, q1, q2, q3⟩ := hg q
  exact ⟨_, h1, a, C, dx, fs, v, rfl, fh _ _ q1, T, nA, q2, k.ret (Ex.refl _ _) fh q3⟩
theorem fz_code {K : PySem.W.Frag} {F : Hp} (q : LiAt K C F F a ow l) : ∃ dx fs v, F a = some (.ins C dx fs) ∧ fs.lookup ("code" : Str) = some v ∧ Dp K F v l.code := by
  obtain ⟨dx, r, e, u, cv, sv, xs, es, us, _, x⟩ := q
  exact ⟨dx, _, _, x.ha, fl_code, x.dc⟩
theorem fz_slips {K : PySem.W.Frag} {F : Hp} (q : LiAt K C F F a ow l) : ∃ dx fs v, F a = some (.ins C dx fs) ∧ fs.lookup ("slips" : Str) = some v ∧ Dp K F v l.slips := by
  obtain ⟨dx, r, e, u, cv, sv, xs, es, us, _, x⟩ := q
  exact ⟨dx, _, _, x.ha, fl_slips, x.ds⟩
theorem fz_row {K : PySem.W.Frag} {F : Hp} (q : LiAt K C F F a ow l) : ∃ dx fs v, F a = some (.ins C dx fs) ∧ fs.lookup ("heard_row" : Str) = some v ∧ Dp K F v (.list l.row) := by
  obtain ⟨dx, r, e, u, cv, sv, xs, es, us, _, x⟩ := q
  exact ⟨dx, _, _, x.ha, fl_row, .lst (SqL.of x.hr) x.dr⟩
theorem chT_ok {rk : Md} {d : D} (h : chT rk d ≠ .stuck) : okT rk d = true ∧ chT rk d = .ok d := by
  unfold chT at h ⊢
  split
  · rename_i q; exact ⟨q, rfl⟩
  · rename_i q; rw [if_neg q] at h; exact absurd rfl h
/-- a method that only reads, of an object of one's own -/
theorem eg_methL [Ct : Ctx X W] {g : Li → List D → Res D} (i : Nat) (hρ : ρ[i]? = some (cLi C d0)) (T : LisC X.K X.mg C) (hm : noFl f = true) (D : DefL X.prog X.w X.K X.mg X.base C f k (spR X.K X.mg C n rk g)) (hr : Room k X.A) (ha : AG X W ρ (e :: es) rs) (hl : (e :: es).length = n := by rfl)
    (hN : X.N[i]? = some x := by rfl) (hv : Vis X.env.scope x := by first | exact Or.inl rfl | exact Or.inr (Or.inl rfl) | exact Or.inr (Or.inr rfl)) (hd : (x == ("__debug__" : Str)) = false := by decide) (hcd : (x == ("__classdict__" : Str)) = false := by decide)
    (hst : starEach (e :: es) X.env = (false, eval e X.env) :: starEach es X.env := by rfl) (hpl : (backTo pos (starEach es X.env)).any (·.1) = false := by rfl) {pl : Sem Bool}
    (ht : eval (.Call (.Attribute (.Name x p2) f apos) (e :: es) [] pos) X.env = (do
      let ov ← eval (.Name x p2) X.env
      standAt apos.atName
      let (f, first) ← holding [ov] (getMethod ov f pl)
      callWith pos f first (backTo pos (starEach (e :: es) X.env)) (backToKw pos (keywordEach [] X.env))) := by rfl) :
    EG X W ρ rk (.Call (.Attribute (.Name x p2) f apos) (e :: es) [] pos) (onLi d0 fun l => rs.bd fun ds => (g l ds).bd (chT rk)) := by
  obtain ⟨f0, fd, ps, Fo, Mt, hb⟩ := D
  obtain ⟨al, ta, a1, a2⟩ := ha
  refine ⟨_, pe_methE (pl := pl) (pe_var hN hv hd hcd) T.cl Mt Fo hr hb (fun σ => L2N.passAt Ct.tk σ) a1 hst hpl ht, fun B H0 F H σ Q gd kn => ?_⟩
  obtain ⟨_, fh, ass, sl, nd, own⟩ := id gd
  obtain ⟨v, as, h1, h2, a, l, rfl, rfl, q⟩ := sl.get hρ
  rw [onLi_d] at kn
  have hn : ∀ b ∈ as, F b = none := fun b hb => (own b (List.mem_flatten.mpr ⟨as, List.mem_of_getElem? h2, hb⟩)).1
  obtain ⟨dx, r, e', u, cv, sv, xs, es', us, e0, qx⟩ := id q
  refine ⟨_, h1, a, dx, _, rfl, qx.ha, fl_no hm, a2 B H0 F H σ _ gd (Kn.bd kn acc_base fun ds vs F1 H1 er e1 s1 q1 k1 => ?_)⟩
  refine ⟨F1, a, as, l, vs, ds, rfl, s1, q.mono e1.ff fun b hb => Same.ne e1.hh (q.there b hb), fun b hb => by rw [e1.eq b (q.there b hb), hn b hb], q1, by rw [DpAll.length q1]; exact (al ds er).trans hl, k1.ns, fun d ed v F' H' x s ac => ?_, fun y ey H' C' c s => k1.xc y (by rw [ey]; rfl) H' C' c s⟩
  have k2 := k1.of_eq (show (g l ds).bd (chT rk) = chT rk d by rw [ed]; rfl)
  exact k2.ok d (chT_ok k2.ns).2 v F' H' x s ac
theorem eg_methL0 [Ct : Ctx X W] {g : Li → List D → Res D} (i : Nat) (hρ : ρ[i]? = some (cLi C d0)) (T : LisC X.K X.mg C) (hm : noFl f = true) (D : DefL X.prog X.w X.K X.mg X.base C f k (spR X.K X.mg C 0 rk g)) (hr : Room k X.A)
    (hN : X.N[i]? = some x := by rfl) (hv : Vis X.env.scope x := by first | exact Or.inl rfl | exact Or.inr (Or.inl rfl) | exact Or.inr (Or.inr rfl)) (hd : (x == ("__debug__" : Str)) = false := by decide) (hcd : (x == ("__classdict__" : Str)) = false := by decide) {pl : Sem Bool}
    (ht : eval (.Call (.Attribute (.Name x p2) f apos) [] [] pos) X.env = (do
      let ov ← eval (.Name x p2) X.env
      standAt apos.atName
      let (f, first) ← holding [ov] (getMethod ov f pl)
      callWith pos f first (backTo pos (starEach [] X.env)) (backToKw pos (keywordEach [] X.env))) := by rfl) :
    EG X W ρ rk (.Call (.Attribute (.Name x p2) f apos) [] [] pos) (onLi d0 fun l => (g l []).bd (chT rk)) := by
  obtain ⟨f0, fd, ps, Fo, Mt, hb⟩ := D
  refine ⟨_, pe_methE0 (pl := pl) (pe_var hN hv hd hcd) T.cl Mt Fo hr hb (fun σ => L2N.passAt Ct.tk σ) ht, fun B H0 F H σ Q gd k1 => ?_⟩
  obtain ⟨_, fh, ass, sl, nd, own⟩ := id gd
  obtain ⟨v, as, h1, h2, a, l, rfl, rfl, q⟩ := sl.get hρ
  rw [onLi_d] at k1
  have hn : ∀ b ∈ as, F b = none := fun b hb => (own b (List.mem_flatten.mpr ⟨as, List.mem_of_getElem? h2, hb⟩)).1
  obtain ⟨dx, r, e', u, cv, sv, xs, es', us, e0, qx⟩ := id q
  refine ⟨_, h1, a, dx, _, rfl, qx.ha, fl_no hm, F, a, as, l, [], [], rfl, fh, q, hn, .nil, rfl, k1.ns, fun d ed v F' H' x s ac => ?_, fun y ey H' C' c s => k1.xc y (by rw [ey]; rfl) H' C' c s⟩
  have k2 := k1.of_eq (show (g l []).bd (chT rk) = chT rk d by rw [ed]; rfl)
  exact k2.ok d (chT_ok k2.ns).2 v F' H' x s ac
/-- .. of a frozen one -/
theorem eg_methF [Ct : Ctx X W] {g : Li → List D → Res D} (i : Nat) (np : rk ≠ .P) (hρ : ρ[i]? = some (cFz C a ow l)) (T : LisC X.K X.mg C) (hm : noFl f = true) (D : DefL X.prog X.w X.K X.mg X.base C f k (spR X.K X.mg C n rk g)) (hr : Room k X.A) (ha : AG X W ρ (e :: es) rs) (hl : (e :: es).length = n := by rfl)
    (hN : X.N[i]? = some x := by rfl) (hv : Vis X.env.scope x := by first | exact Or.inl rfl | exact Or.inr (Or.inl rfl) | exact Or.inr (Or.inr rfl)) (hd : (x == ("__debug__" : Str)) = false := by decide) (hcd : (x == ("__classdict__" : Str)) = false := by decide)
    (hst : starEach (e :: es) X.env = (false, eval e X.env) :: starEach es X.env := by rfl) (hpl : (backTo pos (starEach es X.env)).any (·.1) = false := by rfl) {pl : Sem Bool}
    (ht : eval (.Call (.Attribute (.Name x p2) f apos) (e :: es) [] pos) X.env = (do
      let ov ← eval (.Name x p2) X.env
      standAt apos.atName
      let (f, first) ← holding [ov] (getMethod ov f pl)
      callWith pos f first (backTo pos (starEach (e :: es) X.env)) (backToKw pos (keywordEach [] X.env))) := by rfl) :
    EG X W ρ rk (.Call (.Attribute (.Name x p2) f apos) (e :: es) [] pos) (rs.bd fun ds => if noLs ds then (g l ds).bd (chT rk) else .stuck) := by
  obtain ⟨f0, fd, ps, Fo, Mt, hb⟩ := D
  obtain ⟨al, ta, a1, a2⟩ := ha
  refine ⟨_, pe_methE (pl := pl) (pe_var hN hv hd hcd) T.cl Mt Fo hr hb (fun σ => L2N.passAt Ct.tk σ) a1 hst hpl ht, fun B H0 F H σ Q gd kn => ?_⟩
  obtain ⟨_, fh, ass, sl, nd, own⟩ := id gd
  obtain ⟨v, as, h1, h2, _, h3, q⟩ := sl.get hρ
  subst h3
  obtain ⟨dx, r, e', u, cv, sv, xs, es', us, e0, qx⟩ := id q
  refine ⟨_, h1, a, dx, _, rfl, fh _ _ qx.ha, fl_no hm, a2 B H0 F H σ _ gd (Kn.bd kn acc_base fun ds vs F1 H1 er e1 s1 q1 k1 => ?_)⟩
  have q' : LiAt X.K C F1 F1 a ow l := q.mono e1.ff fun b hb => Same.ne e1.ff (q.there b hb)
  cases hL : noLs ds with
  | false => exact absurd (by rw [hL]; rfl) k1.ns
  | true =>
    have k2 := k1.of_eq (r' := (g l ds).bd (chT rk)) (by rw [hL]; rfl)
    refine ⟨unfz ow F1, a, ow, l, vs, ds, rfl, unfz_same.trans s1, q'.strip s1, fun b hb => unfz_in hb, Dp_strips q'.noT _ _ hL q1, by rw [DpAll.length q1]; exact (al ds er).trans hl, k2.ns, fun d ed v F' H' x s ac => ?_, fun y ey H' C' c s => k2.xc y (by rw [ey]; rfl) H' C' c s⟩
    have k3 := k2.of_eq (show (g l ds).bd (chT rk) = chT rk d by rw [ed]; rfl)
    obtain ⟨F2, x2, s2, ac2⟩ := ex_refz np q' s1 x s ac
    exact k3.ok d (chT_ok k3.ns).2 v F2 H' x2 s2 ac2
theorem eg_methF0 [Ct : Ctx X W] {g : Li → List D → Res D} (i : Nat) (np : rk ≠ .P) (hρ : ρ[i]? = some (cFz C a ow l)) (T : LisC X.K X.mg C) (hm : noFl f = true) (D : DefL X.prog X.w X.K X.mg X.base C f k (spR X.K X.mg C 0 rk g)) (hr : Room k X.A)
    (hN : X.N[i]? = some x := by rfl) (hv : Vis X.env.scope x := by first | exact Or.inl rfl | exact Or.inr (Or.inl rfl) | exact Or.inr (Or.inr rfl)) (hd : (x == ("__debug__" : Str)) = false := by decide) (hcd : (x == ("__classdict__" : Str)) = false := by decide) {pl : Sem Bool}
    (ht : eval (.Call (.Attribute (.Name x p2) f apos) [] [] pos) X.env = (do
      let ov ← eval (.Name x p2) X.env
      standAt apos.atName
      let (f, first) ← holding [ov] (getMethod ov f pl)
      callWith pos f first (backTo pos (starEach [] X.env)) (backToKw pos (keywordEach [] X.env))) := by rfl) :
    EG X W ρ rk (.Call (.Attribute (.Name x p2) f apos) [] [] pos) ((g l []).bd (chT rk)) := by
  obtain ⟨f0, fd, ps, Fo, Mt, hb⟩ := D
  refine ⟨_, pe_methE0 (pl := pl) (pe_var hN hv hd hcd) T.cl Mt Fo hr hb (fun σ => L2N.passAt Ct.tk σ) ht, fun B H0 F H σ Q gd k2 => ?_⟩
  obtain ⟨_, fh, ass, sl, nd, own⟩ := id gd
  obtain ⟨v, as, h1, h2, _, h3, q⟩ := sl.get hρ
  subst h3
  obtain ⟨dx, r, e', u, cv, sv, xs, es', us, e0, qx⟩ := id q
  refine ⟨_, h1, a, dx, _, rfl, fh _ _ qx.ha, fl_no hm, unfz ow F, a, ow, l, [], [], rfl, unfz_same.trans fh, q.strip fh, fun b hb => unfz_in hb, .nil, rfl, k2.ns, fun d ed v F' H' x s ac => ?_, fun y ey H' C' c s => k2.xc y (by rw [ey]; rfl) H' C' c s⟩
  have k3 := k2.of_eq (show (g l []).bd (chT rk) = chT rk d by rw [ed]; rfl)
  obtain ⟨F2, x2, s2, ac2⟩ := ex_refz np q fh x s ac
  exact k3.ok d (chT_ok k3.ns).2 v F2 H' x2 s2 ac2
end
end DL
namespace DL
open PySem L2 PySem.Spec PyProof.Rows
section
variable {P : Program} {w : World} {K : PySem.W.Frag} {mg : Str → Option Value} {base : Heap}
def envF {K : PySem.W.Frag} (C a : Addr) (ow : List Addr) (l : Li) (n : Nat) (ds : List D) : Env K := cFz C a ow l :: env0 n ds
/-- how a method begins: the object is frozen -/
theorem start_fz {C a : Addr} {ow : List Addr} {l : Li} {F H : Hp} {vs : List V} {ds : List D} {N : List Str} (fh : Same F H) (x : LiAt K C F H a ow l) (hn : ∀ b ∈ ow, F b = none) (dp : DpAll K F vs ds) (hN : N.length = m + 1) :
    Good (K := K) (fz ow F H) H (fz ow F H) H (envF C a ow l m ds) (L2.start N (.ref a :: vs)) := by
  refine ⟨Ex.refl _ _, fz_fh fh, List.replicate (1 + (ds.length + (m - ds.length))) [], ?_, by rw [flat_nil]; exact List.nodup_nil, fun b hb => by rw [flat_nil] at hb; cases hb⟩
  have q := slots_vals (n := 0) (DpAll.mono (fz_ff (H := H) hn) _ _ dp) (m - ds.length) (H := H)
  rw [Nat.add_comm, List.replicate_succ]
  have e : L2.start N (.ref a :: vs) = some (.ref a) :: (vs.map some ++ List.replicate (m - ds.length) none) := by
    unfold L2.start
    rw [hN, ← DpAll.length dp]
    simp [Nat.add_sub_add_right]
  rw [e]
  exact ⟨⟨rfl, rfl, x.froz hn⟩, q⟩
/-- .. and what it tells stands over what was frozen before -/
theorem end_fz {C a : Addr} {ow : List Addr} {l : Li} {F H F' H' : Hp} {rk : Md} {d : D} {v : V} (np : rk ≠ .P) (fh : Same F H) (x : LiAt K C F H a ow l) (hn : ∀ b ∈ ow, F b = none) (e : Ex (fz ow F H) H F' H') (s : Same F' H') (ac : Acc K rk H F' H' d v) (ok : okT rk d = true) :
    ∃ F2, Ex F H F2 H' ∧ Same F2 H' ∧ Acc K rk H F2 H' d v := by
  have hin : ∀ b ∈ ow, F' b = H b := fun b hb => by rw [e.eq b (x.there b hb), fz_in hb]
  have hT : ∀ b ∈ ow, ∀ ys, ¬ Rd F' b (.tup ys) := fun b hb ys z => by
    refine x.noT b hb ys ?_
    rcases z with z | ⟨o, z⟩
    · exact .inl (by rw [← hin b hb]; exact z)
    · exact .inr ⟨o, by rw [← hin b hb]; exact z⟩
  refine ⟨unfz ow F', ⟨fun b o q => ?_, e.hh, fun b hb => ?_⟩, unfz_same.trans s, ?_⟩
  · have hb : b ∉ ow := fun z => by rw [hn b z] at q; cases q
    rw [unfz_out hb]
    exact e.ff _ _ (by rw [fz_out hb]; exact q)
  · by_cases h : b ∈ ow
    · rw [unfz_in h, hn b h]
    · rw [unfz_out h, e.eq b hb, fz_out h]
  · cases rk with
    | V => exact Dp_strip hT _ _ (by cases d <;> exact ok) ac
    | T =>
      have ok' : noL d = true := by cases d <;> exact ok
      rcases ac with ⟨ds, b, xs, e1, e2, h1, h2⟩ | ⟨h0, h⟩
      · subst e1; cases ok'
      · exact .inr ⟨h0, Dp_strip hT _ _ ok' h⟩
    | O =>
      obtain ⟨as, q, w⟩ := ac
      refine ⟨as, ?_, fun b hb => ⟨(w b hb).1, ?_⟩⟩
      · rcases q with ⟨ds, e1, b, xs, e2, e3, h1, h2⟩ | ⟨h0, e1, h⟩
        · subst e1
          exact .inl ⟨ds, rfl, b, xs, e2, e3, h1, Dp_strips hT _ _ ok h2⟩
        · refine .inr ⟨h0, e1, Dp_strip hT _ _ ?_ h⟩
          cases d <;> first | exact ok | cases h0
      · by_cases h : b ∈ ow
        · exact unfz_in h
        · rw [unfz_out h]; exact (w b hb).2
    | P => exact absurd rfl np
/-- a method that only reads -/
theorem fn_okR {x qual : Str} {st : Stmt} {f : Addr} {fd : FuncData} {N ps : List Str} {k n m : Nat} {rk : Md} {C : Addr} {g : Li → List D → Res D} (np : rk ≠ .P) (F : Fun K x qual st f fd) (S : FnScope N ps (defScope st)) (hn : ps.length = n + 1) (hm : N.length = m + 1)
    (hb : ∀ (cdv : Value) (A : Around) (outer : List PySem.Env) (s : Shared) (H : Hp) (E : XK) (a : Addr) (ow : List Addr) (l : Li) (ds : List D), Room k (A.deeper (envOfC qual (defScope st) s.heap.objs.size f cdv)) → ds.length = n → Ctx (cxD P w K mg base N qual st f cdv A outer s H E) (Wf E) →
      SV (cxD P w K mg base N qual st f cdv A outer s H E) (Wf E) rk (envF C a ow l m ds) (defBody st) (g l ds) Fin.rt) : FnOk P w K mg base (L2N.CX P w) (k + 1) f fd ps (spR K mg C n rk g) := by
  obtain ⟨oc, od, kV, doc, pm, an, cdv, ct, osl, rfl, lk, hcd⟩ := F.ex
  refine fn_of lk hcd S (fun vs H Q E h => ?_) (fun A outer s H vs Q E hr h => ?_)
  · obtain ⟨_, _, _, _, rest, _, rfl, _, _, _, _, h, _⟩ := h
    rw [List.length_cons, h, hn]
  · obtain ⟨F0, a, ow, l, rest, ds, rfl, fh, q, hnn, dp, hl, ns, hok, hxc⟩ := h
    obtain ⟨t, t1, t2⟩ := hb cdv A outer s H E a ow l ds hr (by rw [← DpAll.length dp, hl]) (ctx_fn S.nd hr)
    refine ⟨t, t1, t2 _ H _ H _ _ (start_fz fh q hnn dp hm) ⟨fun z => ns (by rw [z]; rfl), fun d ed v F' H' x s ac => ?_, fun n en H' C σ' c s => hxc n en H' C c s⟩⟩
    rw [ed] at ns
    obtain ⟨F2, x2, s2, ac2⟩ := end_fz np fh q hnn x s ac (chT_ok ns).1
    exact hok d ed v F2 H' x2 s2 ac2
/-- .. that may come to its end -/
theorem fn_okRN {x qual : Str} {st : Stmt} {f : Addr} {fd : FuncData} {N ps : List Str} {k n m : Nat} {rk : Md} {C : Addr} {g : Li → List D → Res D} (np : rk ≠ .P) (F : Fun K x qual st f fd) (S : FnScope N ps (defScope st)) (hn : ps.length = n + 1) (hm : N.length = m + 1)
    (hb : ∀ (cdv : Value) (A : Around) (outer : List PySem.Env) (s : Shared) (H : Hp) (E : XK) (a : Addr) (ow : List Addr) (l : Li) (ds : List D), Room k (A.deeper (envOfC qual (defScope st) s.heap.objs.size f cdv)) → ds.length = n → Ctx (cxD P w K mg base N qual st f cdv A outer s H E) (Wf E) →
      ∃ (r : Res (Ctl Unit)) (ρe : Env K), g l ds = r.thenC id (fun _ => .ok .none) ∧ SV (cxD P w K mg base N qual st f cdv A outer s H E) (Wf E) rk (envF C a ow l m ds) (defBody st) r (fun s => match s with | Ctl.next _ => .nx ρe | .ret d => .rt d)) : FnOk P w K mg base (L2N.CX P w) (k + 1) f fd ps (spR K mg C n rk g) := by
  obtain ⟨oc, od, kV, doc, pm, an, cdv, ct, osl, rfl, lk, hcd⟩ := F.ex
  refine fn_of lk hcd S (fun vs H Q E h => ?_) (fun A outer s H vs Q E hr h => ?_)
  · obtain ⟨_, _, _, _, rest, _, rfl, _, _, _, _, h, _⟩ := h
    rw [List.length_cons, h, hn]
  · obtain ⟨F0, a, ow, l, rest, ds, rfl, fh, q, hnn, dp, hl, ns, hok, hxc⟩ := h
    obtain ⟨r, ρe, eg, t, t1, t2⟩ := hb cdv A outer s H E a ow l ds hr (by rw [← DpAll.length dp, hl]) (ctx_fn S.nd hr)
    rw [eg] at ns hok hxc
    refine ⟨t, t1, t2 _ H _ H _ _ (start_fz fh q hnn dp hm) ⟨fun z => ns (by rw [z]; rfl), fun c ec => ?_, fun n en H' C σ' c s => hxc n (by rw [en]; rfl) H' C c s⟩⟩
    subst ec
    cases c with
    | next u =>
      intro F' H' σ' g'
      obtain ⟨F2, x2, s2, ac2⟩ := end_fz (rk := rk) (d := .none) (v := .non) np fh q hnn g'.ex g'.fh (acc_flat' rfl rfl .non) (chT_ok ns).1
      exact hok .none rfl .non F2 H' x2 s2 ac2
    | ret d =>
      intro v F' H' x s ac
      obtain ⟨F2, x2, s2, ac2⟩ := end_fz np fh q hnn x s ac (chT_ok ns).1
      exact hok d rfl v F2 H' x2 s2 ac2
end
/-! ### a method that changes its object at its end -/
structure KM (X : Cx) (W : WX) (B H0 : Hp) (C a : Addr) (ow : List Addr) (r : Res Li) (D : Ends) : Prop where
  ns : r ≠ .stuck
  ok : ∀ l', r = .ok l' → ∀ σ F' H' ow', MutTo (unfz ow B) H0 ow F' H' ow' → LiAt X.K C F' H' a ow' l' → D.nx σ H'
  xc : ∀ n, r = .exc n → ∀ H' C σ', X.mg n = some C → Same H0 H' → W C none σ' H'
structure SM (X : Cx) (W : WX) (C a : Addr) (ow : List Addr) (ρ : Env X.K) (ss : List Stmt) (r : Res Li) : Prop where
  ex : ∃ t, PSs X ss t ∧ ∀ B H0 F H σ D, Good B H0 F H ρ σ → KM X W B H0 C a ow r D → t D σ H
section
variable {X : Cx} {W : WX} {ρ : Env X.K} {C a : Addr} {ow : List Addr} {l : Li} {st : Stmt} {rest : List Stmt} {T : Type}
theorem sm_cons {rk : Md} {r1 : Res T} {out : T → Env X.K} {k : T → Res Li} (h : S1 X W rk ρ st r1 (fun s => .nx (out s))) (hr : ∀ s, SM X W C a ow (out s) rest (k s)) : SM X W C a ow ρ (st :: rest) (r1.bd k) := by
  obtain ⟨t, h1, h2⟩ := h
  have hu : PSs X rest (fun D σ H => ∃ s B H0 F, Good B H0 F H (out s) σ ∧ KM X W B H0 C a ow (k s) D) := ⟨fun pins s' σ H D I ⟨s, B, H0, F, g, q⟩ => by
    obtain ⟨u, u1, u2⟩ := hr s
    exact u1.run pins s' σ H D I (u2 B H0 F H σ D g q)⟩
  refine ⟨_, pss_cons h1 hu, fun B H0 F H σ D g q => h2 B H0 F H σ _ g ⟨fun z => q.ns (by rw [z]; rfl), fun s es F' H' σ' g' => ?_, fun n en => q.xc n (by rw [en]; rfl)⟩⟩
  exact ⟨s, B, H0, F', g', ⟨fun z => q.ns (by rw [es]; exact z), fun l' e => q.ok l' (by rw [es]; exact e), fun n e => q.xc n (by rw [es]; exact e)⟩⟩
theorem mut_base {B H0 F H F' H' : Hp} {ow' : List Addr} (e : Ex B H0 F H) (m : MutTo (unfz ow F) H ow F' H' ow') : MutTo (unfz ow B) H0 ow F' H' ow' := by
  refine ⟨fun b o q => ?_, m.fh, fun b o q hb => m.keep b o (e.hh _ _ q) hb, fun b hb => ?_, fun b hb => ⟨(m.ow b hb).1, ?_⟩, fun b hb => m.nf b (Same.ne' e.hh hb)⟩
  · have hb : b ∉ ow := fun z => by rw [unfz_in z] at q; cases q
    rw [unfz_out hb] at q
    exact m.ff _ _ (by rw [unfz_out hb]; exact e.ff _ _ q)
  · rw [m.eq b (Same.ne' e.hh hb)]
    by_cases h : b ∈ ow
    · rw [unfz_in h, unfz_in h]
    · rw [unfz_out h, unfz_out h, e.eq b hb]
  · rcases (m.ow b hb).2 with z | z
    · exact .inl z
    · right
      cases q : H0 b with
      | none => rfl
      | some o => rw [e.hh _ _ q] at z; cases z
variable {x f : Str} {p p2 pos apos cpos : Pos} {e : Expr} {es : List Expr} {rs : Res (List D)} {n k : Nat}
/-- self.m(e, ..), the last one of a method -/
theorem sm_last [Ct : Ctx X W] {g : Li → List D → Res (D × Li)} (i : Nat) (hρ : ρ[i]? = some (cFz C a ow l)) (T : LisC X.K X.mg C) (hm : noFl f = true) (D : DefL X.prog X.w X.K X.mg X.base C f k (spM X.K X.mg C n g)) (hr : Room k X.A) (ha : AG X W ρ (e :: es) rs) (hl : (e :: es).length = n := by rfl)
    (hN : X.N[i]? = some x := by rfl) (hv : Vis X.env.scope x := by first | exact Or.inl rfl | exact Or.inr (Or.inl rfl) | exact Or.inr (Or.inr rfl)) (hd : (x == ("__debug__" : Str)) = false := by decide) (hcd : (x == ("__classdict__" : Str)) = false := by decide)
    (hst : starEach (e :: es) X.env = (false, eval e X.env) :: starEach es X.env := by rfl) (hpl : (backTo cpos (starEach es X.env)).any (·.1) = false := by rfl) {pl : Sem Bool}
    (ht : eval (.Call (.Attribute (.Name x p2) f apos) (e :: es) [] cpos) X.env = (do
      let ov ← eval (.Name x p2) X.env
      standAt apos.atName
      let (f, first) ← holding [ov] (getMethod ov f pl)
      callWith cpos f first (backTo cpos (starEach (e :: es) X.env)) (backToKw cpos (keywordEach [] X.env))) := by rfl)
    (hsw : swapsWith (.Call (.Attribute (.Name x p2) f apos) (e :: es) [] cpos) none pos.line X.env = pure false := by rfl) :
    SM X W C a ow ρ [.Expr (.Call (.Attribute (.Name x p2) f apos) (e :: es) [] cpos) pos] (rs.bd fun ds => if noLs ds then (g l ds).bd fun s => .ok s.2 else .stuck) := by
  obtain ⟨f0, fd, ps, Fo, Mt, hb⟩ := D
  obtain ⟨al, ta, a1, a2⟩ := ha
  refine ⟨_, pss_one (ps_expr (pe_methE (pl := pl) (pe_var hN hv hd hcd) T.cl Mt Fo hr hb (fun σ => L2N.passAt Ct.tk σ) a1 hst hpl ht) hsw), fun B H0 F H σ Dd gd kn => ?_⟩
  obtain ⟨_, fh, ass, sl, nd, own⟩ := id gd
  obtain ⟨v, as, h1, h2, _, h3, q⟩ := sl.get hρ
  subst h3
  obtain ⟨dx, r, e', u, cv, sv, xs, es', us, e0, qx⟩ := id q
  refine ⟨_, h1, a, dx, _, rfl, fh _ _ qx.ha, fl_no hm, a2 B H0 F H σ _ gd ⟨fun z => kn.ns (by rw [z]; rfl), fun ds er vs F1 H1 e1 s1 q1 => ?_, fun y ey H' C' c s => kn.xc y (by rw [ey]; rfl) H' C' σ c (gd.ex.hh.trans s)⟩⟩
  have q' : LiAt X.K C F1 F1 a ow l := q.mono e1.ff fun b hb => Same.ne e1.ff (q.there b hb)
  subst er
  obtain ⟨k1, k2, k3⟩ := kn
  simp only [bd_ok] at k1 k2 k3
  cases hL : noLs ds with
  | false => exact absurd (by rw [hL]; rfl) k1
  | true =>
    rw [hL, if_pos rfl] at k1 k2 k3
    refine ⟨unfz ow F1, a, ow, l, vs, ds, rfl, unfz_same.trans s1, q'.strip s1, fun b hb => unfz_in hb, Dp_strips q'.noT _ _ hL q1, by rw [DpAll.length q1]; exact (al ds rfl).trans hl, fun z => k1 (by rw [z]; rfl), fun d l' ed v F' H' ow' mt x dp => ?_, fun y ey H' C' c s => k3 y (by rw [ey]; rfl) H' C' σ c ((gd.ex.hh.trans e1.hh).trans s)⟩
    exact k2 l' (by rw [ed]; rfl) σ F' H' ow' (mut_base (gd.ex.trans e1) mt) x
end
section
variable {P : Program} {w : World} {K : PySem.W.Frag} {mg : Str → Option Value} {base : Heap}
theorem fn_okM {x qual : Str} {st : Stmt} {f : Addr} {fd : FuncData} {N ps : List Str} {k n m : Nat} {C : Addr} {g : Li → List D → Res Li} (F : Fun K x qual st f fd) (S : FnScope N ps (defScope st)) (hn : ps.length = n + 1) (hm : N.length = m + 1)
    (hb : ∀ (cdv : Value) (A : Around) (outer : List PySem.Env) (s : Shared) (H : Hp) (E : XK) (a : Addr) (ow : List Addr) (l : Li) (ds : List D), Room k (A.deeper (envOfC qual (defScope st) s.heap.objs.size f cdv)) → ds.length = n → Ctx (cxD P w K mg base N qual st f cdv A outer s H E) (Wf E) →
      SM (cxD P w K mg base N qual st f cdv A outer s H E) (Wf E) C a ow (envF C a ow l m ds) (defBody st) (g l ds)) : FnOk P w K mg base (L2N.CX P w) (k + 1) f fd ps (spM K mg C n fun l ds => (g l ds).bd fun l' => .ok (.none, l')) := by
  obtain ⟨oc, od, kV, doc, pm, an, cdv, ct, osl, rfl, lk, hcd⟩ := F.ex
  refine fn_of lk hcd S (fun vs H Q E h => ?_) (fun A outer s H vs Q E hr h => ?_)
  · obtain ⟨_, _, _, _, rest, _, rfl, _, _, _, _, h, _⟩ := h
    rw [List.length_cons, h, hn]
  · obtain ⟨F0, a, ow, l, rest, ds, rfl, fh, q, hnn, dp, hl, ns, hok, hxc⟩ := h
    obtain ⟨t, t1, t2⟩ := hb cdv A outer s H E a ow l ds hr (by rw [← DpAll.length dp, hl]) (ctx_fn S.nd hr)
    refine ⟨t, t1, t2 _ H _ H _ _ (start_fz fh q hnn dp hm) ⟨fun z => ns (by show (g l ds).bd _ = _; rw [z]; rfl), fun l' el σ F' H' ow' mt x => ?_, fun n en H' C σ' c s => hxc n (by show (g l ds).bd _ = _; rw [en]; rfl) H' C c s⟩⟩
    have e : unfz ow (fz ow F0 H) = F0 := by
      funext b
      by_cases h : b ∈ ow
      · rw [unfz_in h, hnn b h]
      · rw [unfz_out h, fz_out h]
    rw [e] at mt
    exact hok .none l' (by show (g l ds).bd _ = _; rw [el]; rfl) .non F' H' ow' mt x .non
end
end DL
namespace DL
open PySem L2 PySem.Spec PyProof.Rows
/-- another entry at a place -/
def putL (l : Li) (num ent : D) : Res Li := match num with
  | .int i => match L2.ixN l.row.length i with
    | some j => match l.row[j]? with
      | some old => if decide (l.earlier.length < 16777216) && noL ent then .ok { l with row := l.row.set j ent, earlier := l.earlier ++ [.tuple [num, old]], undone := [] } else .stuck
      | none => .stuck
    | none => .stuck
  | _ => .stuck
theorem noLs_mem : ∀ {ds : List D} {d : D}, noLs ds = true → d ∈ ds → noL d = true
  | e :: ds, d, h, hd => by
    have h : (noL e && noLs ds) = true := h
    rw [Bool.and_eq_true] at h
    rcases List.mem_cons.mp hd with rfl | hd
    · exact h.1
    · exact noLs_mem h.2 hd
theorem noLs_of : ∀ {ds : List D}, (∀ d ∈ ds, noL d = true) → noLs ds = true
  | [], _ => rfl
  | e :: ds, h => by
    show (noL e && noLs ds) = true
    rw [h e (by simp), noLs_of fun d hd => h d (by simp [hd])]
    rfl
theorem noLs_app {a b : List D} (ha : noLs a = true) (hb : noLs b = true) : noLs (a ++ b) = true := noLs_of fun d hd => (List.mem_append.mp hd).elim (noLs_mem ha) (noLs_mem hb)
theorem noLs_set {a : List D} {j : Nat} {d : D} (ha : noLs a = true) (hd : noL d = true) : noLs (a.set j d) = true := noLs_of fun x hx => (List.mem_or_eq_of_mem_set hx).elim (noLs_mem ha) fun e => e ▸ hd
section
variable {X : Cx} {W : WX} {ρ : Env X.K} {C a : Addr} {ow : List Addr} {l : Li} {num ent : D} {kk : Nat} {p1 p2 p3 p4 p5 p6 p7 p8 p9 p10 p11 q1 q2 q3 q4 q5 q6 r1 r2 r3 r4 : Pos}
theorem sm_put [Ct : Ctx X W] (T : LisC X.K X.mg C) (h0 : ρ[0]? = some (cFz C a ow l)) (h1 : ρ[1]? = some (cVal num)) (h2 : ρ[2]? = some (cVal ent))
    (n0 : X.N[0]? = some ("self" : Str)) (n1 : X.N[1]? = some ("number" : Str)) (n2 : X.N[2]? = some ("entry" : Str)) (v0 : Vis X.env.scope "self") (v1 : Vis X.env.scope "number") (v2 : Vis X.env.scope "entry")
    (hb1 : attributeBase (.Name "self" p1) "earlier" X.env (eval (.Name "self" p1) X.env) = eval (.Name "self" p1) X.env := by rfl)
    (hb2 : attributeBase (.Name "self" p5) "heard_row" X.env (eval (.Name "self" p5) X.env) = eval (.Name "self" p5) X.env := by rfl)
    (hb3 : attributeBase (.Name "self" q1) "heard_row" X.env (eval (.Name "self" q1) X.env) = eval (.Name "self" q1) X.env := by rfl)
    (hbase : attributeBase (.Attribute (.Name "self" p1) "earlier" p2) "append" X.env (eval (.Attribute (.Name "self" p1) "earlier" p2) X.env) = eval (.Attribute (.Name "self" p1) "earlier" p2) X.env := by rfl)
    (hfew : ((backTo p10 (starEach [.Tuple [.Name "number" p4, .Subscript (.Attribute (.Name "self" p5) "heard_row" p6) (.Name "number" p7) p8] kk p9] X.env)).all (fun x => !x.1) && (backToKw p10 (keywordEach [] X.env)).all (fun x => x.1.isSome) && decide (([.Tuple [.Name "number" p4, .Subscript (.Attribute (.Name "self" p5) "heard_row" p6) (.Name "number" p7) p8] kk p9] : List Expr).length + ([] : List Keyword).length + (if ([] : List Keyword).isEmpty then 0 else 1) < 30)) = true := by rfl)
    (hline : (p3.endLine == p10.line) = true := by rfl) (hst : starEach [.Tuple [.Name "number" p4, .Subscript (.Attribute (.Name "self" p5) "heard_row" p6) (.Name "number" p7) p8] kk p9] X.env = (false, eval (.Tuple [.Name "number" p4, .Subscript (.Attribute (.Name "self" p5) "heard_row" p6) (.Name "number" p7) p8] kk p9) X.env) :: starEach [] X.env := by rfl)
    (hst1 : starEach [.Name "number" p4, .Subscript (.Attribute (.Name "self" p5) "heard_row" p6) (.Name "number" p7) p8] X.env = (false, eval (.Name "number" p4) X.env) :: starEach [.Subscript (.Attribute (.Name "self" p5) "heard_row" p6) (.Name "number" p7) p8] X.env := by rfl)
    (hst2 : starEach [.Subscript (.Attribute (.Name "self" p5) "heard_row" p6) (.Name "number" p7) p8] X.env = (false, eval (.Subscript (.Attribute (.Name "self" p5) "heard_row" p6) (.Name "number" p7) p8) X.env) :: starEach [] X.env := by rfl)
    (hpl : (backTo p10 (starEach [] X.env)).any (·.1) = false := by rfl)
    (hsw1 : swapsWith (.Call (.Attribute (.Attribute (.Name "self" p1) "earlier" p2) "append" p3) [.Tuple [.Name "number" p4, .Subscript (.Attribute (.Name "self" p5) "heard_row" p6) (.Name "number" p7) p8] kk p9] [] p10) none p11.line X.env = pure false := by rfl)
    (ha : ∀ v, assign (.Subscript (.Attribute (.Name "self" q1) "heard_row" q2) (.Name "number" q3) q4) X.env v = (do
      let ov ← holding [v] (eval (.Attribute (.Name "self" q1) "heard_row" q2) X.env)
      let iv ← holding [v, ov] (eval (.Name "number" q3) X.env)
      standAt q4
      holding [v, ov, iv] (setItem ov iv v)
      release [v, ov, iv] []) := by intro _; rfl)
    (hs2 : swapsWithSole [.Subscript (.Attribute (.Name "self" q1) "heard_row" q2) (.Name "number" q3) q4] (.Name "entry" q5) q6.line X.env = pure false := by rfl) (hw2 : swappedStores [.Subscript (.Attribute (.Name "self" q1) "heard_row" q2) (.Name "number" q3) q4] (.Name "entry" q5) X.env = pure none := by rfl)
    (h12 : (assignEach [.Subscript (.Attribute (.Name "self" q1) "heard_row" q2) (.Name "number" q3) q4] X.env).map (·.2) = [assign (.Subscript (.Attribute (.Name "self" q1) "heard_row" q2) (.Name "number" q3) q4) X.env] := by rfl)
    (hs3 : swapsWith (.List [] r3) (some (.Attribute (.Name "self" r1) "undone" r2)) r4.line X.env = pure false := by rfl) :
    SM X W C a ow ρ [.Expr (.Call (.Attribute (.Attribute (.Name "self" p1) "earlier" p2) "append" p3) [.Tuple [.Name "number" p4, .Subscript (.Attribute (.Name "self" p5) "heard_row" p6) (.Name "number" p7) p8] kk p9] [] p10) p11,
      .Assign [.Subscript (.Attribute (.Name "self" q1) "heard_row" q2) (.Name "number" q3) q4] (.Name "entry" q5) q6, .Assign [.Attribute (.Name "self" r1) "undone" r2] (.List [] r3) r4] (putL l num ent) := by
  have eA : EG X W ρ .V (.Tuple [.Name "number" p4, .Subscript (.Attribute (.Name "self" p5) "heard_row" p6) (.Name "number" p7) p8] kk p9) ((consR (.ok num) (consR (bd2 (.ok (.list l.row)) (.ok num) ixV) (.ok []))).bd tupR) :=
    eg_tup (ag_cons (eg_var 1 h1 n1 v1) (ag_cons (eg_ix (eg_fz 0 (fun l => .list l.row) h0 T.cl T.nR fz_row n0 v0 (by decide) (by decide) hb2).vt (eg_var 1 h1 n1 v1).vt) ag_nil hst2) hst1)
  obtain ⟨ta, a1, a2⟩ := eA
  refine ⟨_, pss_cons (ps_expr (pe_bm PySem.F.plainAttrs_list PySem.F.slot_list_append PySem.F.type_list_append mt_append (pe_fld (pe_var n0 v0 (by decide) (by decide)) hb1) (pa_cons a1 pa_nil hst) hbase hfew hline hst hpl) hsw1)
    (pss_cons (ps_asg (pe_var n2 v2 (by decide) (by decide)) (pg_sub (pe_fld (pe_var n0 v0 (by decide) (by decide)) hb3) (pe_var n1 v1 (by decide) (by decide)) set_list ha) hs2 hw2 h12)
    (pss_one (ps_fld (pe_var n0 v0 (by decide) (by decide)) (pe_lst pa_nil) hs3))), fun B H0 F H σ D gd kn => ?_⟩
  obtain ⟨_, fh, ass, sl, nd, own⟩ := id gd
  obtain ⟨v, as, s0, _, _, hv, q⟩ := sl.get h0
  subst hv
  obtain ⟨w1, _, s1, _, _, x1, e1, dp1⟩ := sl.get h1
  subst e1
  obtain ⟨w2, _, s2, _, _, x2, e2, dp2⟩ := sl.get h2
  subst e2
  obtain ⟨dx, r, e, u, cv, sv, xs, es, us, eow, qx⟩ := id q
  -- what is asked of the mirror
  obtain ⟨i, rfl⟩ : ∃ i, num = .int i := by
    cases num <;> first | exact ⟨_, rfl⟩ | exact absurd rfl kn.ns
  obtain ⟨j, hj⟩ : ∃ j, L2.ixN l.row.length i = some j := by
    cases hj : L2.ixN l.row.length i with
    | none => exact absurd (by simp only [putL, hj]) kn.ns
    | some j => exact ⟨j, rfl⟩
  obtain ⟨old, ho⟩ : ∃ old, l.row[j]? = some old := by
    cases ho : l.row[j]? with
    | none => exact absurd (by simp only [putL, hj, ho]) kn.ns
    | some o => exact ⟨o, rfl⟩
  have hc : (decide (l.earlier.length < 16777216) && noL ent) = true := by
    cases hc : (decide (l.earlier.length < 16777216) && noL ent) with
    | false => exact absurd (by simp only [putL, hj, ho, hc]; rfl) kn.ns
    | true => rfl
  have eP : putL l (.int i) ent = .ok { l with row := l.row.set j ent, earlier := l.earlier ++ [.tuple [.int i, old]], undone := [] } := by simp only [putL, hj, ho, hc, if_true]
  rw [Bool.and_eq_true, decide_eq_true_eq] at hc
  have ok := qx.ok
  simp only [okLi, Bool.and_eq_true] at ok
  obtain ⟨o1, o2, o3, o4, o5⟩ := ok
  have hold : noL old = true := noLs_mem o3 (List.mem_of_getElem? ho)
  have eR : ((consR (Res.ok (PyData.int i)) (consR (bd2 (.ok (.list l.row)) (.ok (.int i)) ixV) (.ok []))).bd tupR) = .ok (.tuple [.int i, old]) := by
    have : ixV (.list l.row) (.int i) = .ok old := by
      show (match L2.atI l.row i with | some d => Res.ok d | none => .stuck) = _
      unfold L2.atI
      rw [hj]
      show (match l.row[j]? with | some d => Res.ok d | none => .stuck) = _
      rw [ho]
    rw [bd2_ok, this]
    rfl
  cases dp1
  -- self.earlier.append((number, self.heard_row[number]))
  refine ⟨_, s0, a, C, dx, _, _, rfl, fh _ _ qx.ha, T.cl, T.nE, fl_earlier, .inl ⟨rfl, _, SqL.of (fh _ _ qx.he)⟩, a2 B H0 F H σ _ gd ⟨(fun z => by rw [eR] at z; cases z), (fun d ed v1 F1 H1 ex1 sm1 dv => ?_), fun n en => by rw [eR] at en; cases en⟩⟩
  rw [eR] at ed
  cases ed
  have qx1 : LiX X.K C F1 F1 a dx r e u cv sv xs es us l := qx.mono ex1.ff fun b hb => Same.ne ex1.ff (q.there b (by rw [eow]; exact hb))
  have q1 : LiAt X.K C F1 F1 a ow l := ⟨dx, r, e, u, cv, sv, xs, es, us, eow, qx1⟩
  have hA := sm1 _ _ qx1.ha
  have hR := sm1 _ _ qx1.hr
  have hE := sm1 _ _ qx1.he
  have hU := sm1 _ _ qx1.hu
  have nae : a ≠ e := fun z => by rw [z, hE] at hA; cases hA
  have nar : a ≠ r := fun z => by rw [z, hR] at hA; cases hA
  have nau : a ≠ u := fun z => by rw [z, hU] at hA; cases hA
  have lE : es.length = l.earlier.length := DpAll.length qx1.de
  refine ⟨e, es, v1, rfl, rfl, hE, by rw [lE, PySem.sizeLine_eq]; exact hc.1, ?_⟩
  -- self.heard_row[number] = entry
  refine ⟨_, s2, _, s0, a, C, dx, _, _, rfl, (by rw [upd_ne nae]; exact hA), T.cl, T.nR, fl_row, _, s1, r, xs, i, j, rfl, rfl, (by rw [upd_ne qx1.re]; exact hR), (by rw [DpAll.length qx1.dr]; exact hj), ?_⟩
  -- self.undone = []
  refine ⟨Nat.zero_le _, fun u' hu' => ?_⟩
  have nu'r : u' ≠ r := fun z => by rw [z, upd_same] at hu'; cases hu'
  have nu'e : u' ≠ e := fun z => by rw [z, upd_ne (Ne.symm qx1.re), upd_same] at hu'; cases hu'
  have hu1 : H1 u' = none := by rw [upd_ne nu'r, upd_ne nu'e] at hu'; exact hu'
  have nu'a : u' ≠ a := fun z => by rw [z, hA] at hu1; cases hu1
  refine ⟨_, s0, a, C, dx, _, rfl, (by rw [upd_ne (Ne.symm nu'a), upd_ne nar, upd_ne nae]; exact hA), T.cl, T.nU, (by show 5 < 1000; decide), ?_⟩
  rw [fl_put]
  have hnT := q1.noT
  have sU : Same (unfz ow F) (unfz ow F1) := fun b o z => by
    have hb : b ∉ ow := fun w => by rw [unfz_in w] at z; cases z
    rw [unfz_out hb] at z ⊢
    exact ex1.ff _ _ z
  have inow : ∀ b, b = a ∨ b = r ∨ b = e ∨ b = u → b ∈ ow := fun b hb => by rw [eow]; simpa using hb
  refine kn.ok _ eP σ (unfz ow F1) _ [a, r, e, u'] (mut_base (gd.ex.trans ex1) ⟨Same.refl _, fun b o z => ?_, fun b o z hb => ?_, fun b hb => rfl, fun b hb => ?_, fun b hb => upd_nf (upd_nf (upd_nf (upd_nf hb)))⟩) ⟨dx, r, e, u', cv, sv, xs.set j x2, es ++ [v1], [], rfl, ?_⟩
  · have hb : b ∉ ow := fun w => by rw [unfz_in w] at z; cases z
    have na : b ≠ a := fun w => hb (inow b (.inl w))
    have nr : b ≠ r := fun w => hb (inow b (.inr (.inl w)))
    have ne : b ≠ e := fun w => hb (inow b (.inr (.inr (.inl w))))
    rw [unfz_out hb] at z
    have z1 := sm1 _ _ z
    have nu : b ≠ u' := fun w => by rw [w, hu1] at z1; cases z1
    rw [upd_ne na, upd_ne nu, upd_ne nr, upd_ne ne]
    exact z1
  · have na : b ≠ a := fun w => hb (inow b (.inl w))
    have nr : b ≠ r := fun w => hb (inow b (.inr (.inl w)))
    have ne : b ≠ e := fun w => hb (inow b (.inr (.inr (.inl w))))
    have nu : b ≠ u' := fun w => by rw [w, hu1] at z; cases z
    rw [upd_ne na, upd_ne nu, upd_ne nr, upd_ne ne]
    exact z
  · simp only [List.mem_cons, List.not_mem_nil, or_false] at hb
    rcases hb with rfl | rfl | rfl | rfl
    · exact ⟨unfz_in (inow _ (.inl rfl)), .inl (inow _ (.inl rfl))⟩
    · exact ⟨unfz_in (inow _ (.inr (.inl rfl))), .inl (inow _ (.inr (.inl rfl)))⟩
    · exact ⟨unfz_in (inow _ (.inr (.inr (.inl rfl)))), .inl (inow _ (.inr (.inr (.inl rfl))))⟩
    · exact ⟨Same.free (unfz_same.trans sm1) hu1, .inr hu1⟩
  · have de := Dp_strips hnT _ _ o4 qx1.de
    have dr := Dp_strips hnT _ _ o3 qx1.dr
    refine ⟨upd_same, ?_, ?_, ?_, Dp_strip hnT _ _ o1 qx1.dc, Dp_strip hnT _ _ o2 qx1.ds, DpAll.set (Dp_strip hnT _ _ hc.2 (Dp.mono ex1.ff _ _ dp2)) _ dr, DpAll.append de (.cons (Dp_strip hnT _ _ (by show (noL (.int i) && (noL old && true)) = true; rw [hold]; rfl) dv) .nil), .nil, qx1.re, Ne.symm nu'r, Ne.symm nu'e, ?_⟩
    · rw [upd_ne (Ne.symm nar), upd_ne (Ne.symm nu'r), upd_same]
    · rw [upd_ne (Ne.symm nae), upd_ne (Ne.symm nu'e), upd_ne (Ne.symm qx1.re), upd_same]
    · rw [upd_ne nu'a, upd_same]
    · simp only [okLi, Bool.and_eq_true]
      refine ⟨o1, o2, noLs_set o3 hc.2, noLs_app o4 ?_, rfl⟩
      show ((noL (.int i) && (noL old && true)) && true) = true
      rw [hold]
      rfl
end
end DL
namespace DL
open PySem L2 PySem.Spec PyProof.Rows
def srcL (b : Bool) (l : Li) : List D := if b then l.earlier else l.undone
def dstL (b : Bool) (l : Li) : List D := if b then l.undone else l.earlier
def mkT (b : Bool) (l : Li) (row ss os : List D) : Li := if b then { l with row := row, earlier := ss, undone := os } else { l with row := row, earlier := os, undone := ss }
def pr2 : D → Option (Int × D)
  | .tuple [.int i, e] => some (i, e)
  | _ => none
theorem pr2_of {d : D} {i : Int} {e : D} (h : pr2 d = some (i, e)) : d = .tuple [.int i, e] := by
  unfold pr2 at h
  split at h
  · cases h; rfl
  · cases h
/-- the last change is turned -/
def turnL (b : Bool) (l : Li) : Res Li := ((bd2 (.ok (.list (srcL b l))) (.ok (.list [])) eqV).bd bl).bd fun t => if t then .exc "NothingLeft" else
  match ((srcL b l)[(srcL b l).length - 1]?).bind pr2 with
  | some (i, ent) => match L2.ixN l.row.length i with
    | some j => match l.row[j]? with
      | some old => if decide ((dstL b l).length < 16777216) then .ok (mkT b l (l.row.set j ent) (srcL b l).dropLast (dstL b l ++ [.tuple [.int i, old]])) else .stuck
      | none => .stuck
    | none => .stuck
  | none => .stuck
def spT (K : PySem.W.Frag) (mg : Str → Option Value) (C : Addr) (b : Bool) : Sp := fun vs H Q E => ∃ F a l dx r e u cv sv xs es us, vs = [.ref a, .ref (if b then e else u), .ref (if b then u else e)] ∧ Same F H ∧ LiX K C F H a dx r e u cv sv xs es us l ∧ (∀ c ∈ [a, r, e, u], F c = none) ∧ turnL b l ≠ .stuck ∧
  (∀ l', turnL b l = .ok l' → ∀ F' H' ow', MutTo F H [a, r, e, u] F' H' ow' → LiAt K C F' H' a ow' l' → Q .non H') ∧ ∀ x, turnL b l = .exc x → ∀ H' C', mg x = some C' → Same H H' → E C' none H'
/-- the same, with names for both lists -/
structure LiY (K : PySem.W.Frag) (C : Addr) (F H : Hp) (a dx r s o : Addr) (fs : List (Str × V)) (xs ss os : List V) (row dss dos : List D) : Prop where
  ha : H a = some (.ins C dx fs)
  fr : fs.lookup ("heard_row" : Str) = some (.ref r)
  hr : H r = some (.lst xs)
  hs : H s = some (.lst ss)
  ho : H o = some (.lst os)
  dr : DpAll K F xs row
  ds : DpAll K F ss dss
  do_ : DpAll K F os dos
  rs : r ≠ s
  ro : r ≠ o
  so : s ≠ o
theorem LiX.y {K : PySem.W.Frag} {C : Addr} {F H : Hp} {a dx r e u : Addr} {cv sv : V} {xs es us : List V} {l : Li} (b : Bool) (x : LiX K C F H a dx r e u cv sv xs es us l) :
    LiY K C F H a dx r (if b then e else u) (if b then u else e) (fl cv sv r e u) xs (if b then es else us) (if b then us else es) l.row (srcL b l) (dstL b l) := by
  cases b
  · exact ⟨x.ha, fl_row, x.hr, x.hu, x.he, x.dr, x.du, x.de, x.ru, x.re, Ne.symm x.eu⟩
  · exact ⟨x.ha, fl_row, x.hr, x.he, x.hu, x.dr, x.de, x.du, x.re, x.ru, x.eu⟩
theorem keeps_at {σ σ' : L2.St} {vs : List Nat} (k : Keeps vs σ σ') {j : Nat} (h : j ∉ vs) : σ'[j]? = σ[j]? := by
  have e := congrArg (fun z : L2.St => z[j]?) k
  simp only [wipe_get] at e
  rwa [if_neg (fun z => h z.1), if_neg (fun z => h z.1)] at e
structure TM (X : Cx) (W : WX) (C : Addr) (b : Bool) (ss : List Stmt) : Prop where
  ex : ∃ t, PSs X ss t ∧ ∀ F0 H a l dx r e u cv sv xs es us D, Same F0 H → LiX X.K C F0 H a dx r e u cv sv xs es us l → (∀ c ∈ [a, r, e, u], F0 c = none) → turnL b l ≠ .stuck →
    (∀ l', turnL b l = .ok l' → ∀ F' H' ow' σ', MutTo F0 H [a, r, e, u] F' H' ow' → LiAt X.K C F' H' a ow' l' → D.nx σ' H') → (∀ n, turnL b l = .exc n → ∀ H' C' σ', X.mg n = some C' → Same H H' → W C' none σ' H') →
    t D [some (.ref a), some (.ref (if b then e else u)), some (.ref (if b then u else e)), none, none] H
section
variable {X : Cx} {W : WX} {C : Addr} {kk k2 jj : Nat} {m1 : Str} {p1 p2 p3 p4 p5 p6 p7 p8 p9 a1 a2 a3 a4 a5 a6 a7 b1 b2 b3 b4 b5 b6 b7 b8 b9 c1 c2 c3 c4 c5 c6 : Pos}
theorem tm_turn [Ct : Ctx X W] (b : Bool) (T : LisC X.K X.mg C) (xN : ExF X.K X.mg "NothingLeft")
    (n0 : X.N[0]? = some ("self" : Str)) (n1 : X.N[1]? = some ("some" : Str)) (n2 : X.N[2]? = some ("others" : Str)) (n3 : X.N[3]? = some ("number" : Str)) (n4 : X.N[4]? = some ("entry" : Str))
    (v0 : Vis X.env.scope "self") (v1 : Vis X.env.scope "some") (v2 : Vis X.env.scope "others") (v3 : Vis X.env.scope "number") (v4 : Vis X.env.scope "entry") (l3 : Loc X.env.scope "number") (l4 : Loc X.env.scope "entry")
    (f3 : X.fn "number" = true ∨ X.env.scope.names.lookup ("number" : Str) = some .local) (f4 : X.fn "entry" = true ∨ X.env.scope.names.lookup ("entry" : Str) = some .local) (hg : Gl X "NothingLeft")
    (hbm : behindInMarks .Eq (.List [] p2) = false := by rfl)
    -- number, entry = some.pop()
    (hb1 : attributeBase (.Name "some" a3) "pop" X.env (eval (.Name "some" a3) X.env) = eval (.Name "some" a3) X.env := by rfl) (hl1 : (a4.endLine == a5.line) = true := by rfl)
    (s2 : (assignEach [.Name "number" a1, .Name "entry" a2] X.env).map (·.2) = assign (.Name "number" a1) X.env :: (assignEach [.Name "entry" a2] X.env).map (·.2) := by rfl) (s1 : (assignEach [.Name "entry" a2] X.env).map (·.2) = assign (.Name "entry" a2) X.env :: (assignEach [] X.env).map (·.2) := by rfl)
    (hn : (assignEach [.Name "number" a1, .Name "entry" a2] X.env).length = 2 := by rfl) (hst : (assignEach [.Name "number" a1, .Name "entry" a2] X.env).findIdx? (·.1) = none := by rfl)
    (hs1 : swapsWithSole [.Tuple [.Name "number" a1, .Name "entry" a2] kk a6] (.Call (.Attribute (.Name "some" a3) "pop" a4) [] [] a5) a7.line X.env = pure false := by rfl) (hw1 : swappedStores [.Tuple [.Name "number" a1, .Name "entry" a2] kk a6] (.Call (.Attribute (.Name "some" a3) "pop" a4) [] [] a5) X.env = pure none := by rfl)
    (h11 : (assignEach [.Tuple [.Name "number" a1, .Name "entry" a2] kk a6] X.env).map (·.2) = [assign (.Tuple [.Name "number" a1, .Name "entry" a2] kk a6) X.env] := by rfl)
    -- others.append((number, self.heard_row[number]))
    (hb2 : attributeBase (.Name "self" b4) "heard_row" X.env (eval (.Name "self" b4) X.env) = eval (.Name "self" b4) X.env := by rfl)
    (hbase : attributeBase (.Name "others" b1) "append" X.env (eval (.Name "others" b1) X.env) = eval (.Name "others" b1) X.env := by rfl)
    (hfew : ((backTo b9 (starEach [.Tuple [.Name "number" b3, .Subscript (.Attribute (.Name "self" b4) "heard_row" b5) (.Name "number" b6) b7] k2 b8] X.env)).all (fun x => !x.1) && (backToKw b9 (keywordEach [] X.env)).all (fun x => x.1.isSome) && decide (([.Tuple [.Name "number" b3, .Subscript (.Attribute (.Name "self" b4) "heard_row" b5) (.Name "number" b6) b7] k2 b8] : List Expr).length + ([] : List Keyword).length + (if ([] : List Keyword).isEmpty then 0 else 1) < 30)) = true := by rfl)
    (hline : (b2.endLine == b9.line) = true := by rfl) (hstb : starEach [.Tuple [.Name "number" b3, .Subscript (.Attribute (.Name "self" b4) "heard_row" b5) (.Name "number" b6) b7] k2 b8] X.env = (false, eval (.Tuple [.Name "number" b3, .Subscript (.Attribute (.Name "self" b4) "heard_row" b5) (.Name "number" b6) b7] k2 b8) X.env) :: starEach [] X.env := by rfl)
    (hst1 : starEach [.Name "number" b3, .Subscript (.Attribute (.Name "self" b4) "heard_row" b5) (.Name "number" b6) b7] X.env = (false, eval (.Name "number" b3) X.env) :: starEach [.Subscript (.Attribute (.Name "self" b4) "heard_row" b5) (.Name "number" b6) b7] X.env := by rfl)
    (hst2 : starEach [.Subscript (.Attribute (.Name "self" b4) "heard_row" b5) (.Name "number" b6) b7] X.env = (false, eval (.Subscript (.Attribute (.Name "self" b4) "heard_row" b5) (.Name "number" b6) b7) X.env) :: starEach [] X.env := by rfl)
    (hpl : (backTo b9 (starEach [] X.env)).any (·.1) = false := by rfl)
    (hsw1 : swapsWith (.Call (.Attribute (.Name "others" b1) "append" b2) [.Tuple [.Name "number" b3, .Subscript (.Attribute (.Name "self" b4) "heard_row" b5) (.Name "number" b6) b7] k2 b8] [] b9) none p9.line X.env = pure false := by rfl)
    -- self.heard_row[number] = entry
    (hb3 : attributeBase (.Name "self" c1) "heard_row" X.env (eval (.Name "self" c1) X.env) = eval (.Name "self" c1) X.env := by rfl)
    (ha : ∀ v, assign (.Subscript (.Attribute (.Name "self" c1) "heard_row" c2) (.Name "number" c3) c4) X.env v = (do
      let ov ← holding [v] (eval (.Attribute (.Name "self" c1) "heard_row" c2) X.env)
      let iv ← holding [v, ov] (eval (.Name "number" c3) X.env)
      standAt c4
      holding [v, ov, iv] (setItem ov iv v)
      release [v, ov, iv] []) := by intro _; rfl)
    (hs2 : swapsWithSole [.Subscript (.Attribute (.Name "self" c1) "heard_row" c2) (.Name "number" c3) c4] (.Name "entry" c5) c6.line X.env = pure false := by rfl) (hw2 : swappedStores [.Subscript (.Attribute (.Name "self" c1) "heard_row" c2) (.Name "number" c3) c4] (.Name "entry" c5) X.env = pure none := by rfl)
    (h12 : (assignEach [.Subscript (.Attribute (.Name "self" c1) "heard_row" c2) (.Name "number" c3) c4] X.env).map (·.2) = [assign (.Subscript (.Attribute (.Name "self" c1) "heard_row" c2) (.Name "number" c3) c4) X.env] := by rfl) :
    TM X W C b [.If (.Compare (.Name "some" p1) [.Eq] [.List [] p2] p3) [.Raise (some (.Call (.Name "NothingLeft" p4) [.Constant (.str m1) jj p5] [] p6)) none p7] [] p8,
      .Assign [.Tuple [.Name "number" a1, .Name "entry" a2] kk a6] (.Call (.Attribute (.Name "some" a3) "pop" a4) [] [] a5) a7,
      .Expr (.Call (.Attribute (.Name "others" b1) "append" b2) [.Tuple [.Name "number" b3, .Subscript (.Attribute (.Name "self" b4) "heard_row" b5) (.Name "number" b6) b7] k2 b8] [] b9) p9,
      .Assign [.Subscript (.Attribute (.Name "self" c1) "heard_row" c2) (.Name "number" c3) c4] (.Name "entry" c5) c6] := by
  have dbg : ∀ x : Str, x ∈ (["self", "some", "others", "number", "entry"] : List Str) → (x == ("__debug__" : Str)) = false ∧ (x == ("__classdict__" : Str)) = false := by decide +kernel
  have d0 := dbg "self" (by decide +kernel)
  have d1 := dbg "some" (by decide +kernel)
  have d2 := dbg "others" (by decide +kernel)
  have d3 := dbg "number" (by decide +kernel)
  have d4 := dbg "entry" (by decide +kernel)
  obtain ⟨cN, e1, e2, e3, e4, e5⟩ := id xN
  -- the test
  have tT : ∀ (ρ : Env X.K) (ss : List D), ρ[1]? = some (cVal (.list ss)) → TG' X W ρ (.Compare (.Name "some" p1) [.Eq] [.List [] p2] p3) ((bd2 (.ok (.list ss)) (.ok (.list [])) eqV).bd bl) := fun ρ ss h =>
    tg_cp c_eq (eg_var 1 h n1 v1 d1.1 d1.2).vt (show EG X W ρ .T (.List [] p2) (.ok (.list [])) from (eg_lst ag_nil).ot) hbm
  -- its walk is the same for all data
  have tP : ∃ tc, PT X (.Compare (.Name "some" p1) [.Eq] [.List [] p2] p3) tc ∧ ∀ (ρ : Env X.K) (ss : List D), ρ[1]? = some (cVal (.list ss)) → ∀ B H0 F H σ Q, Good B H0 F H ρ σ → Kn X W F H σ ((bd2 (.ok (.list ss)) (.ok (.list [])) eqV).bd bl) aB Q → tc σ H Q :=
    ⟨fun σ H Q => ∃ (ρ : Env X.K) (ss : List D) (B H0 F : Hp), ρ[1]? = some (cVal (.list ss)) ∧ Good B H0 F H ρ σ ∧ Kn X W F H σ ((bd2 (.ok (.list ss)) (.ok (.list [])) eqV).bd bl) aB Q,
      ⟨fun pins s σ H Q I ⟨ρ, ss, B, H0, F, h, g, k⟩ => by
        obtain ⟨t, t1, t2⟩ := tT ρ ss h
        exact t1.run pins s σ H Q I (t2 B H0 F H σ Q g k)⟩, fun ρ ss h B H0 F H σ Q g k => ⟨ρ, ss, B, H0, F, h, g, k⟩⟩
  obtain ⟨tc, tc1, tc2⟩ := tP
  -- the tuple
  have eA : ∀ (ρ : Env X.K) (a : Addr) (ow : List Addr) (l : Li) (i : Int), ρ[0]? = some (cFz C a ow l) → ρ[3]? = some (cVal (.int i)) → EG X W ρ .V (.Tuple [.Name "number" b3, .Subscript (.Attribute (.Name "self" b4) "heard_row" b5) (.Name "number" b6) b7] k2 b8) ((consR (.ok (.int i)) (consR (bd2 (.ok (.list l.row)) (.ok (.int i)) ixV) (.ok []))).bd tupR) := fun ρ a ow l i h0 h3 =>
    eg_tup (ag_cons (eg_var 3 h3 n3 v3 d3.1 d3.2) (ag_cons (eg_ix (eg_fz 0 (fun l => .list l.row) h0 T.cl T.nR fz_row n0 v0 d0.1 d0.2 hb2).vt (eg_var 3 h3 n3 v3 d3.1 d3.2).vt) ag_nil hst2) hst1)
  have aP : ∃ ta, PE X (.Tuple [.Name "number" b3, .Subscript (.Attribute (.Name "self" b4) "heard_row" b5) (.Name "number" b6) b7] k2 b8) ta ∧ ∀ (ρ : Env X.K) (a : Addr) (ow : List Addr) (l : Li) (i : Int), ρ[0]? = some (cFz C a ow l) → ρ[3]? = some (cVal (.int i)) → ∀ B H0 F H σ Q, Good B H0 F H ρ σ →
      Kn X W F H σ ((consR (.ok (.int i)) (consR (bd2 (.ok (.list l.row)) (.ok (.int i)) ixV) (.ok []))).bd tupR) (Acc X.K .V) Q → ta σ H Q :=
    ⟨fun σ H Q => ∃ (ρ : Env X.K) (a : Addr) (ow : List Addr) (l : Li) (i : Int) (B H0 F : Hp), ρ[0]? = some (cFz C a ow l) ∧ ρ[3]? = some (cVal (.int i)) ∧ Good B H0 F H ρ σ ∧ Kn X W F H σ ((consR (.ok (.int i)) (consR (bd2 (.ok (.list l.row)) (.ok (.int i)) ixV) (.ok []))).bd tupR) (Acc X.K .V) Q,
      ⟨fun pins s σ H Q I ⟨ρ, a, ow, l, i, B, H0, F, h0, h3, g, k⟩ => by
        obtain ⟨t, t1, t2⟩ := eA ρ a ow l i h0 h3
        exact t1.run pins s σ H Q I (t2 B H0 F H σ Q g k)⟩, fun ρ a ow l i h0 h3 B H0 F H σ Q g k => ⟨ρ, a, ow, l, i, B, H0, F, h0, h3, g, k⟩⟩
  obtain ⟨ta, ta1, ta2⟩ := aP
  obtain ⟨gt, g1, g2⟩ := gg_2 (X := X) (vs := [3, 4]) (ρ := [cAny, cAny, cAny, cAny, cAny]) (k := kk) (pos := a6) (p1 := a1) (p2 := a2) 3 4 Ct.calm Ct.nd n3 n4 l3 l4 (by simp) (by simp) f3 f4 s2 s1 hn hst
  refine ⟨_, pss_cons (ps_if tc1 (pss_one (L2N.ps_raise Ct.calm Ct.tk (L2N.pmk_own PySem.F.excBase_ValueError e2 e1 e3 (raises_own e4 e5) hg (by decide)))) pss_nil)
    (pss_cons (ps_asg (pe_bm0 PySem.F.plainAttrs_list PySem.F.slot_list_pop PySem.F.type_list_pop mt_pop (pe_var n1 v1 d1.1 d1.2) hb1 hl1) g1 hs1 hw1 h11)
    (pss_cons (ps_expr (pe_bm PySem.F.plainAttrs_list PySem.F.slot_list_append PySem.F.type_list_append mt_append (pe_var n2 v2 d2.1 d2.2) (pa_cons ta1 pa_nil hstb) hbase hfew hline hstb hpl) hsw1)
    (pss_one (ps_asg (pe_var n4 v4 d4.1 d4.2) (pg_sub (pe_fld (pe_var n0 v0 d0.1 d0.2) hb3) (pe_var n3 v3 d3.1 d3.2) set_list ha) hs2 hw2 h12)))),
    fun F0 H a l dx r e u cv sv xs es us D fh x hnn ns hok hxc => ?_⟩
  have xF := LiAt.froz (⟨dx, r, e, u, cv, sv, xs, es, us, rfl, x⟩ : LiAt X.K C F0 H a [a, r, e, u] l) hnn
  have y := x.y b
  generalize hs' : (if b then e else u) = s at y ⊢
  generalize ho' : (if b then u else e) = o at y ⊢
  generalize hss' : (if b then es else us) = ssV at y
  generalize hos' : (if b then us else es) = osV at y
  have ins : s ∈ [a, r, e, u] := by rw [← hs']; cases b <;> simp
  have ino : o ∈ [a, r, e, u] := by rw [← ho']; cases b <;> simp
  have inr : r ∈ [a, r, e, u] := by simp
  have ina : a ∈ [a, r, e, u] := by simp
  have nes : ∀ c, c ∉ [a, r, e, u] → c ≠ s := fun c hc z => hc (by rw [z]; exact ins)
  have neo : ∀ c, c ∉ [a, r, e, u] → c ≠ o := fun c hc z => hc (by rw [z]; exact ino)
  have ner : ∀ c, c ∉ [a, r, e, u] → c ≠ r := fun c hc z => hc (by rw [z]; exact inr)
  have nas : a ≠ s := fun z => by have := y.ha; rw [z, y.hs] at this; cases this
  have nao : a ≠ o := fun z => by have := y.ha; rw [z, y.ho] at this; cases this
  have nar : a ≠ r := fun z => by have := y.ha; rw [z, y.hr] at this; cases this
  have xat : LiAt X.K C F0 H a [a, r, e, u] l := ⟨dx, r, e, u, cv, sv, xs, es, us, rfl, x⟩
  generalize how : [a, r, e, u] = ow at *
  have hf0 := fz_ff (H := H) hnn
  have gd1 : Good (K := X.K) (fz ow F0 H) H (fz ow F0 H) H [cFz C a ow l, cVal (.list (srcL b l)), cVal (.list (dstL b l)), cAny, cAny] [some (.ref a), some (.ref s), some (.ref o), none, none] := by
    refine ⟨Ex.refl _ _, fz_fh fh, [[], [], [], [], []], ⟨⟨rfl, rfl, xF⟩, ⟨rfl, _, rfl, .lst (SqL.of (by rw [fz_in ins]; exact y.hs)) (DpAll.mono hf0 _ _ y.ds)⟩, ⟨rfl, _, rfl, .lst (SqL.of (by rw [fz_in ino]; exact y.ho)) (DpAll.mono hf0 _ _ y.do_)⟩, rfl, rfl, trivial⟩, List.nodup_nil, fun c hc => nomatch hc⟩
  cases hR : ((bd2 (.ok (.list (srcL b l))) (.ok (.list [])) eqV).bd bl) with
  | stuck => exact absurd (by unfold turnL; rw [hR]; rfl) ns
  | exc n =>
    exfalso
    simp only [bd2_ok, eqV] at hR
    split at hR <;> cases hR
  | ok t0 =>
  refine tc2 _ _ rfl _ _ _ H _ _ gd1 ⟨by rw [hR]; exact ok_ns _, fun t' et v F1 H1 ex1 sm1 hv => ?_, fun n en => by rw [hR] at en; cases en⟩
  cases hv
  rw [hR] at et
  cases et
  cases t0 with
  | true =>
    rw [if_pos rfl]
    exact hxc "NothingLeft" (by unfold turnL; rw [hR]; rfl) H1 _ _ e1 ex1.hh
  | false =>
  rw [if_neg Bool.false_ne_true]
  have eT : turnL b l = (match ((srcL b l)[(srcL b l).length - 1]?).bind pr2 with
    | some (i, ent) => match L2.ixN l.row.length i with
      | some j => match l.row[j]? with
        | some old => if decide ((dstL b l).length < 16777216) then .ok (mkT b l (l.row.set j ent) (srcL b l).dropLast (dstL b l ++ [.tuple [.int i, old]])) else .stuck
        | none => .stuck
      | none => .stuck
    | none => .stuck) := by
    unfold turnL
    rw [hR]
    rfl
  obtain ⟨i, ent, hl⟩ : ∃ i ent, (srcL b l)[(srcL b l).length - 1]? = some (.tuple [.int i, ent]) := by
    cases hq : ((srcL b l)[(srcL b l).length - 1]?).bind pr2 with
    | none => exact absurd (by rw [eT, hq]) ns
    | some q =>
      obtain ⟨d, hd, hp⟩ := Option.bind_eq_some_iff.mp hq
      exact ⟨q.1, q.2, by rw [hd, pr2_of hp]⟩
  have hbind : ((srcL b l)[(srcL b l).length - 1]?).bind pr2 = some (i, ent) := by rw [hl]; rfl
  rw [hbind] at eT
  obtain ⟨j, hj⟩ : ∃ j, L2.ixN l.row.length i = some j := by
    cases hj : L2.ixN l.row.length i with
    | none => exact absurd (by rw [eT]; simp only [hj]) ns
    | some j => exact ⟨j, rfl⟩
  obtain ⟨old, hold⟩ : ∃ old, l.row[j]? = some old := by
    cases ho : l.row[j]? with
    | none => exact absurd (by rw [eT]; simp only [hj, ho]) ns
    | some o => exact ⟨o, rfl⟩
  have hc : decide ((dstL b l).length < 16777216) = true := by
    cases hc : decide ((dstL b l).length < 16777216) with
    | false => exact absurd (by rw [eT]; simp only [hj, hold, hc]; rfl) ns
    | true => rfl
  simp only [hj, hold, hc, if_true] at eT
  have ok := x.ok
  simp only [okLi, Bool.and_eq_true] at ok
  obtain ⟨ok1, ok2, ok3, ok4, ok5⟩ := ok
  have okS : noLs (srcL b l) = true := by cases b <;> assumption
  have okD : noLs (dstL b l) = true := by cases b <;> assumption
  have okT : noL (.tuple [.int i, ent]) = true := noLs_mem okS (List.mem_of_getElem? hl)
  have okE : noL ent = true := by
    have : (noL (.int i) && (noL ent && true)) = true := okT
    simp only [Bool.and_eq_true] at this
    exact this.2.1
  have okO : noL old = true := noLs_mem ok3 (List.mem_of_getElem? hold)
  obtain ⟨yv, hy1, hy2⟩ := y.ds.get hl
  rw [← DpAll.length y.ds] at hy1
  -- heaps
  have inH : ∀ c ∈ ow, H c ≠ none := xat.there
  have h1 : ∀ c ∈ ow, H1 c = H c := fun c hc => Same.ne ex1.hh (inH c hc)
  refine ⟨_, rfl, .inl ⟨rfl, _, SqL.of (by rw [h1 s ins]; exact y.hs)⟩, s, ssV, yv, rfl, rfl, by rw [h1 s ins]; exact y.hs, hy1, ?_⟩
  -- number, entry =
  have sm2 : Same (unfz ow F1) (upd H1 s (.lst ssV.dropLast)) := fun c q z => by
    have hc : c ∉ ow := fun w => by rw [unfz_in w] at z; cases z
    rw [unfz_out hc] at z
    rw [upd_ne (nes c hc)]
    exact sm1 _ _ z
  have f0u : Same F0 (unfz ow F1) := fun c q z => by
    have hc : c ∉ ow := fun w => by rw [hnn c w] at z; cases z
    rw [unfz_out hc]
    exact ex1.ff _ _ (by rw [fz_out hc]; exact z)
  have gd2 : Good (K := X.K) (unfz ow F1) (upd H1 s (.lst ssV.dropLast)) (unfz ow F1) (upd H1 s (.lst ssV.dropLast)) [cAny, cAny, cAny, cAny, cAny] [some (.ref a), some (.ref s), some (.ref o), none, none] :=
    ⟨Ex.refl _ _, sm2, [[], [], [], [], []], ⟨rfl, rfl, rfl, rfl, rfl, trivial⟩, List.nodup_nil, fun c hc => nomatch hc⟩
  refine g2 _ _ _ _ _ yv (.tuple [.int i, ent]) _ gd2 (Dp.mono f0u _ _ hy2) (by rw [un2_tup]; exact ok_ns _) fun ρ' σ' eρ gd3 kp => ?_
  rw [un2_tup] at eρ
  cases eρ
  have k0 : σ'[0]? = some (some (.ref a)) := keeps_at kp (by decide)
  have k2 : σ'[2]? = some (some (.ref o)) := keeps_at kp (by decide)
  obtain ⟨_, _, ass3, sl3, _, _⟩ := id gd3
  obtain ⟨w3, _, t3, _, _, x3, e3', dp3⟩ := sl3.get (i := 3) (c := cVal (.int i)) rfl
  subst e3'
  obtain ⟨w4, _, t4, _, _, x4, e4', dp4⟩ := sl3.get (i := 4) (c := cVal ent) rfl
  subst e4'
  cases dp3
  have lσ : σ'.length = 5 := by have := sl3.len; simp at this; omega
  -- frozen again
  have nu2 : ∀ c ∈ ow, unfz ow F1 c = none := fun c hc => unfz_in hc
  have hf2 := fz_ff (H := upd H1 s (.lst ssV.dropLast)) nu2
  have xat2 : LiAt X.K C (unfz ow F1) (upd H1 s (.lst ssV.dropLast)) a ow (mkT b l l.row (srcL b l).dropLast (dstL b l)) := by
    have dS : DpAll X.K (unfz ow F1) ssV.dropLast (srcL b l).dropLast := by
      have := DpAll.mono f0u _ _ y.ds
      have t := DpAll.take (ssV.length - 1) this
      rw [← List.dropLast_eq_take] at t
      rwa [DpAll.length y.ds, ← List.dropLast_eq_take] at t
    have okd : noLs (srcL b l).dropLast = true := noLs_of fun d hd => noLs_mem okS ((List.dropLast_sublist _).subset hd)
    have qq : ∀ c ∈ ow, c ≠ s → (upd H1 s (.lst ssV.dropLast)) c = H c := fun c hc n => by rw [upd_ne n, h1 c hc]
    subst how
    refine ⟨dx, r, e, u, cv, sv, xs, (if b then ssV.dropLast else es), (if b then us else ssV.dropLast), rfl, ?_⟩
    cases b
    · simp only [Bool.false_eq_true, if_false] at hs' ho' hss' hos' ⊢
      subst hs' ho' hss' hos'
      exact ⟨by rw [qq a (by simp) nas]; exact x.ha, by rw [qq r (by simp) y.rs]; exact x.hr, by rw [qq e (by simp) x.eu]; exact x.he, upd_same, Dp.mono f0u _ _ x.dc, Dp.mono f0u _ _ x.ds, DpAll.mono f0u _ _ x.dr, DpAll.mono f0u _ _ x.de, dS, x.re, x.ru, x.eu, by simp only [okLi, Bool.and_eq_true]; exact ⟨ok1, ok2, ok3, ok4, okd⟩⟩
    · simp only [if_true] at hs' ho' hss' hos' ⊢
      subst hs' ho' hss' hos'
      exact ⟨by rw [qq a (by simp) nas]; exact x.ha, by rw [qq r (by simp) y.rs]; exact x.hr, upd_same, by rw [qq u (by simp) (Ne.symm x.eu)]; exact x.hu, Dp.mono f0u _ _ x.dc, Dp.mono f0u _ _ x.ds, DpAll.mono f0u _ _ x.dr, dS, DpAll.mono f0u _ _ x.du, x.re, x.ru, x.eu, by simp only [okLi, Bool.and_eq_true]; exact ⟨ok1, ok2, ok3, okd, ok5⟩⟩
  have gd4 : Good (K := X.K) (fz ow (unfz ow F1) (upd H1 s (.lst ssV.dropLast))) (upd H1 s (.lst ssV.dropLast)) (fz ow (unfz ow F1) (upd H1 s (.lst ssV.dropLast))) (upd H1 s (.lst ssV.dropLast)) [cFz C a ow (mkT b l l.row (srcL b l).dropLast (dstL b l)), cAny, cAny, cVal (.int i), cVal ent] σ' := by
    match σ', lσ, k0, t3, t4 with
    | [c0, c1, c2, c3, c4], _, k0, t3, t4 =>
      simp only [List.getElem?_cons_zero, List.getElem?_cons_succ, Option.some.injEq] at k0 t3 t4
      subst k0 t3 t4
      exact ⟨Ex.refl _ _, fz_fh sm2, [[], [], [], [], []], ⟨⟨rfl, rfl, xat2.froz nu2⟩, rfl, rfl, ⟨rfl, _, rfl, .int i⟩, ⟨rfl, _, rfl, Dp.mono hf2 _ _ dp4⟩, trivial⟩, List.nodup_nil, fun c hc => nomatch hc⟩
  have eR : ((consR (Res.ok (PyData.int i)) (consR (bd2 (.ok (.list (mkT b l l.row (srcL b l).dropLast (dstL b l)).row)) (.ok (.int i)) ixV) (.ok []))).bd tupR) = .ok (.tuple [.int i, old]) := by
    have er : (mkT b l l.row (srcL b l).dropLast (dstL b l)).row = l.row := by cases b <;> rfl
    have : ixV (.list l.row) (.int i) = .ok old := by
      show (match L2.atI l.row i with | some d => Res.ok d | none => .stuck) = _
      unfold L2.atI
      rw [hj]
      show (match l.row[j]? with | some d => Res.ok d | none => .stuck) = _
      rw [hold]
    rw [er, bd2_ok, this]
    rfl
  have hH2 : ∀ c ∈ ow, c ≠ s → (upd H1 s (.lst ssV.dropLast)) c = H c := fun c hc n => by rw [upd_ne n, h1 c hc]
  refine ⟨_, k2, .inl ⟨rfl, _, SqL.of (by rw [hH2 o ino (Ne.symm y.so)]; exact y.ho)⟩, ta2 _ a ow _ i rfl rfl _ _ _ _ _ _ gd4 ⟨(fun z => by rw [eR] at z; cases z), (fun d ed v1 F3 H3 ex3 sm3 dv => ?_), fun n en => by rw [eR] at en; cases en⟩⟩
  rw [eR] at ed
  cases ed
  have x3 : LiAt X.K C F3 F3 a ow (mkT b l l.row (srcL b l).dropLast (dstL b l)) := (xat2.froz nu2).mono ex3.ff fun c hc => Same.ne ex3.ff ((xat2.froz nu2).there c hc)
  have hH3 : ∀ c ∈ ow, H3 c = (upd H1 s (.lst ssV.dropLast)) c := fun c hc => Same.ne ex3.hh (xat2.there c hc)
  have hO3 : H3 o = some (.lst osV) := by rw [hH3 o ino, hH2 o ino (Ne.symm y.so)]; exact y.ho
  have hA3 : H3 a = some (.ins C dx (fl cv sv r e u)) := by rw [hH3 a ina, hH2 a ina nas]; exact y.ha
  have hR3 : H3 r = some (.lst xs) := by rw [hH3 r inr, hH2 r inr y.rs]; exact y.hr
  have hS3 : H3 s = some (.lst ssV.dropLast) := by rw [hH3 s ins, upd_same]
  have lO : osV.length = (dstL b l).length := DpAll.length y.do_
  refine ⟨o, osV, v1, rfl, rfl, hO3, by rw [lO, PySem.sizeLine_eq]; exact of_decide_eq_true hc, ?_⟩
  refine ⟨_, t4, _, k0, a, C, dx, _, _, rfl, (by rw [upd_ne nao]; exact hA3), T.cl, T.nR, y.fr, _, t3, r, xs, i, j, rfl, rfl, (by rw [upd_ne y.ro]; exact hR3), (by rw [DpAll.length y.dr]; exact hj), ?_⟩
  have hnT := x3.noT
  have f03 : Same F0 (unfz ow F3) := fun c q z => by
    have hc : c ∉ ow := fun w => by rw [hnn c w] at z; cases z
    rw [unfz_out hc]
    exact ex3.ff _ _ (by rw [fz_out hc]; exact f0u _ _ z)
  have fu3 : Same (unfz ow F1) (unfz ow F3) := fun c q z => by
    have hc : c ∉ ow := fun w => by rw [unfz_in w] at z; cases z
    rw [unfz_out hc]
    exact ex3.ff _ _ (by rw [fz_out hc]; exact z)
  refine hok _ eT (unfz ow F3) _ ow σ' ⟨f03, fun c q z => ?_, fun c q z hc => ?_, fun c hc => ?_, fun c hc => ⟨unfz_in hc, .inl hc⟩, fun c hc => upd_nf (upd_nf (Same.ne' ex3.hh (upd_nf (Same.ne' ex1.hh hc))))⟩ ?_
  · have hc : c ∉ ow := fun w => by rw [unfz_in w] at z; cases z
    rw [unfz_out hc] at z
    rw [upd_ne (ner c hc), upd_ne (neo c hc)]
    exact sm3 _ _ z
  · rw [upd_ne (ner c hc), upd_ne (neo c hc)]
    refine ex3.hh _ _ ?_
    rw [upd_ne (nes c hc)]
    exact ex1.hh _ _ z
  · by_cases hin : c ∈ ow
    · rw [unfz_in hin, hnn c hin]
    · rw [unfz_out hin, ex3.eq c (by rw [upd_ne (nes c hin)]; exact Same.ne' ex1.hh hc), fz_out hin, unfz_out hin, ex1.eq c hc, fz_out hin]
  · have dO : DpAll X.K (unfz ow F3) (osV ++ [v1]) (dstL b l ++ [.tuple [.int i, old]]) := DpAll.append (DpAll.mono f03 _ _ y.do_) (.cons (Dp_strip hnT _ _ (by show (noL (.int i) && (noL old && true)) = true; rw [okO]; rfl) dv) .nil)
    have okd : noLs (srcL b l).dropLast = true := noLs_of fun d hd => noLs_mem okS ((List.dropLast_sublist _).subset hd)
    have oko : noLs (dstL b l ++ [.tuple [.int i, old]]) = true := noLs_app okD (by show ((noL (.int i) && (noL old && true)) && true) = true; rw [okO]; rfl)
    have dS : DpAll X.K (unfz ow F3) ssV.dropLast (srcL b l).dropLast := by
      have := DpAll.mono f03 _ _ y.ds
      have t := DpAll.take (ssV.length - 1) this
      rw [← List.dropLast_eq_take] at t
      rwa [DpAll.length y.ds, ← List.dropLast_eq_take] at t
    have dRw : DpAll X.K (unfz ow F3) (xs.set j x4) (l.row.set j ent) := DpAll.set (Dp.mono fu3 _ _ dp4) _ (DpAll.mono f03 _ _ y.dr)
    have okr := noLs_set (j := j) ok3 okE
    subst how
    refine ⟨dx, r, e, u, cv, sv, xs.set j x4, (if b then ssV.dropLast else osV ++ [v1]), (if b then osV ++ [v1] else ssV.dropLast), rfl, ?_⟩
    cases b
    · simp only [Bool.false_eq_true, if_false] at hs' ho' hss' hos' ⊢
      subst hs' ho' hss' hos'
      exact ⟨by rw [upd_ne nar, upd_ne nao]; exact hA3, upd_same, by rw [upd_ne (Ne.symm x.re), upd_same], by rw [upd_ne (Ne.symm x.ru), upd_ne (Ne.symm x.eu)]; exact hS3, Dp.mono f03 _ _ x.dc, Dp.mono f03 _ _ x.ds, dRw, dO, dS, x.re, x.ru, x.eu, by simp only [okLi, Bool.and_eq_true]; exact ⟨ok1, ok2, okr, oko, okd⟩⟩
    · simp only [if_true] at hs' ho' hss' hos' ⊢
      subst hs' ho' hss' hos'
      exact ⟨by rw [upd_ne nar, upd_ne nao]; exact hA3, upd_same, by rw [upd_ne (Ne.symm x.re), upd_ne x.eu]; exact hS3, by rw [upd_ne (Ne.symm x.ru), upd_same], Dp.mono f03 _ _ x.dc, Dp.mono f03 _ _ x.ds, dRw, dS, dO, x.re, x.ru, x.eu, by simp only [okLi, Bool.and_eq_true]; exact ⟨ok1, ok2, okr, okd, oko⟩⟩
end
end DL
namespace DL
open PySem L2 PySem.Spec PyProof.Rows
section
variable {P : Program} {w : World} {K : PySem.W.Frag} {mg : Str → Option Value} {base : Heap}
theorem fn_turned {x qual : Str} {st : Stmt} {f : Addr} {fd : FuncData} {N ps : List Str} {k : Nat} {C : Addr} (b : Bool) (F : Fun K x qual st f fd) (S : FnScope N ps (defScope st)) (hn : ps.length = 3) (hm : N.length = 5)
    (hb : ∀ (cdv : Value) (A : Around) (outer : List PySem.Env) (s : Shared) (H : Hp) (E : XK), Ctx (cxD P w K mg base N qual st f cdv A outer s H E) (Wf E) → TM (cxD P w K mg base N qual st f cdv A outer s H E) (Wf E) C b (defBody st)) : FnOk P w K mg base (L2N.CX P w) (k + 1) f fd ps (spT K mg C b) := by
  obtain ⟨oc, od, kV, doc, pm, an, cdv, ct, osl, rfl, lk, hcd⟩ := F.ex
  refine fn_of lk hcd S (fun vs H Q E h => ?_) (fun A outer s H vs Q E hr h => ?_)
  · obtain ⟨_, _, _, _, _, _, _, _, _, _, _, _, rfl, _⟩ := h
    exact hn.symm
  · obtain ⟨F0, a, l, dx, r, e, u, cv, sv, xs, es, us, rfl, fh, x, hnn, ns, hok, hxc⟩ := h
    obtain ⟨t, t1, t2⟩ := hb cdv A outer s H E (ctx_fn S.nd hr)
    refine ⟨t, t1, ?_⟩
    have es' : L2.start N [V.ref a, .ref (if b then e else u), .ref (if b then u else e)] = [some (.ref a), some (.ref (if b then e else u)), some (.ref (if b then u else e)), none, none] := by
      unfold L2.start
      rw [hm]
      rfl
    rw [es']
    exact t2 F0 H a l dx r e u cv sv xs es us _ fh x hnn ns (fun l' el F' H' ow' σ' mt xl => hok l' el F' H' ow' mt xl) fun n en H' C' σ' c s => hxc n en H' C' c s
end
section
variable {X : Cx} {W : WX} {ρ : Env X.K} {C a : Addr} {ow : List Addr} {l : Li} {k : Nat} {x f1 f2 : Str} {p2 p3 p4 p5 p6 apos cpos pos : Pos}
theorem sm_turned [Ct : Ctx X W] (b : Bool) (i : Nat) (hρ : ρ[i]? = some (cFz C a ow l)) (T : LisC X.K X.mg C) (D : DefL X.prog X.w X.K X.mg X.base C "turned" k (spT X.K X.mg C b)) (hr : Room k X.A) (hf : (f1, f2) = if b then (("earlier" : Str), ("undone" : Str)) else ("undone", "earlier"))
    (hN : X.N[i]? = some x := by rfl) (hv : Vis X.env.scope x := by first | exact Or.inl rfl | exact Or.inr (Or.inl rfl) | exact Or.inr (Or.inr rfl)) (hd : (x == ("__debug__" : Str)) = false := by decide) (hcd : (x == ("__classdict__" : Str)) = false := by decide)
    (hb1 : attributeBase (.Name x p3) f1 X.env (eval (.Name x p3) X.env) = eval (.Name x p3) X.env := by rfl) (hb2 : attributeBase (.Name x p5) f2 X.env (eval (.Name x p5) X.env) = eval (.Name x p5) X.env := by rfl)
    (hst : starEach [.Attribute (.Name x p3) f1 p4, .Attribute (.Name x p5) f2 p6] X.env = (false, eval (.Attribute (.Name x p3) f1 p4) X.env) :: starEach [.Attribute (.Name x p5) f2 p6] X.env := by rfl)
    (hst2 : starEach [.Attribute (.Name x p5) f2 p6] X.env = (false, eval (.Attribute (.Name x p5) f2 p6) X.env) :: starEach [] X.env := by rfl) (hpl : (backTo cpos (starEach [.Attribute (.Name x p5) f2 p6] X.env)).any (·.1) = false := by rfl) {pl : Sem Bool}
    (ht : eval (.Call (.Attribute (.Name x p2) "turned" apos) [.Attribute (.Name x p3) f1 p4, .Attribute (.Name x p5) f2 p6] [] cpos) X.env = (do
      let ov ← eval (.Name x p2) X.env
      standAt apos.atName
      let (f, first) ← holding [ov] (getMethod ov "turned" pl)
      callWith cpos f first (backTo cpos (starEach [.Attribute (.Name x p3) f1 p4, .Attribute (.Name x p5) f2 p6] X.env)) (backToKw cpos (keywordEach [] X.env))) := by rfl)
    (hsw : swapsWith (.Call (.Attribute (.Name x p2) "turned" apos) [.Attribute (.Name x p3) f1 p4, .Attribute (.Name x p5) f2 p6] [] cpos) none pos.line X.env = pure false := by rfl) :
    SM X W C a ow ρ [.Expr (.Call (.Attribute (.Name x p2) "turned" apos) [.Attribute (.Name x p3) f1 p4, .Attribute (.Name x p5) f2 p6] [] cpos) pos] (turnL b l) := by
  obtain ⟨f0, fd, ps, Fo, Mt, hb⟩ := D
  refine ⟨_, pss_one (ps_expr (pe_methE (pl := pl) (pe_var hN hv hd hcd) T.cl Mt Fo hr hb (fun σ => L2N.passAt Ct.tk σ) (pa_cons (pe_fld (pe_var hN hv hd hcd) hb1) (pa_cons (pe_fld (pe_var hN hv hd hcd) hb2) pa_nil hst2) hst) hst hpl ht) hsw), fun B H0 F H σ Dd gd kn => ?_⟩
  obtain ⟨_, fh, ass, sl, nd, own⟩ := id gd
  obtain ⟨v, as, h1, h2, _, h3, q⟩ := sl.get hρ
  subst h3
  have qs := q.strip fh
  obtain ⟨dx, r, e, u, cv, sv, xs, es, us, eow, qx⟩ := qs
  have hA := qx.ha
  have fin : spT X.K X.mg C b [.ref a, .ref (if b then e else u), .ref (if b then u else e)] H (fun v H' => Dd.nx σ H') (fun c d H' => W c d σ H') := by
    refine ⟨unfz ow F, a, l, dx, r, e, u, cv, sv, xs, es, us, rfl, unfz_same.trans fh, qx, fun c hc => unfz_in (by rw [eow]; exact hc), kn.ns, fun l' el F' H' ow' mt xl => ?_, fun n en H' C' c s => kn.xc n en H' C' σ c (gd.ex.hh.trans s)⟩
    rw [← eow] at mt
    exact kn.ok l' el σ F' H' ow' (mut_base gd.ex mt) xl
  refine ⟨_, h1, a, dx, _, rfl, hA, fl_no (by decide +kernel), ?_⟩
  cases b
  · simp only [Bool.false_eq_true, if_false, Prod.mk.injEq] at hf fin
    obtain ⟨rfl, rfl⟩ := hf
    exact ⟨_, h1, a, C, dx, _, _, rfl, hA, T.cl, T.nU, fl_undone, _, h1, a, C, dx, _, _, rfl, hA, T.cl, T.nE, fl_earlier, fin⟩
  · simp only [if_true, Prod.mk.injEq] at hf fin
    obtain ⟨rfl, rfl⟩ := hf
    exact ⟨_, h1, a, C, dx, _, _, rfl, hA, T.cl, T.nE, fl_earlier, _, h1, a, C, dx, _, _, rfl, hA, T.cl, T.nU, fl_undone, fin⟩
end
/-! ### how it is made -/
def initL (r3 : Res D) (c s : D) : Res Li := r3.bd fun d => onL d fun row => if noL c && (noL s && noLs row) then .ok ⟨c, s, row, [], []⟩ else .stuck
def spI (K : PySem.W.Frag) (C : Addr) (r3 : D → D → Res D) : Sp := fun vs H Q E => ∃ F p dx cv sv c s, vs = [.ref p, cv, sv] ∧ Same F H ∧ H p = some (.ins C dx []) ∧ F p = none ∧ Dp K F cv c ∧ Dp K F sv s ∧ initL (r3 c s).nx c s ≠ .stuck ∧
  ∀ l, initL (r3 c s).nx c s = .ok l → ∀ F' H' ow, MutTo F H [p] F' H' ow → LiAt K C F' H' p ow l → Q .non H'
theorem fl_made (cv sv : V) (r e u : Addr) : putF "undone" (.ref u) (putF "earlier" (.ref e) (putF "heard_row" (.ref r) (putF "slips" sv (putF "code" cv [])))) = fl cv sv r e u := by
  have h : ∀ {a b : Str} {v w : V} {l : List (Str × V)}, ¬ a = b → putF b w ((a, v) :: l) = (a, v) :: putF b w l := fun {a b v w l} n => by
    show (if a = b then _ else _) = _
    rw [if_neg n]
  have h0 : ∀ (b : Str) (w : V), putF b w [] = [(b, w)] := fun _ _ => rfl
  have e1 : putF "slips" sv ([("code", cv)] : List (Str × V)) = ([("code", cv), ("slips", sv)] : List (Str × V)) := by rw [h (by decide +kernel), h0]
  have e2 : putF "heard_row" (V.ref r) ([("code", cv), ("slips", sv)] : List (Str × V)) = ([("code", cv), ("slips", sv), ("heard_row", .ref r)] : List (Str × V)) := by rw [h (by decide +kernel), h (by decide +kernel), h0]
  have e3 : putF "earlier" (V.ref e) ([("code", cv), ("slips", sv), ("heard_row", .ref r)] : List (Str × V)) = ([("code", cv), ("slips", sv), ("heard_row", .ref r), ("earlier", .ref e)] : List (Str × V)) := by rw [h (by decide +kernel), h (by decide +kernel), h (by decide +kernel), h0]
  have e4 : putF "undone" (V.ref u) ([("code", cv), ("slips", sv), ("heard_row", .ref r), ("earlier", .ref e)] : List (Str × V)) = fl cv sv r e u := by
    rw [h (by decide +kernel), h (by decide +kernel), h (by decide +kernel), h (by decide +kernel), h0]
    rfl
  rw [h0, e1, e2, e3, e4]
theorem putF_len : ∀ (l : List (Str × V)) (f : Str) (v : V), (putF f v l).length ≤ l.length + 1
  | [], _, _ => Nat.le_refl _
  | (a, b) :: l, f, v => by
    show (if a = f then _ else _ : List (Str × V)).length ≤ _
    split
    · simp
    · have := putF_len l f v
      simp only [List.length_cons]
      omega
structure IM (X : Cx) (W : WX) (C : Addr) (r3 : D → D → Res D) (ss : List Stmt) : Prop where
  ex : ∃ t, PSs X ss t ∧ ∀ F H p dx cv sv c s D, Same F H → H p = some (.ins C dx []) → F p = none → Dp X.K F cv c → Dp X.K F sv s → initL (r3 c s).nx c s ≠ .stuck →
    (∀ l, initL (r3 c s).nx c s = .ok l → ∀ F' H' ow σ', MutTo F H [p] F' H' ow → LiAt X.K C F' H' p ow l → D.nx σ' H') → t D [some (.ref p), some cv, some sv] H
section
variable {X : Cx} {W : WX} {C : Addr} {e3 : Expr} {r3 : D → D → Res D} {a1 a2 a3 a4 b1 b2 b3 b4 c1 c2 c3 d1 d2 d3 d4 f1 f2 f3 f4 : Pos}
theorem im_init [Ct : Ctx X W] (T : LisC X.K X.mg C) (h3 : ∀ c s, EG X W [cAny, cVal c, cVal s] .O e3 (r3 c s))
    (n0 : X.N[0]? = some ("self" : Str)) (n1 : X.N[1]? = some ("code" : Str)) (n2 : X.N[2]? = some ("slips" : Str)) (v0 : Vis X.env.scope "self") (v1 : Vis X.env.scope "code") (v2 : Vis X.env.scope "slips")
    (s1 : swapsWith (.Name "code" a3) (some (.Attribute (.Name "self" a1) "code" a2)) a4.line X.env = pure false := by rfl) (s2 : swapsWith (.Name "slips" b3) (some (.Attribute (.Name "self" b1) "slips" b2)) b4.line X.env = pure false := by rfl)
    (s3 : swapsWith e3 (some (.Attribute (.Name "self" c1) "heard_row" c2)) c3.line X.env = pure false := by rfl) (s4 : swapsWith (.List [] d3) (some (.Attribute (.Name "self" d1) "earlier" d2)) d4.line X.env = pure false := by rfl)
    (s5 : swapsWith (.List [] f3) (some (.Attribute (.Name "self" f1) "undone" f2)) f4.line X.env = pure false := by rfl) :
    IM X W C r3 [.Assign [.Attribute (.Name "self" a1) "code" a2] (.Name "code" a3) a4, .Assign [.Attribute (.Name "self" b1) "slips" b2] (.Name "slips" b3) b4, .Assign [.Attribute (.Name "self" c1) "heard_row" c2] e3 c3,
      .Assign [.Attribute (.Name "self" d1) "earlier" d2] (.List [] d3) d4, .Assign [.Attribute (.Name "self" f1) "undone" f2] (.List [] f3) f4] := by
  have dbg : ∀ x : Str, x ∈ (["self", "code", "slips"] : List Str) → (x == ("__debug__" : Str)) = false ∧ (x == ("__classdict__" : Str)) = false := by decide +kernel
  have d0 := dbg "self" (by decide +kernel)
  have d1' := dbg "code" (by decide +kernel)
  have d2' := dbg "slips" (by decide +kernel)
  have tP : ∃ t, PE X e3 t ∧ ∀ c s B H0 F H σ Q, Good B H0 F H [cAny, cVal c, cVal s] σ → Kn X W F H σ (r3 c s) (Acc X.K .O) Q → t σ H Q :=
    ⟨fun σ H Q => ∃ (c s : D) (B H0 F : Hp), Good B H0 F H ([cAny, cVal c, cVal s] : Env X.K) σ ∧ Kn X W F H σ (r3 c s) (Acc X.K .O) Q,
      ⟨fun pins s' σ H Q I ⟨c, s, B, H0, F, g, k⟩ => by
        obtain ⟨t, t1, t2⟩ := h3 c s
        exact t1.run pins s' σ H Q I (t2 B H0 F H σ Q g k)⟩, fun c s B H0 F H σ Q g k => ⟨c, s, B, H0, F, g, k⟩⟩
  obtain ⟨t, t1, t2⟩ := tP
  refine ⟨_, pss_cons (ps_fld (pe_var n0 v0 d0.1 d0.2) (pe_var n1 v1 d1'.1 d1'.2) s1) (pss_cons (ps_fld (pe_var n0 v0 d0.1 d0.2) (pe_var n2 v2 d2'.1 d2'.2) s2) (pss_cons (ps_fld (pe_var n0 v0 d0.1 d0.2) t1 s3)
    (pss_cons (ps_fld (pe_var n0 v0 d0.1 d0.2) (pe_lst pa_nil) s4) (pss_one (ps_fld (pe_var n0 v0 d0.1 d0.2) (pe_lst pa_nil) s5))))), fun F H p dx cv sv c s D fh hp fp dc ds ns hok => ?_⟩
  refine ⟨_, rfl, _, rfl, p, C, dx, [], rfl, hp, T.cl, T.nC, (by show 0 < 1000; decide), _, rfl, _, rfl, p, C, dx, _, rfl, upd_same, T.cl, T.nS, Nat.lt_of_le_of_lt (putF_len _ _ _) (by show 1 < 1000; decide), ?_⟩
  have fb : ∀ o, Same F (upd H p o) := fun o b q z => by
    have : b ≠ p := fun w => by rw [w, fp] at z; cases z
    rw [upd_ne this]
    exact fh _ _ z
  generalize hH2 : upd (upd H p (.ins C dx (putF "code" cv []))) p (.ins C dx (putF "slips" sv (putF "code" cv []))) = H2
  have p2 : H2 p = some (.ins C dx (putF "slips" sv (putF "code" cv []))) := by rw [← hH2, upd_same]
  have o2 : ∀ b, b ≠ p → H2 b = H b := fun b hb => by rw [← hH2, upd_ne hb, upd_ne hb]
  have fh2 : Same F H2 := fun b q z => by
    have : b ≠ p := fun w => by rw [w, fp] at z; cases z
    rw [o2 b this]
    exact fh _ _ z
  have gd : Good (K := X.K) F H2 F H2 [cAny, cVal c, cVal s] [some (.ref p), some cv, some sv] := ⟨Ex.refl _ _, fh2, [[], [], []], ⟨rfl, ⟨rfl, _, rfl, dc⟩, ⟨rfl, _, rfl, ds⟩, trivial⟩, List.nodup_nil, fun c hc => nomatch hc⟩
  refine t2 c s _ _ _ _ _ _ gd ⟨fun z => ns (by unfold initL; rw [z]; rfl), fun d ed v F3 H3 ex sm ac => ?_, fun n en => absurd (by rw [en]; rfl) ns⟩
  obtain ⟨as, ac, hown⟩ := ac
  have e1 : initL (r3 c s).nx c s = onL d fun row => if noL c && (noL s && noLs row) then .ok ⟨c, s, row, [], []⟩ else .stuck := by unfold initL; rw [ed]; rfl
  rcases ac with ⟨row, rfl, r, xs, rfl, rfl, hr, dr⟩ | ⟨h0, _, _⟩
  case inr =>
    exfalso
    cases d with
    | list _ => cases h0
    | _ => exact ns e1
  rw [onL_list] at e1
  have okk : (noL c && (noL s && noLs row)) = true := by
    cases q : (noL c && (noL s && noLs row)) with
    | true => rfl
    | false => exact absurd (by rw [e1, q]; rfl) ns
  rw [okk, if_pos rfl] at e1
  obtain ⟨r0, r1⟩ := hown r (by simp)
  have p3 : H3 p = some (.ins C dx (putF "slips" sv (putF "code" cv []))) := ex.hh _ _ p2
  have npr : p ≠ r := fun z => by rw [z, r0] at p2; cases p2
  refine ⟨_, rfl, p, C, dx, _, rfl, p3, T.cl, T.nR, Nat.lt_of_le_of_lt (putF_len _ _ _) (Nat.lt_of_le_of_lt (Nat.succ_le_succ (putF_len _ _ _)) (by show 2 < 1000; decide)), Nat.zero_le _, fun e he => ?_⟩
  have npe : p ≠ e := fun z => by rw [z, upd_same] at he; cases he
  have he3 : H3 e = none := by rw [upd_ne (Ne.symm npe)] at he; exact he
  have nre : r ≠ e := fun z => by rw [z, he3] at hr; cases hr
  refine ⟨_, rfl, p, C, dx, _, rfl, (by rw [upd_ne npe, upd_same]), T.cl, T.nE, Nat.lt_of_le_of_lt (putF_len _ _ _) (Nat.lt_of_le_of_lt (Nat.succ_le_succ (Nat.le_trans (putF_len _ _ _) (Nat.succ_le_succ (putF_len _ _ _)))) (by show 3 < 1000; decide)), Nat.zero_le _, fun u hu => ?_⟩
  have npu : p ≠ u := fun z => by rw [z, upd_same] at hu; cases hu
  have neu : e ≠ u := fun z => by rw [z, upd_ne (Ne.symm npu), upd_same] at hu; cases hu
  have hu3 : H3 u = none := by rw [upd_ne (Ne.symm npu), upd_ne (Ne.symm neu), upd_ne (Ne.symm npu)] at hu; exact hu
  have nru : r ≠ u := fun z => by rw [z, hu3] at hr; cases hr
  refine ⟨_, rfl, p, C, dx, _, rfl, (by rw [upd_ne npu, upd_same]), T.cl, T.nU, ?_, ?_⟩
  · exact Nat.lt_of_le_of_lt (Nat.le_trans (putF_len _ _ _) (Nat.succ_le_succ (Nat.le_trans (putF_len _ _ _) (Nat.succ_le_succ (Nat.le_trans (putF_len _ _ _) (Nat.succ_le_succ (putF_len _ _ _))))))) (by show 4 < 1000; decide)
  rw [fl_made]
  have f3p : F3 p = none := by rw [ex.eq p (by rw [p2]; exact fun z => nomatch z)]; exact fp
  have hn0 : ∀ b, H3 b = none → H b = none ∨ b = p := fun b hb => by
    by_cases w : b = p
    · exact .inr w
    · left
      rw [← o2 b w]
      cases q : H2 b with
      | none => rfl
      | some o => rw [ex.hh _ _ q] at hb; cases hb
  refine hok _ e1 F3 _ [p, r, e, u] _ ⟨ex.ff, fun b o z => ?_, fun b o z hb => ?_, fun b hb => ?_, fun b hb => ?_, fun b hb => upd_nf (upd_nf (upd_nf (upd_nf (upd_nf (Same.ne' ex.hh (by rw [← hH2]; exact upd_nf (upd_nf hb)))))))⟩ ⟨dx, r, e, u, cv, sv, xs, [], [], rfl, ?_⟩
  · have z3 := sm _ _ z
    have w1 : b ≠ p := fun w => by rw [w, f3p] at z; cases z
    have w2 : b ≠ e := fun w => by rw [w, he3] at z3; cases z3
    have w3 : b ≠ u := fun w => by rw [w, hu3] at z3; cases z3
    rw [upd_ne w1, upd_ne w3, upd_ne w1, upd_ne w2, upd_ne w1]
    exact z3
  · have w1 : b ≠ p := fun w => hb (by simp [w])
    have z3 : H3 b = some o := ex.hh _ _ (by rw [o2 b w1]; exact z)
    have w2 : b ≠ e := fun w => by rw [w, he3] at z3; cases z3
    have w3 : b ≠ u := fun w => by rw [w, hu3] at z3; cases z3
    rw [upd_ne w1, upd_ne w3, upd_ne w1, upd_ne w2, upd_ne w1]
    exact z3
  · by_cases w : b = p
    · rw [w, f3p, fp]
    · exact ex.eq b (by rw [o2 b w]; exact hb)
  · simp only [List.mem_cons, List.not_mem_nil, or_false] at hb ⊢
    rcases hb with rfl | rfl | rfl | rfl
    · exact ⟨f3p, .inl rfl⟩
    · exact ⟨r1, .inr (by rw [← o2 b (Ne.symm npr)]; exact r0)⟩
    · exact ⟨Same.free sm he3, .inr ((hn0 b he3).resolve_right (Ne.symm npe))⟩
    · exact ⟨Same.free sm hu3, .inr ((hn0 b hu3).resolve_right (Ne.symm npu))⟩
  · refine ⟨upd_same, ?_, ?_, ?_, Dp.mono ex.ff _ _ dc, Dp.mono ex.ff _ _ ds, dr, .nil, .nil, nre, nru, neu, ?_⟩
    · rw [upd_ne (Ne.symm npr), upd_ne nru, upd_ne (Ne.symm npr), upd_ne nre, upd_ne (Ne.symm npr)]
      exact hr
    · rw [upd_ne (Ne.symm npe), upd_ne neu, upd_ne (Ne.symm npe), upd_same]
    · rw [upd_ne (Ne.symm npu), upd_same]
    · simp only [okLi, Bool.and_eq_true] at okk ⊢
      exact ⟨okk.1, okk.2.1, okk.2.2, rfl, rfl⟩
end
end DL
namespace DL
open PySem L2 PySem.Spec PyProof.Rows
section
variable {P : Program} {w : World} {K : PySem.W.Frag} {mg : Str → Option Value} {base : Heap}
theorem fn_init {x qual : Str} {st : Stmt} {f : Addr} {fd : FuncData} {N ps : List Str} {k : Nat} {C : Addr} {r3 : D → D → Res D} (F : Fun K x qual st f fd) (S : FnScope N ps (defScope st)) (hn : ps.length = 3) (hm : N.length = 3)
    (hb : ∀ (cdv : Value) (A : Around) (outer : List PySem.Env) (s : Shared) (H : Hp) (E : XK), Ctx (cxD P w K mg base N qual st f cdv A outer s H E) (Wf E) → IM (cxD P w K mg base N qual st f cdv A outer s H E) (Wf E) C r3 (defBody st)) : FnOk P w K mg base (L2N.CX P w) (k + 1) f fd ps (spI K C r3) := by
  obtain ⟨oc, od, kV, doc, pm, an, cdv, ct, osl, rfl, lk, hcd⟩ := F.ex
  refine fn_of lk hcd S (fun vs H Q E h => ?_) (fun A outer s H vs Q E hr h => ?_)
  · obtain ⟨_, _, _, _, _, _, _, rfl, _⟩ := h
    exact hn.symm
  · obtain ⟨F0, p, dx, cv, sv, c, s0, rfl, fh, hp, fp, dc, ds, ns, hok⟩ := h
    obtain ⟨t, t1, t2⟩ := hb cdv A outer s H E (ctx_fn S.nd hr)
    refine ⟨t, t1, ?_⟩
    have es' : L2.start N [V.ref p, cv, sv] = [some (.ref p), some cv, some sv] := by
      unfold L2.start
      rw [hm]
      rfl
    rw [es']
    exact t2 F0 H p dx cv sv c s0 _ fh hp fp dc ds ns fun l el F' H' ow σ' mt xl => hok l el F' H' ow mt xl
/-- a class whose __init__ keeps its promise -/
structure DefI (P : Program) (w : World) (K : PySem.W.Frag) (mg : Str → Option Value) (base : Heap) (C : Addr) (k : Nat) (r3 : D → D → Res D) : Prop where
  ex : ∃ f fd ps, FnOk P w K mg base (L2N.CX P w) k f fd ps (spI K C r3) ∧ Mk K C f ∧ Binds K fd ps []
end
theorem good_mut {K : PySem.W.Frag} {B H0 F H : Hp} {ρ : Env K} {σ : L2.St} {i : Nat} {C : Addr} {d0 : D} (g : Good B H0 F H ρ σ) (hρ : ρ[i]? = some (cLi C d0)) :
    ∃ a as l, σ[i]? = some (some (.ref a)) ∧ d0 = l.d ∧ LiAt K C F H a as l ∧ (∀ b ∈ as, F b = none) ∧ ∀ F' H' ow' (l' : Li), MutTo F H as F' H' ow' → LiAt K C F' H' a ow' l' → Good B H0 F' H' (ρ.set i (cLi C l'.d)) σ := by
  obtain ⟨e, f, ass, h1, h2, h3⟩ := g
  obtain ⟨v, as, g1, g2, a, l, rfl, rfl, x⟩ := h1.get hρ
  have ina : ∀ b ∈ as, b ∈ ass.flatten := fun b hb => List.mem_flatten.mpr ⟨as, List.mem_of_getElem? g2, hb⟩
  refine ⟨a, as, l, g1, rfl, x, fun b hb => (h3 b (ina b hb)).1, fun F' H' ow' l' m x' => ?_⟩
  have th := h1.there
  have s3 := Slots.set (i := i) (c := (cAny : Cell K)) (v := some (V.ref a)) (as := []) h1 rfl
  rw [set_self g1] at s3
  have s4 : Slots F' H' (ρ.set i cAny) σ (ass.set i []) := s3.mono m.ff fun b hb => by
    have nb : b ∉ as := fun z => not_in_set h2 g2 z List.not_mem_nil hb
    have hb' : b ∈ ass.flatten := (mem_flatten_set hb).resolve_right fun z => nomatch z
    cases q : H b with
    | none => exact absurd q (th b hb')
    | some o => exact m.keep b o q nb
  have s5 := Slots.set (i := i) (c := (cLi C l'.d : Cell K)) (v := some (V.ref a)) (as := ow') s4 ⟨a, l', rfl, rfl, x'⟩
  rw [set_self g1, List.set_set, List.set_set] at s5
  have free0 : ∀ b, H b = none → H0 b = none := fun b hb => by
    cases q : H0 b with
    | none => rfl
    | some o => rw [e.hh _ _ q] at hb; cases hb
  refine ⟨⟨e.ff.trans m.ff, fun b o z => m.keep b o (e.hh _ _ z) fun hb => ?_, fun b hb => ?_⟩, m.fh, ass.set i ow', s5, nodup_flatten_set' h2 g2 x'.nd fun b hb => ?_, fun b hb => ?_⟩
  · rw [(h3 b (ina b hb)).2] at z; cases z
  · rw [m.eq b (Same.ne' e.hh hb), e.eq b hb]
  · rcases (m.ow b hb).2 with z | z
    · exact .inl z
    · exact .inr fun w => th b w z
  · rcases mem_flatten_set hb with z | z
    · exact ⟨by rw [m.eq b (th b z)]; exact (h3 b z).1, (h3 b z).2⟩
    · refine ⟨(m.ow b z).1, ?_⟩
      rcases (m.ow b z).2 with w | w
      · exact (h3 b (ina b w)).2
      · exact free0 b w
def makeR (r3 : D → D → Res D) : List D → Res D
  | [c, s] => (initL (r3 c s).nx c s).bd fun l => .ok l.d
  | _ => .stuck
section
variable {X : Cx} {W : WX} {rk m : Md} {ρ : Env X.K} {C : Addr} {k n : Nat} {d0 : D} {x f y : Str} {p p2 pos pos' cpos : Pos} {e e1 e2 : Expr} {es : List Expr} {rs : Res (List D)} {S T : Type}
/-- x = Listener(..) -/
theorem s1_make [Ct : Ctx X W] {r3 : D → D → Res D} (i : Nat) (T0 : LisC X.K X.mg C) (M : DefI X.prog X.w X.K X.mg X.base C k r3) (hr : Room (k + 1) X.A) (ha : AG X W ρ (e :: es) rs) (hl : (e :: es).length = 2 := by rfl)
    (hi : X.N[i]? = some x := by rfl) (hx : Loc X.env.scope x := by first | exact Or.inl rfl | exact Or.inr rfl) (hg : Gl X "Listener" := by rfl)
    (hs : swapsWith (.Call (.Name "Listener" p) (e :: es) [] cpos) (some (.Name x pos')) pos.line X.env = pure false := by rfl) (hf : X.fn x = true ∨ X.env.scope.names.lookup x = some .local := by first | exact .inl rfl | exact .inr rfl)
    (he : starEach (e :: es) X.env = (false, eval e X.env) :: starEach es X.env := by rfl) (hpl : (backTo cpos (starEach es X.env)).any (·.1) = false := by rfl) :
    S1 X W rk ρ (.Assign [.Name x pos'] (.Call (.Name "Listener" p) (e :: es) [] cpos) pos) (rs.bd fun ds => makeR r3 ds) (fun d => .nx (ρ.set i (cLi C d))) := by
  obtain ⟨f0, fd, ps, Fo, Mk0, hb⟩ := M
  obtain ⟨al, ta, a1, a2⟩ := ha
  refine ⟨_, ps_set Ct.nd hi hx (pe_makeE (E := fun _ _ _ _ => False) Mk0 Fo hr hg T0.mgC hb a1 (by decide) he hpl) hs hf, fun B H0 F H σ D gd kn => ?_⟩
  refine a2 B H0 F H σ _ gd (KS.kn gd kn fun ds vs F1 H1 er ex1 sm1 dp gd1 kn1 => ?_)
  intro x0 dx hx0 hdx ndx
  have ld : ds.length = 2 := (al ds er).trans hl
  match ds, ld, dp, kn1 with
  | [c, s], _, dp, kn1 =>
    cases dp with
    | cons dc dp =>
      cases dp with
      | cons dsl dp =>
        cases dp
        rename_i cv sv
        have sm2 : Same H1 (upd (upd H1 dx (.own x0)) x0 (.ins C dx [])) := fun b o z => by
          rw [upd_ne (ne_of_none z hx0), upd_ne (ne_of_none z hdx)]
          exact z
        refine ⟨F1, x0, dx, cv, sv, c, s, rfl, sm1.trans sm2, upd_same, Same.free sm1 hx0, dc, dsl, fun z => kn1.ns (by show (initL _ c s).bd _ = _; rw [z]; rfl), fun l el F' H' ow mt xl => ⟨rfl, ?_⟩⟩
        have k2 := kn1.of_eq (r' := .ok l.d) (by show (initL _ c s).bd _ = _; rw [el]; rfl)
        have e12 : Ex F1 H1 F' H' := ⟨mt.ff, fun b o z => mt.keep b o (sm2 _ _ z) (fun hb => by
          rw [List.mem_singleton.mp hb, hx0] at z; cases z), fun b hb => mt.eq b (Same.ne' sm2 hb)⟩
        obtain ⟨q1, q2, ass, q3, q4, q5⟩ := id gd1
        have th := q3.there
        have g2 := gd1.go e12 mt.fh
        obtain ⟨w1, w2, _, _, _, _⟩ := id g2
        have fr : ∀ b ∈ ow, H1 b = none := fun b hb => by
          rcases (mt.ow b hb).2 with z | z
          · rw [List.mem_singleton.mp z]; exact hx0
          · cases q : H1 b with
            | none => rfl
            | some o => rw [sm2 _ _ q] at z; cases z
        have s3 : Slots F' H' ρ σ ass := q3.mono e12.ff fun b hb => Same.ne e12.hh (th b hb)
        have s5 := Slots.set (i := i) (c := (cLi C l.d : Cell X.K)) (v := some (V.ref x0)) (as := ow) s3 ⟨x0, l, rfl, rfl, xl⟩
        refine k2.ok l.d rfl F' H' _ ⟨w1, w2, ass.set i ow, s5, nodup_flatten_set q4 xl.nd fun b hb w => th b w (fr b hb), fun b hb => ?_⟩
        rcases mem_flatten_set hb with z | z
        · exact ⟨by rw [e12.eq b (th b z)]; exact (q5 b z).1, (q5 b z).2⟩
        · exact ⟨(mt.ow b z).1, Same.free q1.hh (fr b z)⟩
/-! ### what changes a slot while it is told -/
def ifX {S T : Type} (r : Res (Bool × S)) (ra : S → Res D) (mk : D → T) (r2 : S → Res T) : Res T := r.nx.bd fun q => if q.1 then (ra q.2).bd fun d => .ok (mk d) else r2 q.2
def retX {S T : Type} (r : Res (D × S)) (mk : D → T) : Res T := r.nx.bd fun q => .ok (mk q.1)
def cmpX {S : Type} (r : Res (D × S)) (rb : S → Res D) (g : D → D → Res D) : Res (D × S) := r.bd fun q => (rb q.2).bd fun d => (g q.1 d).bd fun z => .ok (z, q.2)
def tcmpX {S : Type} (r : Res (D × S)) (rb : S → Res D) (g : D → D → Res D) : Res (Bool × S) := r.bd fun q => (rb q.2).bd fun d => (g q.1 d).bd fun z => (bl z).bd fun c => .ok (c, q.2)
def orX {S : Type} (r : Res (Bool × S)) (rb : S → Res Bool) : Res (Bool × S) := r.bd fun q => if q.1 then .ok (true, q.2) else (rb q.2).bd fun c => .ok (c, q.2)
def callX (g : Li → List D → Res (D × Li)) (d0 : D) (r2 : Res D) : Res (D × D) := onLi d0 fun l => r2.bd fun d => (g l [d]).bd fun s => .ok (s.1, s.2.d)
structure EX (X : Cx) (W : WX) (ρ : Env X.K) (e : Expr) {T : Type} (r : Res (D × T)) (out : T → Env X.K) : Prop where
  ex : ∃ t, PE X e t ∧ ∀ B H0 F H σ Q, Good B H0 F H ρ σ → r.nx ≠ .stuck → (∀ d s, r = .ok (d, s) → ∀ v F' H', Good B H0 F' H' (out s) σ → Dp X.K F' v d → Q v H') → t σ H Q
structure TX (X : Cx) (W : WX) (ρ : Env X.K) (e : Expr) {T : Type} (r : Res (Bool × T)) (out : T → Env X.K) : Prop where
  ex : ∃ t, PT X e t ∧ ∀ B H0 F H σ Q, Good B H0 F H ρ σ → r.nx ≠ .stuck → (∀ b s, r = .ok (b, s) → ∀ F' H', Good B H0 F' H' (out s) σ → Q b H') → t σ H Q
/-- a def that is handed an object of one's own ahead, and a thing -/
structure DefO (P : Program) (w : World) (K : PySem.W.Frag) (mg : Str → Option Value) (base : Heap) (C : Addr) (x : Str) (k : Nat) (g : Li → List D → Res (D × Li)) : Prop where
  ex : ∃ f fd ps, FnOk P w K mg base (L2N.CX P w) k f fd ps (spM K mg C 1 g) ∧ mg x = some (.ref f) ∧ PySem.W.keepIn K (.ref f) = true ∧ Binds K fd ps []
theorem ex_call [Ct : Ctx X W] {g : Li → List D → Res (D × Li)} {r2 : Res D} (i : Nat) (hρ : ρ[i]? = some (cLi C d0)) (Df : DefO X.prog X.w X.K X.mg X.base C f k g) (hr : Room k X.A) (h2 : EG X W ρ .V e2 r2)
    (hN : X.N[i]? = some x := by rfl) (hv : Vis X.env.scope x := by first | exact Or.inl rfl | exact Or.inr (Or.inl rfl) | exact Or.inr (Or.inr rfl)) (hd : (x == ("__debug__" : Str)) = false := by decide) (hcd : (x == ("__classdict__" : Str)) = false := by decide)
    (hg : Gl X f := by rfl) (hdb : (f == ("__debug__" : Str)) = false := by decide) (he : starEach [.Name x p2, e2] X.env = (false, eval (.Name x p2) X.env) :: starEach [e2] X.env := by rfl) (he2 : starEach [e2] X.env = (false, eval e2 X.env) :: starEach [] X.env := by rfl) (hpl : (backTo pos (starEach [e2] X.env)).any (·.1) = false := by rfl) :
    EX X W ρ (.Call (.Name f p) [.Name x p2, e2] [] pos) (callX g d0 r2) (fun d => ρ.set i (cLi C d)) := by
  obtain ⟨fa, fd, ps, Fo, hm, hk, hb⟩ := Df
  obtain ⟨t, t1, t2⟩ := h2
  refine ⟨_, pe_callS Fo hr hg hm hk hb (fun σ => L2N.passAt Ct.tk σ) (pa_cons (pe_var hN hv hd hcd) (pa_cons t1 pa_nil he2) he) hdb he hpl, fun B H0 F H σ Q gd ns hok => ?_⟩
  obtain ⟨a, as, l, s0, rfl, x0, hn, _⟩ := good_mut gd hρ
  unfold callX at ns hok
  rw [onLi_d] at ns hok
  obtain ⟨q, hq⟩ := nx_ns ns
  refine ⟨_, s0, t2 B H0 F H σ _ gd ⟨(fun z => by rw [z] at hq; cases hq), fun d ed v F1 H1 ex1 sm1 dv => ?_, fun n en => by rw [en] at hq; cases hq⟩⟩
  rw [ed] at hq hok
  simp only [bd_ok] at hq hok
  obtain ⟨a', as', l', s0', el, x1, hn1, fin⟩ := good_mut (gd.go ex1 sm1) hρ
  rw [s0] at s0'
  cases s0'
  cases Li.inj el
  refine ⟨F1, a, as', l, [v], [d], rfl, sm1, x1, hn1, .cons dv .nil, rfl, (fun z => by rw [z] at hq; cases hq), fun d' l2 e2' v' F' H' ow' mt x2 dv' => ?_, fun n en => by rw [en] at hq; cases hq⟩
  exact hok d' l2.d (by rw [e2']; rfl) v' F' H' (fin F' H' ow' l2 mt x2) dv'
/-- a told thing compared -/
theorem ex_cmp {op : CmpOp} {g : D → D → Res D} {T : Type} {r : Res (D × T)} {out : T → Env X.K} {rb : T → Res D} (h : CmpD X W op g) (ha : EX X W ρ e1 r out) (hb : ∀ s, EG X W (out s) .T e2 (rb s)) (hm : behindInMarks op e2 = false := by rfl) :
    EX X W ρ (.Compare e1 [op] [e2] pos) (cmpX r rb g) out := by
  obtain ⟨rr, ho, hg⟩ := h
  obtain ⟨ta, a1, a2⟩ := ha
  have tP : ∃ t, PE X e2 t ∧ ∀ s B H0 F H σ Q, Good B H0 F H (out s) σ → Kn X W F H σ (rb s) (Acc X.K .T) Q → t σ H Q :=
    ⟨fun σ H Q => ∃ s B H0 F, Good B H0 F H (out s) σ ∧ Kn X W F H σ (rb s) (Acc X.K .T) Q, ⟨fun pins s' σ H Q I ⟨s, B, H0, F, g, k⟩ => by
      obtain ⟨t, t1, t2⟩ := hb s
      exact t1.run pins s' σ H Q I (t2 B H0 F H σ Q g k)⟩, fun s B H0 F H σ Q g k => ⟨s, B, H0, F, g, k⟩⟩
  obtain ⟨tb, b1, b2⟩ := tP
  unfold cmpX
  refine ⟨_, pe_cmpR ho a1 b1 hm, fun B H0 F H σ Q gd ns hok => a2 B H0 F H σ _ gd (fun z => ?_) fun d1 s er x F1 H1 gd1 dx => ?_⟩
  · obtain ⟨q, hq⟩ := nx_ns ns
    cases r with
    | ok q => cases z
    | exc n => cases hq
    | stuck => cases hq
  · obtain ⟨q, hq⟩ := nx_ns ns
    rw [er] at hq hok
    simp only [bd_ok] at hq hok
    refine b2 s B H0 F1 H1 σ _ gd1 ⟨(fun z => by rw [z] at hq; cases hq), fun d2 ed y F2 H2 ex2 sm2 q2 => ?_, fun n en => by rw [en] at hq; cases hq⟩
    rw [ed] at hq hok
    simp only [bd_ok] at hq hok
    refine hg F2 H2 σ x y d1 d2 Q sm2 (Tp.go ex2 (Dp.tp gd1.fh dx)) q2 ⟨(fun z => by rw [z] at hq; cases hq), fun d ed2 v F3 H3 ex3 sm3 ac => ?_, fun n en => by rw [en] at hq; cases hq⟩
    exact hok d s (by rw [ed2]; rfl) v F3 H3 ((gd1.go ex2 sm2).go ex3 sm3) ac
theorem tx_cmp {op : CmpOp} {g : D → D → Res D} {T : Type} {r : Res (D × T)} {out : T → Env X.K} {rb : T → Res D} (h : CmpD X W op g) (ha : EX X W ρ e1 r out) (hb : ∀ s, EG X W (out s) .T e2 (rb s)) (hm : behindInMarks op e2 = false := by rfl) :
    TX X W ρ (.Compare e1 [op] [e2] pos) (tcmpX r rb g) out := by
  obtain ⟨rr, ho, hg⟩ := h
  obtain ⟨ta, a1, a2⟩ := ha
  have tP : ∃ t, PE X e2 t ∧ ∀ s B H0 F H σ Q, Good B H0 F H (out s) σ → Kn X W F H σ (rb s) (Acc X.K .T) Q → t σ H Q :=
    ⟨fun σ H Q => ∃ s B H0 F, Good B H0 F H (out s) σ ∧ Kn X W F H σ (rb s) (Acc X.K .T) Q, ⟨fun pins s' σ H Q I ⟨s, B, H0, F, g, k⟩ => by
      obtain ⟨t, t1, t2⟩ := hb s
      exact t1.run pins s' σ H Q I (t2 B H0 F H σ Q g k)⟩, fun s B H0 F H σ Q g k => ⟨s, B, H0, F, g, k⟩⟩
  obtain ⟨tb, b1, b2⟩ := tP
  unfold tcmpX
  refine ⟨_, pt_cmpR ho a1 b1 hm, fun B H0 F H σ Q gd ns hok => a2 B H0 F H σ _ gd (fun z => ?_) fun d1 s er x F1 H1 gd1 dx => ?_⟩
  · obtain ⟨q, hq⟩ := nx_ns ns
    cases r with
    | ok q => cases z
    | exc n => cases hq
    | stuck => cases hq
  · obtain ⟨q, hq⟩ := nx_ns ns
    rw [er] at hq hok
    simp only [bd_ok] at hq hok
    refine b2 s B H0 F1 H1 σ _ gd1 ⟨(fun z => by rw [z] at hq; cases hq), fun d2 ed y F2 H2 ex2 sm2 q2 => ?_, fun n en => by rw [en] at hq; cases hq⟩
    rw [ed] at hq hok
    simp only [bd_ok] at hq hok
    refine hg F2 H2 σ x y d1 d2 _ sm2 (Tp.go ex2 (Dp.tp gd1.fh dx)) q2 ⟨(fun z => by rw [z] at hq; cases hq), fun d ed2 v F3 H3 ex3 sm3 ac => ?_, fun n en => by rw [en] at hq; cases hq⟩
    rw [ed2] at hq hok
    simp only [bd_ok] at hq hok
    cases d with
    | bool c =>
      have ac : Dp X.K F3 v (.bool c) := ac
      cases ac
      exact ⟨c, rfl, hok c s rfl F3 H3 ((gd1.go ex2 sm2).go ex3 sm3)⟩
    | _ => cases hq
theorem tx_or {T : Type} {r : Res (Bool × T)} {out : T → Env X.K} {rb : T → Res Bool} (ha : TX X W ρ e1 r out) (hb : ∀ s, TG' X W (out s) e2 (rb s)) :
    TX X W ρ (.BoolOp .Or [e1, e2] pos) (orX r rb) out := by
  obtain ⟨ta, a1, a2⟩ := ha
  have tP : ∃ t, PT X e2 t ∧ ∀ s B H0 F H σ Q, Good B H0 F H (out s) σ → Kn X W F H σ (rb s) aB Q → t σ H Q :=
    ⟨fun σ H Q => ∃ s B H0 F, Good B H0 F H (out s) σ ∧ Kn X W F H σ (rb s) aB Q, ⟨fun pins s' σ H Q I ⟨s, B, H0, F, g, k⟩ => by
      obtain ⟨t, t1, t2⟩ := hb s
      exact t1.run pins s' σ H Q I (t2 B H0 F H σ Q g k)⟩, fun s B H0 F H σ Q g k => ⟨s, B, H0, F, g, k⟩⟩
  obtain ⟨tb, b1, b2⟩ := tP
  unfold orX
  refine ⟨_, (pw_or a1 (pw_or1 b1)).pt, fun B H0 F H σ Q gd ns hok => a2 B H0 F H σ _ gd (fun z => ?_) fun c s er F1 H1 gd1 => ?_⟩
  · obtain ⟨q, hq⟩ := nx_ns ns
    cases r with
    | ok q => cases z
    | exc n => cases hq
    | stuck => cases hq
  · obtain ⟨q, hq⟩ := nx_ns ns
    rw [er] at hq hok
    simp only [bd_ok] at hq hok
    cases c with
    | true =>
      rw [if_pos rfl]
      exact hok true s rfl F1 H1 gd1
    | false =>
      simp only [Bool.false_eq_true, if_false] at hq hok ⊢
      refine b2 s B H0 F1 H1 σ _ gd1 ⟨(fun z => by rw [z] at hq; cases hq), fun c ec c' F2 H2 ex2 sm2 e0 => ?_, fun n en => by rw [en] at hq; cases hq⟩
      cases e0
      exact hok c s (by rw [ec]; rfl) F2 H2 (gd1.go ex2 sm2)
theorem sv_ifX {fin : T → Fin X.K} {blk rest : List Stmt} {mk : D → T} {r : Res (Bool × S)} {out : S → Env X.K} {ra : S → Res D} {r2 : S → Res T} (hc : TX X W ρ e r out) (hb : ∀ s, SV X W rk (out s) blk (ra s) Fin.rt) (hm : ∀ d, fin (mk d) = .rt d) (hr : ∀ s, SV X W rk (out s) rest (r2 s) fin) :
    SV X W rk ρ (.If e blk [] pos :: rest) (ifX r ra mk r2) fin := by
  unfold ifX
  obtain ⟨tc, c1, c2⟩ := hc
  have hu : PSs X rest (fun D σ H => ∃ s B H0 F, Good B H0 F H (out s) σ ∧ KS X W rk B H0 (r2 s) fin D) := ⟨fun pins s' σ H D I ⟨s, B, H0, F, g, q⟩ => by
    obtain ⟨u, u1, u2⟩ := hr s
    exact u1.run pins s' σ H D I (u2 B H0 F H σ D g q)⟩
  have hv : PSs X blk (fun D σ H => ∃ s B H0 F, Good B H0 F H (out s) σ ∧ KS X W rk B H0 (ra s) Fin.rt D) := ⟨fun pins s' σ H D I ⟨s, B, H0, F, g, q⟩ => by
    obtain ⟨u, u1, u2⟩ := hb s
    exact u1.run pins s' σ H D I (u2 B H0 F H σ D g q)⟩
  refine ⟨_, pss_cons (ps_if c1 hv pss_nil) hu, fun B H0 F H σ D g q => c2 B H0 F H σ _ g (fun z => q.ns (by rw [z]; rfl)) fun b s er F1 H1 gd1 => ?_⟩
  have q' := q.of_eq (r' := if b then (ra s).bd fun d => .ok (mk d) else r2 s) (by rw [er]; rfl)
  cases b with
  | true =>
    rw [if_pos rfl]
    have q2 := q'.of_eq (if_pos rfl)
    refine ⟨s, B, H0, F1, gd1, ⟨fun z => q2.ns (by rw [z]; rfl), fun d ed => ?_, fun n en => q2.xc n (by rw [en]; rfl)⟩⟩
    have z := q2.ok (mk d) (by rw [ed]; rfl)
    rw [hm] at z
    exact z
  | false =>
    rw [if_neg Bool.false_ne_true]
    exact ⟨s, B, H0, F1, gd1, q'.of_eq (if_neg Bool.false_ne_true)⟩
theorem sv_retX {fin : T → Fin X.K} {mk : D → T} {r : Res (D × S)} {out : S → Env X.K} (he : EX X W ρ e r out) (hm : ∀ d, fin (mk d) = .rt d) : SV X W .V ρ [.Return (some e) pos] (retX r mk) fin := by
  unfold retX
  obtain ⟨t, h1, h2⟩ := he
  refine ⟨_, pss_one (ps_ret h1), fun B H0 F H σ D g q => h2 B H0 F H σ _ g (fun z => q.ns (by rw [z]; rfl)) fun d s er v F' H' gd' dv => ?_⟩
  have z := q.ok (mk d) (by rw [er]; rfl)
  rw [hm] at z
  exact z v F' H' gd'.ex gd'.fh dv
end
end DL
/-! A try whose suite lets one method or another change an object. -/
namespace DL
open PySem L2 PySem.Spec PyProof.Rows
theorem mut_pre {F H F1 H1 F' H' : Hp} {as ow' : List Addr} (e : Ex F H F1 H1) (m : MutTo F1 H1 as F' H' ow') : MutTo F H as F' H' ow' :=
  ⟨e.ff.trans m.ff, m.fh, fun b o z hb => m.keep b o (e.hh _ _ z) hb, fun b hb => by rw [m.eq b (Same.ne' e.hh hb), e.eq b hb], fun b hb => ⟨(m.ow b hb).1, (m.ow b hb).2.imp id fun z => by
    cases q : H b with
    | none => rfl
    | some o => rw [e.hh _ _ q] at z; cases z⟩, fun b hb => m.nf b (Same.ne' e.hh hb)⟩
/-- what is wanted behind the suite -/
def tBM (K : PySem.W.Frag) (mg : Str → Option Value) (W : WX) (ρ : Env K) (C : Addr) (io ix : Nat) (r : Li → Res Li) : TS := fun D σ H => ∃ B H0 F a as l, σ[io]? = some (some (.ref a)) ∧ Good B H0 F H ρ σ ∧ LiAt K C F H a as l ∧ (∀ b ∈ as, F b = none) ∧ r l ≠ .stuck ∧
  (∀ l', r l = .ok l' → ∀ F' H' ow', MutTo F H as F' H' ow' → LiAt K C F' H' a ow' l' → D.nx (σ.set ix (some .non)) H') ∧ ∀ n, r l = .exc n → ∀ H' C', mg n = some C' → Same H H' → W C' none σ H'
structure BM (X : Cx) (W : WX) (ρ : Env X.K) (C : Addr) (io ix : Nat) (ss : List Stmt) (r : Li → Res Li) : Prop where
  ex : PSs X ss (tBM X.K X.mg W ρ C io ix r)
section
variable {X : Cx} {W : WX} {ρ : Env X.K} {C : Addr} {io ix k n : Nat} {c e : Expr} {es : List Expr} {s1 s2 : List Stmt} {rc : Res Bool} {r1 r2 : Li → Res Li} {rs : Res (List D)} {x y f : Str} {p p2 p3 pos apos cpos : Pos}
theorem bm_if (hc : TG' X W ρ c rc) (h1 : BM X W ρ C io ix s1 r1) (h2 : BM X W ρ C io ix s2 r2) : BM X W ρ C io ix [.If c s1 s2 pos] (fun l => ifR rc (r1 l) (r2 l)) := by
  obtain ⟨tc, c1, c2⟩ := hc
  obtain ⟨h1⟩ := h1
  obtain ⟨h2⟩ := h2
  have ps := pss_one (ps_if (pos := pos) c1 h1 h2)
  refine ⟨⟨fun pins s σ H D I ⟨B, H0, F, a, as, l, s0, g, x, hn, ns, hok, hxc⟩ => ps.run pins s σ H D I ?_⟩⟩
  refine c2 B H0 F H σ _ g ⟨fun z => ns (by show ifR rc _ _ = _; rw [z]; rfl), fun b eb b' F1 H1 e1 sm e0 => ?_, fun n en H' C' hm sm => hxc n (by show ifR rc _ _ = _; rw [en]; rfl) H' C' hm sm⟩
  cases e0
  have x1 : LiAt X.K C F1 H1 a as l := x.mono e1.ff fun b hb => Same.ne e1.hh (x.there b hb)
  have hn1 : ∀ b ∈ as, F1 b = none := fun b hb => by rw [e1.eq b (x.there b hb), hn b hb]
  have er : ∀ l, ifR rc (r1 l) (r2 l) = if b then r1 l else r2 l := fun l => by rw [eb]; rfl
  cases b with
  | true =>
    rw [if_pos rfl]
    have er' := (er l).trans (if_pos rfl)
    exact ⟨B, H0, F1, a, as, l, s0, g.go e1 sm, x1, hn1, fun z => ns (er'.trans z), fun l' e F' H' ow' mt xl => hok l' (er'.trans e) F' H' ow' (mut_pre e1 mt) xl, fun n e H' C' hm s => hxc n (er'.trans e) H' C' hm (e1.hh.trans s)⟩
  | false =>
    rw [if_neg Bool.false_ne_true]
    have er' := (er l).trans (if_neg Bool.false_ne_true)
    exact ⟨B, H0, F1, a, as, l, s0, g.go e1 sm, x1, hn1, fun z => ns (er'.trans z), fun l' e F' H' ow' mt xl => hok l' (er'.trans e) F' H' ow' (mut_pre e1 mt) xl, fun n e H' C' hm s => hxc n (er'.trans e) H' C' hm (e1.hh.trans s)⟩
theorem bm_meth [Ct : Ctx X W] {g : Li → List D → Res Li} (T : LisC X.K X.mg C) (hm : noFl f = true) (Df : DefL X.prog X.w X.K X.mg X.base C f k (spM X.K X.mg C n fun l ds => (g l ds).bd fun l' => .ok (.none, l'))) (hr : Room k X.A) (ha : AG X W ρ (e :: es) rs) (hl : (e :: es).length = n := by rfl)
    (hN : X.N[io]? = some x := by rfl) (hi : X.N[ix]? = some y := by rfl) (hx : Loc X.env.scope y := by first | exact Or.inl rfl | exact Or.inr rfl) (hv : Vis X.env.scope x := by first | exact Or.inl rfl | exact Or.inr (Or.inl rfl) | exact Or.inr (Or.inr rfl)) (hd : (x == ("__debug__" : Str)) = false := by decide) (hcd : (x == ("__classdict__" : Str)) = false := by decide)
    (hst : starEach (e :: es) X.env = (false, eval e X.env) :: starEach es X.env := by rfl) (hpl : (backTo cpos (starEach es X.env)).any (·.1) = false := by rfl) {pl : Sem Bool}
    (ht : eval (.Call (.Attribute (.Name x p2) f apos) (e :: es) [] cpos) X.env = (do
      let ov ← eval (.Name x p2) X.env
      standAt apos.atName
      let (f, first) ← holding [ov] (getMethod ov f pl)
      callWith cpos f first (backTo cpos (starEach (e :: es) X.env)) (backToKw cpos (keywordEach [] X.env))) := by rfl)
    (hs : swapsWith (.Call (.Attribute (.Name x p2) f apos) (e :: es) [] cpos) (some (.Name y p3)) pos.line X.env = pure false := by rfl) (hf : X.fn y = true ∨ X.env.scope.names.lookup y = some .local := by first | exact .inl rfl | exact .inr rfl) :
    BM X W ρ C io ix [.Assign [.Name y p3] (.Call (.Attribute (.Name x p2) f apos) (e :: es) [] cpos) pos] (fun l => rs.bd fun ds => g l ds) := by
  obtain ⟨f0, fd, ps, Fo, Mt, hb⟩ := Df
  obtain ⟨al, ta, a1, a2⟩ := ha
  have ps := pss_one (ps_set (pos := pos) (pos' := p3) Ct.nd hi hx (pe_methE (pl := pl) (pe_var hN hv hd hcd) T.cl Mt Fo hr hb (fun σ => L2N.passAt Ct.tk σ) a1 hst hpl ht) hs hf)
  refine ⟨⟨fun pins s σ H D I ⟨B, H0, F, a, as, l, s0, gd, x, hn, ns, hok, hxc⟩ => ps.run pins s σ H D I ?_⟩⟩
  obtain ⟨dx, r, e', u, cv, sv, xs, es', us, e0, qx⟩ := id x
  refine ⟨_, s0, a, dx, _, rfl, qx.ha, fl_no hm, a2 B H0 F H σ _ gd ⟨(fun z => ns (by show rs.bd _ = _; rw [z]; rfl)), (fun ds er vs F1 H1 e1 sm q1 => ?_), fun n en H' C' hm s => hxc n (by show rs.bd _ = _; rw [en]; rfl) H' C' hm s⟩⟩
  have eg : (rs.bd fun ds => g l ds) = g l ds := by rw [er]; rfl
  have x1 : LiAt X.K C F1 H1 a as l := x.mono e1.ff fun b hb => Same.ne e1.hh (x.there b hb)
  have hn1 : ∀ b ∈ as, F1 b = none := fun b hb => by rw [e1.eq b (x.there b hb), hn b hb]
  refine ⟨F1, a, as, l, vs, ds, rfl, sm, x1, hn1, q1, by rw [DpAll.length q1]; exact (al ds er).trans hl, fun z => ?_, fun d l' ed v F' H' ow' mt xl dv => ?_, fun y ey H' C' c s => ?_⟩
  · have z : ((g l ds).bd fun l' => (.ok (.none, l') : Res (DL.D × Li))) = .stuck := z
    cases q : g l ds with
    | ok l' => rw [q] at z; cases z
    | exc n => rw [q] at z; cases z
    | stuck => exact ns (eg.trans q)
  · have ed : ((g l ds).bd fun l' => (.ok (.none, l') : Res (DL.D × Li))) = .ok (d, l') := ed
    cases q : g l ds with
    | ok l2 =>
      rw [q] at ed
      cases ed
      cases dv
      exact hok _ (eg.trans q) F' H' ow' (mut_pre e1 mt) xl
    | exc n => rw [q] at ed; cases ed
    | stuck => rw [q] at ed; cases ed
  · have ey : ((g l ds).bd fun l' => (.ok (.none, l') : Res (DL.D × Li))) = .exc y := ey
    cases q : g l ds with
    | ok l2 => rw [q] at ey; cases ey
    | exc n => rw [q] at ey; cases ey; exact hxc _ (eg.trans q) H' C' c (e1.hh.trans s)
    | stuck => rw [q] at ey; cases ey
theorem bm_meth0 [Ct : Ctx X W] {g : Li → List D → Res Li} (T : LisC X.K X.mg C) (hm : noFl f = true) (Df : DefL X.prog X.w X.K X.mg X.base C f k (spM X.K X.mg C 0 fun l ds => (g l ds).bd fun l' => .ok (.none, l'))) (hr : Room k X.A)
    (hN : X.N[io]? = some x := by rfl) (hi : X.N[ix]? = some y := by rfl) (hx : Loc X.env.scope y := by first | exact Or.inl rfl | exact Or.inr rfl) (hv : Vis X.env.scope x := by first | exact Or.inl rfl | exact Or.inr (Or.inl rfl) | exact Or.inr (Or.inr rfl)) (hd : (x == ("__debug__" : Str)) = false := by decide) (hcd : (x == ("__classdict__" : Str)) = false := by decide) {pl : Sem Bool}
    (ht : eval (.Call (.Attribute (.Name x p2) f apos) [] [] cpos) X.env = (do
      let ov ← eval (.Name x p2) X.env
      standAt apos.atName
      let (f, first) ← holding [ov] (getMethod ov f pl)
      callWith cpos f first (backTo cpos (starEach [] X.env)) (backToKw cpos (keywordEach [] X.env))) := by rfl)
    (hs : swapsWith (.Call (.Attribute (.Name x p2) f apos) [] [] cpos) (some (.Name y p3)) pos.line X.env = pure false := by rfl) (hf : X.fn y = true ∨ X.env.scope.names.lookup y = some .local := by first | exact .inl rfl | exact .inr rfl) :
    BM X W ρ C io ix [.Assign [.Name y p3] (.Call (.Attribute (.Name x p2) f apos) [] [] cpos) pos] (fun l => g l []) := by
  obtain ⟨f0, fd, ps, Fo, Mt, hb⟩ := Df
  have ps := pss_one (ps_set (pos := pos) (pos' := p3) Ct.nd hi hx (pe_methE0 (pl := pl) (pe_var hN hv hd hcd) T.cl Mt Fo hr hb (fun σ => L2N.passAt Ct.tk σ) ht) hs hf)
  refine ⟨⟨fun pins s σ H D I ⟨B, H0, F, a, as, l, s0, gd, x, hn, ns, hok, hxc⟩ => ps.run pins s σ H D I ?_⟩⟩
  obtain ⟨dx, r, e', u, cv, sv, xs, es', us, e0, qx⟩ := id x
  refine ⟨_, s0, a, dx, _, rfl, qx.ha, fl_no hm, F, a, as, l, [], [], rfl, gd.fh, x, hn, .nil, rfl, fun z => ?_, fun d l' ed v F' H' ow' mt xl dv => ?_, fun y ey H' C' c s => ?_⟩
  · have z : ((g l []).bd fun l' => (.ok (.none, l') : Res (DL.D × Li))) = .stuck := z
    cases q : g l [] with
    | ok l' => rw [q] at z; cases z
    | exc n => rw [q] at z; cases z
    | stuck => exact ns q
  · have ed : ((g l []).bd fun l' => (.ok (.none, l') : Res (DL.D × Li))) = .ok (d, l') := ed
    cases q : g l [] with
    | ok l2 =>
      rw [q] at ed
      cases ed
      cases dv
      exact hok _ q F' H' ow' mt xl
    | exc n => rw [q] at ed; cases ed
    | stuck => rw [q] at ed; cases ed
  · have ey : ((g l []).bd fun l' => (.ok (.none, l') : Res (DL.D × Li))) = .exc y := ey
    cases q : g l [] with
    | ok l2 => rw [q] at ey; cases ey
    | exc n => rw [q] at ey; cases ey; exact hxc _ q H' C' c s
    | stuck => rw [q] at ey; cases ey
end
/-- what is told of a deed: a word, the object behind it -/
def doneR (r : Res Li) (l : Li) : Res (D × Li) := match r with
  | .ok l' => .ok (.str "", l')
  | .exc n => match wordOf n with | some w => .ok (.str w, l) | none => .stuck
  | .stuck => .stuck
/-- the body of the def -/
structure DM (X : Cx) (W : WX) (C : Addr) (r : D → Li → Res Li) (ss : List Stmt) : Prop where
  ex : ∃ t, PSs X ss t ∧ ∀ F H a as l vd d D, Same F H → LiAt X.K C F H a as l → (∀ b ∈ as, F b = none) → Dp X.K F vd d → doneR (r d l) l ≠ .stuck →
    (∀ q, doneR (r d l) l = .ok q → ∀ v F' H' ow', MutTo F H as F' H' ow' → LiAt X.K C F' H' a ow' q.2 → Dp X.K F' v q.1 → D.rt v H') → t D [some (.ref a), some vd, none, none, none] H
section
variable {X : Cx} {W : WX} {C : Addr} {k : Nat} {r : D → Li → Res Li} {body : List Stmt} {j1 j2 j3 : Nat} {a1 a2 a3 b1 b2 b3 p1 p2 p3 p4 p5 p8 p8' pos pos2 c1 c2 c3 c4 c5 c6 : Pos} {x f : Str}
theorem dm_done [Ct : Ctx X W] (T : LisC X.K X.mg C) (Dw : DefW X.prog X.w X.K X.mg X.base f k) (hr : Room k X.A) (Wc : WordC X.K X.mg)
    (n0 : X.N = [("listener" : Str), "deed", "name", "told", "e"]) (hl : ∀ x ∈ ([("listener" : Str), "deed", "name", "told", "e"] : List Str), X.env.scope.names.lookup x = some .local)
    (hb : ∀ (pn : List (Addr × Obj)) (xe : Value → Shared → Prop) (W' : WX) (d : D), Ctx (X.tr pn xe) W' → BM (X.tr pn xe) W' [cAny, cVal d, cVal (.str ""), cVal .none, cAny] C 0 3 body (r d))
    (hs1 : swapsWith (.Constant (.str "") j1 a2) (some (.Name "name" a1)) a3.line X.env = pure false := by rfl) (hs2 : swapsWith (.Constant .none j2 b2) (some (.Name "told" b1)) b3.line X.env = pure false := by rfl)
    (hstk : X.stack = X.env :: X.outer := by rfl) (hfr : X.env.frame = some X.env.locals := by rfl) (hln : X.env.kindOf ("e" : Str) = some .local := by rfl) (hgS : Gl X "SlipError" := by rfl) (hg : Gl X f := by rfl) (hdf : (f == ("__debug__" : Str)) = false := by decide)
    (hst : starEach [.Name "e" p1] X.env = (false, eval (.Name "e" p1) X.env) :: starEach [] X.env := by rfl) (hpl : (backTo p3 (starEach [] X.env)).any (·.1) = false := by rfl)
    (hs : swapsWith (.Call (.Name f p2) [.Name "e" p1] [] p3) (some (.Name "name" p4)) p5.line X.env = pure false := by rfl) :
    DM X W C r [.Assign [.Name "name" a1] (.Constant (.str "") j1 a2) a3, .Assign [.Name "told" b1] (.Constant .none j2 b2) b3,
      .Try body [.ExceptHandler (some (.Name "SlipError" p8)) (some "e") [.Assign [.Name "name" p4] (.Call (.Name f p2) [.Name "e" p1] [] p3) p5] p8'] [] [] pos,
      .Return (some (.IfExp (.Compare (.Name "told" c1) [.Is] [.Constant .none j3 c2] c3) (.Name "name" c4) (.Constant (.str "told") j3 c5) c6)) pos2] := by
  have dbg : ∀ x : Str, x ∈ ([("listener" : Str), "deed", "name", "told", "e"] : List Str) → (x == ("__debug__" : Str)) = false ∧ (x == ("__classdict__" : Str)) = false := by decide +kernel
  have i2 : X.N[2]? = some ("name" : Str) := by rw [n0]; rfl
  have i3 : X.N[3]? = some ("told" : Str) := by rw [n0]; rfl
  have i4 : X.N[4]? = some ("e" : Str) := by rw [n0]; rfl
  have l2 : X.env.scope.names.lookup ("name" : Str) = some .local := hl _ (by decide +kernel)
  have l3 : X.env.scope.names.lookup ("told" : Str) = some .local := hl _ (by decide +kernel)
  have l4 : X.env.scope.names.lookup ("e" : Str) = some .local := hl _ (by decide +kernel)
  have d2 := dbg "name" (by decide +kernel)
  have d3 := dbg "told" (by decide +kernel)
  have d4 := dbg "e" (by decide +kernel)
  obtain ⟨_, S, _, _, hS, _⟩ := Wc.all "TooFew" "few" (by decide)
  have run := fun d : DL.D => L2N.ps_try_as (X := X) (i := 4) (np := p8) (pos' := p8') (pos := pos) (body := body) (c := .ref S) (Wout := W) (ts := tsW X.K X.mg 4 2) hstk hfr Ct.nd i4 hln ⟨hgS, by decide, .inl hS⟩ Ct.tk
    (tb := fun W' => tBM X.K X.mg W' [cAny, cVal d, cVal (.str ""), cVal .none, cAny] C 0 3 (r d)) (fun W' pn xe tk po => (hb pn xe W' d (tr_ctx Ct tk po)).ex)
    (fun a oe cls dd pn hz hf => suite_word Dw hr hz hf i4 i2 hg hdf (.inl l2) (.inl l4) d4.1 d4.2 hst hpl hs (.inr l2))
  have runP : PS X (.Try body [.ExceptHandler (some (.Name "SlipError" p8)) (some "e") [.Assign [.Name "name" p4] (.Call (.Name f p2) [.Name "e" p1] [] p3) p5] p8'] [] [] pos) (fun D σ H => ∃ d, tBM X.K X.mg (L2.wAs X.K (.ref S) 4 (tsW X.K X.mg 4 2) W D) [cAny, cVal d, cVal (.str ""), cVal .none, cAny] C 0 3 (r d) D σ H) :=
    ⟨fun pins s σ H D I ⟨d, h⟩ => (run d).run pins s σ H D I h⟩
  have eR : ∀ dn : DL.D, EG X W [cAny, cAny, cVal dn, cVal .none, cAny] .V (.IfExp (.Compare (.Name "told" c1) [.Is] [.Constant .none j3 c2] c3) (.Name "name" c4) (.Constant (.str "told") j3 c5) c6) (ifR ((bd2 (.ok .none) (.ok .none) (fun d e => if isN e then isNoneV d else .stuck)).bd bl) (.ok dn) (.ok (.str "told"))) := fun dn =>
    eg_if (tg_cp c_isN (eg_var 3 rfl i3 (.inl l3) d3.1 d3.2).vt eg_non.vt) (eg_var 2 rfl i2 (.inl l2) d2.1 d2.2) eg_str
  have rP : ∃ t, PE X (.IfExp (.Compare (.Name "told" c1) [.Is] [.Constant .none j3 c2] c3) (.Name "name" c4) (.Constant (.str "told") j3 c5) c6) t ∧ ∀ dn B H0 F H σ Q, Good B H0 F H [cAny, cAny, cVal dn, cVal .none, cAny] σ → Kn X W F H σ (.ok dn) (Acc X.K .V) Q → t σ H Q :=
    ⟨fun σ H Q => ∃ (dn : DL.D) (B H0 F : Hp), Good B H0 F H ([cAny, cAny, cVal dn, cVal .none, cAny] : Env X.K) σ ∧ Kn X W F H σ (.ok dn) (Acc X.K .V) Q, ⟨fun pins s' σ H Q I ⟨dn, B, H0, F, g, k⟩ => by
      obtain ⟨t, t1, t2⟩ := eR dn
      exact t1.run pins s' σ H Q I (t2 B H0 F H σ Q g k)⟩, fun dn B H0 F H σ Q g k => ⟨dn, B, H0, F, g, k⟩⟩
  obtain ⟨tr, r1, r2⟩ := rP
  refine ⟨_, pss_cons (ps_set Ct.nd i2 (.inl l2) pe_str hs1 (.inr l2)) (pss_cons (ps_set Ct.nd i3 (.inl l3) pe_non hs2 (.inr l3)) (pss_cons runP (pss_one (ps_ret r1)))), fun F H a as l vd d D fh x hn dv ns hok => ?_⟩
  show ∃ _, _
  have gd : Good (K := X.K) F H F H [cAny, cVal d, cVal (.str ""), cVal .none, cAny] [some (.ref a), some vd, some (.str ""), some .non, none] :=
    ⟨Ex.refl _ _, fh, [[], [], [], [], []], ⟨rfl, ⟨rfl, _, rfl, dv⟩, ⟨rfl, _, rfl, .str _⟩, ⟨rfl, _, rfl, .non⟩, rfl, trivial⟩, List.nodup_nil, fun c hc => nomatch hc⟩
  have fin : ∀ (q : DL.D × Li) σ0 F' H' ow' (vn : V), doneR (r d l) l = .ok q → MutTo F H as F' H' ow' → LiAt X.K C F' H' a ow' q.2 → Dp X.K F' vn q.1 → σ0 = [some (.ref a), some vd, some vn, some .non, none] → tr σ0 H' (fun v H2 => D.rt v H2) := fun q σ0 F' H' ow' vn eq mt xl dn es => by
    subst es
    have g' : Good (K := X.K) F' H' F' H' [cAny, cAny, cVal q.1, cVal .none, cAny] [some (.ref a), some vd, some vn, some .non, none] :=
      ⟨Ex.refl _ _, mt.fh, [[], [], [], [], []], ⟨rfl, rfl, ⟨rfl, _, rfl, dn⟩, ⟨rfl, _, rfl, .non⟩, rfl, trivial⟩, List.nodup_nil, fun c hc => nomatch hc⟩
    refine r2 q.1 _ _ _ _ _ _ g' ⟨ok_ns _, fun d2 ed v F2 H2 ex2 sm2 ac => ?_, fun n en => by cases en⟩
    cases ed
    refine hok q eq v F2 H2 ow' ⟨mt.ff.trans ex2.ff, sm2, fun b o z hb => ex2.hh _ _ (mt.keep b o z hb), fun b hb => ?_, fun b hb => ⟨?_, (mt.ow b hb).2⟩, fun b hb => Same.ne' ex2.hh (mt.nf b hb)⟩ (xl.mono ex2.ff fun b hb => Same.ne ex2.hh (xl.there b hb)) ac
    · rw [ex2.eq b (mt.nf b hb), mt.eq b hb]
    · rw [ex2.eq b (xl.there b hb)]; exact (mt.ow b hb).1
  refine ⟨d, F, H, F, a, as, l, rfl, gd, x, hn, fun z => ns (by unfold doneR; rw [z]), fun l' el F' H' ow' mt xl => ?_, fun n en H' Cv hC ss => ?_⟩
  · exact fin (.str "", l') _ F' H' ow' (.str "") (by unfold doneR; rw [el]) mt xl (.str _) rfl
  · have : ∃ w, wordOf n = some w := by
      cases ew : wordOf n with
      | some w => exact ⟨w, rfl⟩
      | none => exact absurd (by unfold doneR; rw [en]; simp only [ew]) ns
    obtain ⟨w, hw⟩ := this
    obtain ⟨Dd, S', hmn, G, hS', hex, _⟩ := Wc.all n w hw
    rw [hS] at hS'
    cases hS'
    rw [hmn] at hC
    cases hC
    refine ⟨true, hex, fun _ a2 ha2 => ⟨Dd, n, w, rfl, rfl, G, hmn, hw, rfl, fun H2 s2 => ?_⟩, fun z => Bool.noConfusion z⟩
    have x2 : LiAt X.K C F H2 a as l := x.mono (Same.refl _) fun b hb => Same.ne (ss.trans s2) (x.there b hb)
    exact fin (.str w, l) _ F H2 as (.str w) (by unfold doneR; rw [en]; simp only [hw]) ⟨Same.refl _, fh.trans (ss.trans s2), fun b o z _ => (ss.trans s2) _ _ z, fun b hb => rfl, fun b hb => ⟨hn b hb, .inl hb⟩, fun b hb => Same.ne' (ss.trans s2) hb⟩ x2 (.str _) rfl
end
end DL
/-! The methods of a listener, as functions of data. -/
namespace DL
open PySem L2 PySem.Spec PyProof.Rows
def iniR (c s : D) : Res D := bd2 ((consR (Res.ok PyData.none) (Res.ok ([] : List D))).bd lstR) ((bd2 (Res.ok c) (Res.ok (PyData.int 2)) ixV).bd lenV) repV
def b_need (l : Li) (num : D) : Res (Ctl Unit) := ifR (orR ((bd2 (Res.ok num) (Res.ok (PyData.int 0)) ltV).bd bl) ((bd2 (Res.ok num) ((Res.ok (PyData.list l.row)).bd lenV) geV).bd bl)) (Res.exc "NoPlace") (Res.ok (Ctl.next ()))
def needG (l : Li) : List D → Res D
  | [num] => (b_need l num).thenC id fun _ => .ok .none
  | _ => .stuck
def putG (l : Li) : List D → Res Li
  | [n, e] => putL l n e
  | _ => .stuck
def hearG (l : Li) : List D → Res Li
  | [num, ent] => (((consR (Res.ok num) (Res.ok ([] : List D))).bd fun ds => if noLs ds then (needG l ds).bd (chT .V) else .stuck).bd fun _ => ((ifR (orR ((bd2 (Res.ok ent) (Res.ok (PyData.int 0)) ltV).bd bl) ((bd2 (Res.ok ent) (bd2 (Res.ok l.code) (Res.ok (PyData.int 0)) ixV) geV).bd bl)) (Res.exc "NoNumber") (Res.ok ())).bd fun _ =>
    ((ifR ((bd2 (bd2 (Res.ok (PyData.list l.row)) (Res.ok num) ixV) (Res.ok PyData.none) notNV).bd bl) (Res.exc "Heard") (Res.ok ())).bd fun _ => ((consR (Res.ok num) (consR (Res.ok ent) (Res.ok ([] : List D)))).bd fun ds => if noLs ds then ((putG l ds).bd fun l' => (.ok (.none, l') : Res (D × Li))).bd fun s => .ok s.2 else .stuck))))
  | _ => .stuck
def forgetG (l : Li) : List D → Res Li
  | [num] => (((consR (Res.ok num) (Res.ok ([] : List D))).bd fun ds => if noLs ds then (needG l ds).bd (chT .V) else .stuck).bd fun _ =>
    ((ifR ((bd2 (bd2 (Res.ok (PyData.list l.row)) (Res.ok num) ixV) (Res.ok PyData.none) isNV).bd bl) (Res.exc "NotHeard") (Res.ok ())).bd fun _ => ((consR (Res.ok num) (consR (Res.ok PyData.none) (Res.ok ([] : List D)))).bd fun ds => if noLs ds then ((putG l ds).bd fun l' => (.ok (.none, l') : Res (D × Li))).bd fun s => .ok s.2 else .stuck)))
  | _ => .stuck
def backG (l : Li) : List D → Res Li
  | [] => turnL true l
  | _ => .stuck
def againG (l : Li) : List D → Res Li
  | [] => turnL false l
  | _ => .stuck
def rowG (l : Li) : List D → Res D
  | [] => (Res.ok (PyData.list l.row)).bd listV
  | _ => .stuck
/-- a deed at a listener -/
def deedR (deed : D) (l : Li) : Res Li := ifR ((bd2 (bd2 (Res.ok deed) (Res.ok (PyData.int 0)) ixV) (Res.ok (PyData.str "hear")) eqV).bd bl) ((consR (bd2 (Res.ok deed) (Res.ok (PyData.int 1)) ixV) (consR (bd2 (Res.ok deed) (Res.ok (PyData.int 2)) ixV) (Res.ok ([] : List D)))).bd fun ds => hearG l ds)
  (ifR ((bd2 (bd2 (Res.ok deed) (Res.ok (PyData.int 0)) ixV) (Res.ok (PyData.str "forget")) eqV).bd bl) ((consR (bd2 (Res.ok deed) (Res.ok (PyData.int 1)) ixV) (Res.ok ([] : List D))).bd fun ds => forgetG l ds)
  (ifR ((bd2 (bd2 (Res.ok deed) (Res.ok (PyData.int 0)) ixV) (Res.ok (PyData.str "back")) eqV).bd bl) (backG l []) (againG l [])))
def doneG (l : Li) : List D → Res (D × Li)
  | [deed] => doneR (deedR deed l) l
  | _ => .stuck
section
variable {P : Program} {w : World} {K : PySem.W.Frag} {mg : Str → Option Value} {base : Heap}
theorem fn_done {x qual : Str} {st : Stmt} {f : Addr} {fd : FuncData} {N ps : List Str} {k : Nat} {C : Addr} (F : Fun K x qual st f fd) (S : FnScope N ps (defScope st)) (hn : ps.length = 2) (hm : N.length = 5)
    (hb : ∀ (cdv : Value) (A : Around) (outer : List PySem.Env) (s : Shared) (H : Hp) (E : XK), Room k (A.deeper (envOfC qual (defScope st) s.heap.objs.size f cdv)) → Ctx (cxD P w K mg base N qual st f cdv A outer s H E) (Wf E) → DM (cxD P w K mg base N qual st f cdv A outer s H E) (Wf E) C deedR (defBody st)) : FnOk P w K mg base (L2N.CX P w) (k + 1) f fd ps (spM K mg C 1 doneG) := by
  obtain ⟨oc, od, kV, doc, pm, an, cdv, ct, osl, rfl, lk, hcd⟩ := F.ex
  refine fn_of lk hcd S (fun vs H Q E h => ?_) (fun A outer s H vs Q E hr h => ?_)
  · obtain ⟨_, _, _, _, rest, _, rfl, _, _, _, _, h, _⟩ := h
    rw [List.length_cons, h, hn]
  · obtain ⟨F0, a, ow, l, rest, ds, rfl, fh, x, hnn, dp, hl, ns, hok, hxc⟩ := h
    obtain ⟨t, t1, t2⟩ := hb cdv A outer s H E hr (ctx_fn S.nd hr)
    refine ⟨t, t1, ?_⟩
    cases dp with
    | nil => cases hl
    | cons dv dp =>
      cases dp with
      | cons _ _ => cases hl
      | nil =>
        rename_i vd d
        have es' : L2.start N [V.ref a, vd] = [some (.ref a), some vd, none, none, none] := by
          unfold L2.start
          rw [hm]
          rfl
        rw [es']
        exact t2 F0 H a ow l vd d _ fh x hnn dv ns fun q eq v F' H' ow' mt xl dq => hok q.1 q.2 eq v F' H' ow' mt xl dq
/-- what a law has of the class -/
structure LisD (P : Program) (w : World) (K : PySem.W.Frag) (mg : Str → Option Value) (base : Heap) (C : Addr) : Prop where
  cls : LisC K mg C
  init : DefI P w K mg base C 1 iniR
  row : DefL P w K mg base C "row" 1 (spR K mg C 0 .O rowG)
  done : DefO P w K mg base C "_law_done" 3 doneG
end
end DL
/-! range(a, b, -1) -/
namespace DL
open PySem L2
def rangeDV : D → D → D → Res (List D)
  | .int i, .int j, .int c => if decide (c = -1 ∧ -1000000 ≤ i ∧ i < 1000000 ∧ -1000000 ≤ j ∧ j < 1000000) then .ok (rangeC i (-1) (i - j).toNat) else .stuck
  | _, _, _ => .stuck
def rangeDR (ra rb rc : Res D) : Res (List D) := ra.bd fun a => rb.bd fun b => rc.bd fun c => rangeDV a b c
section
variable {X : Cx} {W : WX} {ρ : Env X.K} {a b c : Expr} {ra rb rc : Res D} {p pos : Pos}
theorem if_rangeD {tg : Expr} (ha : EG X W ρ .T a ra) (hb : EG X W ρ .T b rb) (hc : EG X W ρ .T c rc) (hm : X.mg "range" = none) (hg : Gl X "range" := by rfl)
    (hs : starEach [a, b, c] X.env = (false, eval a X.env) :: starEach [b, c] X.env := by rfl) (hs2 : starEach [b, c] X.env = (false, eval b X.env) :: starEach [c] X.env := by rfl) (hs3 : starEach [c] X.env = (false, eval c X.env) :: starEach [] X.env := by rfl)
    (hpl : (backTo pos (starEach [b, c] X.env)).any (·.1) = false := by rfl) : IF' X W ρ tg (.Call (.Name "range" p) [a, b, c] [] pos) (rangeDR ra rb rc) := by
  obtain ⟨t, h1, h2⟩ := ha
  obtain ⟨u, g1, g2⟩ := hb
  obtain ⟨v, f1, f2⟩ := hc
  refine ⟨_, pi_range3 hg hm (pa_cons h1 (pa_cons g1 (pa_cons f1 pa_nil hs3) hs2) hs) hs hpl, fun B H0 F H σ Q gd k => h2 B H0 F H σ _ gd (Kn.bd k aF_base fun d x F1 H1 _ e1 s1 q1 k1 => g2 B H0 F1 H1 σ _ (gd.go e1 s1) (Kn.bd k1 aF_base fun d2 y F2 H2 _ e2 s2 q2 k2 => f2 B H0 F2 H2 σ _ ((gd.go e1 s1).go e2 s2) (Kn.bd k2 aF_base fun d3 z F3 H3 _ e3 s3 q3 k3 => ?_)))⟩
  cases d <;> first | exact absurd rfl k3.ns | skip
  cases d2 <;> first | exact absurd rfl k3.ns | skip
  cases d3 <;> first | exact absurd rfl k3.ns | skip
  cases tp_int q1
  cases tp_int q2
  cases tp_int q3
  rename_i i _ j _ m _
  cases hc : decide (m = -1 ∧ -1000000 ≤ i ∧ i < 1000000 ∧ -1000000 ≤ j ∧ j < 1000000) with
  | false => exact absurd (by simp only [rangeDV, hc]; rfl) k3.ns
  | true =>
    have k4 := k3.of_eq (r' := .ok (rangeC i (-1) (i - j).toNat)) (by simp only [rangeDV, hc]; rfl)
    obtain ⟨c0, i0, i1, j0, j1⟩ := of_decide_eq_true hc
    subst c0
    exact ⟨i, j, -1, _, rfl, RgC.neg (by omega) (by omega) (by omega) (by omega), k4.ret (Ex.refl _ _) s3 (walk_rangeC _ _ _)⟩
end
end DL
/-! a list told and changed at once; len and list of a dict keyed by whole numbers -/
namespace DL
open PySem L2
def tmpApp (ra rb : Res D) : Res Unit := ra.bd fun d => onL d fun ds => rb.bd fun e => (app1 ds e).bd fun _ => .ok ()
section
variable {X : Cx} {W : WX} {rk m : Md} {ρ : Env X.K} {b e : Expr} {ra rb : Res D} {apos cpos pos p p2 : Pos} {x : Str} {d : D}
theorem s1_appTmp [C : Ctx X W] (hb : EG X W ρ .O b ra) (he : EG X W ρ .V e rb)
    (hbase : attributeBase b "append" X.env (eval b X.env) = eval b X.env := by rfl)
    (hfew : ((backTo cpos (starEach [e] X.env)).all (fun x => !x.1) && (backToKw cpos (keywordEach [] X.env)).all (fun x => x.1.isSome) && decide (([e] : List Expr).length + ([] : List Keyword).length + (if ([] : List Keyword).isEmpty then 0 else 1) < 30)) = true := by rfl)
    (hline : (apos.endLine == cpos.line) = true := by rfl) (hs : starEach [e] X.env = (false, eval e X.env) :: starEach [] X.env := by rfl) (hplain : (backTo cpos (starEach [] X.env)).any (·.1) = false := by rfl)
    (hsw : swapsWith (.Call (.Attribute b "append" apos) [e] [] cpos) none pos.line X.env = pure false := by rfl) :
    S1 X W rk ρ (.Expr (.Call (.Attribute b "append" apos) [e] [] cpos) pos) (tmpApp ra rb) (fun _ => .nx ρ) := by
  obtain ⟨tb, b1, b2⟩ := hb
  obtain ⟨te, e1, e2⟩ := he
  refine ⟨_, ps_expr (pe_bm PySem.F.plainAttrs_list PySem.F.slot_list_append PySem.F.type_list_append mt_append b1 (pa_cons e1 pa_nil hs) hbase hfew hline hs hplain) hsw, fun B H0 F H σ D gd kn => ?_⟩
  refine b2 B H0 F H σ _ gd (KS.kn gd kn fun d v F1 H1 er ex1 sm1 ac gd1 kn1 => ?_)
  obtain ⟨ds, rfl⟩ := onL_ns kn1.ns
  rw [onL_list] at kn1
  obtain ⟨as, hr, hn⟩ := ac
  rcases hr with ⟨_, z, r, xs, rfl, rfl, r1, r2⟩ | ⟨z, _⟩
  case inr => cases z
  cases z
  obtain ⟨r0, rf⟩ := hn r (by simp)
  refine ⟨.inl ⟨rfl, _, SqL.of r1⟩, e2 B H0 F1 H1 σ _ gd1 (KS.kn gd1 kn1 fun d2 w F2 H2 er2 ex2 sm2 ac2 gd2 kn2 => ?_)⟩
  cases c : decide (ds.length < 16777216) with
  | false => exact absurd (by simp only [app1, c]; rfl) kn2.ns
  | true =>
    have k3 := kn2.of_eq (r' := .ok ()) (by simp only [app1, c]; rfl)
    have rr : H2 r = some (.lst xs) := ex2.hh _ _ r1
    refine ⟨r, xs, w, rfl, rfl, rr, by rw [DpAll.length r2, PySem.sizeLine_eq]; exact of_decide_eq_true c, ?_⟩
    obtain ⟨q1, q2, ass, q3, q4, q5⟩ := gd
    have ex := ex1.trans ex2
    have f2 : F2 r = none := by rw [ex2.eq r (by rw [r1]; exact fun z => nomatch z)]; exact rf
    have nr : ∀ a ∈ ass.flatten, a ≠ r := fun a ha z => q3.there a ha (z ▸ r0)
    have ex0 := q1.trans ex
    refine k3.ok () rfl F2 _ σ ⟨⟨ex0.ff, fun a o z => ?_, ex0.eq⟩, fun a o z => ?_, ass, q3.mono ex.ff fun a ha => ?_, q4, fun a ha => ⟨?_, (q5 a ha).2⟩⟩
    · have : a ≠ r := fun w => by rw [w] at z; rw [q1.hh _ _ z] at r0; cases r0
      rw [upd_ne this]
      exact ex0.hh _ _ z
    · have : a ≠ r := fun w => by rw [w, f2] at z; cases z
      rw [upd_ne this]
      exact sm2 _ _ z
    · rw [upd_ne (nr a ha)]
      exact Same.ne ex.hh (q3.there a ha)
    · rw [ex.eq a (q3.there a ha)]
      exact (q5 a ha).1
def lenI (d : D) : Res D := match d with
  | .dict kvs => .ok (.int kvs.length)
  | _ => .stuck
def listI (d : D) : Res D := match d with
  | .dict kvs => .ok (.list (kvs.map (·.1)))
  | _ => .stuck
theorem kents_keys {K : PySem.W.Frag} {F : Hp} : ∀ {kvs : List (D × D)} {xs : List (Key × V)}, KEnts K F kvs xs → xs.length = kvs.length ∧ DpAll K F (xs.map fun kv => kV kv.1) (kvs.map (·.1))
  | [], [], _ => ⟨rfl, .nil⟩
  | q :: kvs, x :: xs, h => by
    cases h with
    | cons h t =>
      obtain ⟨l, t⟩ := kents_keys t
      obtain ⟨i, e1, e2, _⟩ := h
      obtain ⟨q1, q2⟩ := q
      obtain ⟨x1, x2⟩ := x
      subst e1 e2
      exact ⟨by simp [l], .cons (.int i) t⟩
  | [], _ :: _, h => nomatch h
  | _ :: _, [], h => nomatch h
theorem eg_lenI [C : Ctx X W] (i : Nat) (hρ : ρ[i]? = some (cDk d)) (hm : X.mg "len" = none) (hg : Gl X "len" := by rfl) (hN : X.N[i]? = some x := by rfl) (hv : Vis X.env.scope x := by first | exact Or.inl rfl | exact Or.inr (Or.inl rfl) | exact Or.inr (Or.inr rfl)) (hd : (x == ("__debug__" : Str)) = false := by decide)
    (hcd : (x == ("__classdict__" : Str)) = false := by decide) (he : starEach [.Name x p2] X.env = (false, eval (.Name x p2) X.env) :: starEach [] X.env := by rfl) (hpl : (backTo pos (starEach [] X.env)).any (·.1) = false := by rfl) : EG X W ρ .V (.Call (.Name "len" p) [.Name x p2] [] pos) (lenI d) := by
  refine ⟨_, pe_callB call_lenD hg hm PySem.boot_len (pa_cons (pe_var hN hv hd hcd) pa_nil he) (by decide) (by decide) he hpl, fun B H0 F H σ Q gd kn => ?_⟩
  obtain ⟨a, kvs, xs, rfl, s0, h1, h2, _⟩ := gd.dk hρ
  refine ⟨_, s0, a, xs, rfl, h1, ?_⟩
  rw [(kents_keys h2).1]
  exact kn_flat (k := kn) (s := gd.fh) rfl (.int _)
theorem eg_listI [C : Ctx X W] (i : Nat) (hρ : ρ[i]? = some (cDk d)) (hm : X.mg "list" = none) (hg : Gl X "list" := by rfl) (hN : X.N[i]? = some x := by rfl) (hv : Vis X.env.scope x := by first | exact Or.inl rfl | exact Or.inr (Or.inl rfl) | exact Or.inr (Or.inr rfl)) (hd : (x == ("__debug__" : Str)) = false := by decide)
    (hcd : (x == ("__classdict__" : Str)) = false := by decide) (he : starEach [.Name x p2] X.env = (false, eval (.Name x p2) X.env) :: starEach [] X.env := by rfl) (hpl : (backTo pos (starEach [] X.env)).any (·.1) = false := by rfl) : EG X W ρ .O (.Call (.Name "list" p) [.Name x p2] [] pos) (listI d) := by
  refine ⟨_, pe_callTy (call_listD C.calm) hg hm DL.boot_list (pa_cons (pe_var hN hv hd hcd) pa_nil he) (by decide) (by decide) he hpl, fun B H0 F H σ Q gd kn => ?_⟩
  obtain ⟨a, kvs, xs, rfl, s0, h1, h2, _⟩ := gd.dk hρ
  exact ⟨_, s0, a, xs, rfl, .inl h1, fun q hq => kn_newL kn gd.fh hq (kents_keys h2).2⟩
end
end DL
/-! Plain: how the operations on data reckon; loops by an invariant. -/
namespace DL
open PySem L2
@[simp] theorem addV_int (i j : Int) : addV (.int i) (.int j) = .ok (.int (i + j)) := id rfl
@[simp] theorem subV_int (i j : Int) : subV (.int i) (.int j) = .ok (.int (i - j)) := id rfl
@[simp] theorem ltV_int (i j : Int) : ltV (.int i) (.int j) = .ok (.bool (decide (i < j))) := id rfl
@[simp] theorem leV_int (i j : Int) : leV (.int i) (.int j) = .ok (.bool (decide (i ≤ j))) := id rfl
@[simp] theorem gtV_int (i j : Int) : gtV (.int i) (.int j) = .ok (.bool (decide (j < i))) := id rfl
@[simp] theorem geV_int (i j : Int) : geV (.int i) (.int j) = .ok (.bool (decide (j ≤ i))) := id rfl
@[simp] theorem augI_int (g : Int → Int → Int) (i j : Int) : augI g (.int i) (.int j) = .ok (.int (g i j)) := id rfl
@[simp] theorem negV_int (i : Int) : negV (.int i) = .ok (.int (-i)) := id rfl
theorem small_of {i : Int} (h1 : -(2 ^ 64) < i) (h2 : i < 2 ^ 64) : small i = true := decide_eq_true ⟨h1, h2⟩
theorem mulI_l {i : Int} (j : Int) (h : small i = true) : mulI (.int i) (.int j) = .ok (.int (i * j)) := by simp [mulI, h]
theorem mulI_r (i : Int) {j : Int} (h : small j = true) : mulI (.int i) (.int j) = .ok (.int (i * j)) := by simp [mulI, h]
theorem fdivV_int {i j : Int} (h1 : 0 < j) (h2 : j < 1073741824) : fdivV (.int i) (.int j) = .ok (.int (i / j)) := by simp [fdivV, h1, h2]
theorem modV_int {i j : Int} (h1 : 0 < j) : modV (.int i) (.int j) = .ok (.int (i % j)) := by simp [modV, h1]
theorem eqv_int (i j : Int) : PyData.eqv (.int i) (.int j) = decide (i = j) := by simp only [PyData.eqv]; exact Bool.beq_eq_decide_eq _ _
theorem shaped_int (i : Int) : SeqAt.shaped (.int i) = true := by simp [SeqAt.shaped, PyData.canLay0, PyData.depth]
theorem shaped_none : SeqAt.shaped .none = true := by simp [SeqAt.shaped, PyData.canLay0, PyData.depth]
theorem shaped_bool (i : Bool) : SeqAt.shaped (.bool i) = true := by simp [SeqAt.shaped, PyData.canLay0, PyData.depth]
@[simp] theorem eqV_int (i j : Int) : eqV (.int i) (.int j) = .ok (.bool (decide (i = j))) := by simp [eqV, shaped_int, eqv_int]
@[simp] theorem neV_int (i j : Int) : neV (.int i) (.int j) = .ok (.bool (!decide (i = j))) := by simp [neV, shaped_int, eqv_int]
theorem atI_lt {α : Type} {xs : List α} {i : Nat} {v : α} (h : xs[i]? = some v) : L2.atI xs (i : Int) = some v := L2.atI_nat h
theorem ix_list {xs : List D} {i : Int} {v : D} (h0 : 0 ≤ i) (h : xs[i.toNat]? = some v) : ixV (.list xs) (.int i) = .ok v := by
  have := L2.atI_nat h
  rw [Int.toNat_of_nonneg h0] at this
  simp [ixV, this]
theorem ix_tup {xs : List D} {i : Int} {v : D} (h0 : 0 ≤ i) (h : xs[i.toNat]? = some v) : ixV (.tuple xs) (.int i) = .ok v := by
  have := L2.atI_nat h
  rw [Int.toNat_of_nonneg h0] at this
  simp [ixV, this]
@[simp] theorem lenV_list (xs : List D) : lenV (.list xs) = .ok (.int xs.length) := id rfl
@[simp] theorem lenV_tup (xs : List D) : lenV (.tuple xs) = .ok (.int xs.length) := id rfl
abbrev intL (ns : List Int) : D := .list (ns.map .int)
theorem ix_ints {ns : List Int} {i : Int} (h0 : 0 ≤ i) (h : i < ns.length) : ∃ v, ns[i.toNat]? = some v ∧ ixV (intL ns) (.int i) = .ok (.int v) := by
  have hl : i.toNat < ns.length := by omega
  refine ⟨ns[i.toNat], List.getElem?_eq_getElem hl, ix_list h0 ?_⟩
  rw [List.getElem?_map, List.getElem?_eq_getElem hl]; rfl
@[simp] theorem ifR_ok {α : Type} (b : Bool) (x y : Res α) : ifR (.ok b) x y = if b then x else y := id rfl
@[simp] theorem andR_ok (b : Bool) (y : Res Bool) : andR (.ok b) y = if b then y else .ok false := id rfl
@[simp] theorem orR_ok (b : Bool) (y : Res Bool) : orR (.ok b) y = if b then .ok true else y := id rfl
@[simp] theorem notR_ok (b : Bool) : notR (.ok b) = .ok (!b) := id rfl
@[simp] theorem andV_ok (b : Bool) (y : Res D) : andV (.ok (.bool b)) y = if b then y else .ok (.bool false) := id rfl
@[simp] theorem orV_ok (b : Bool) (y : Res D) : orV (.ok (.bool b)) y = if b then .ok (.bool true) else y := id rfl
@[simp] theorem notV_ok (b : Bool) : notV (.ok (.bool b)) = .ok (.bool !b) := id rfl
theorem lstR_ok {xs : List D} (h : xs.length ≤ 16777216) : lstR xs = .ok (.list xs) := by simp [lstR, fits, h]
theorem tupR_ok {xs : List D} (h : xs.length ≤ 16777216) : tupR xs = .ok (.tuple xs) := by simp [tupR, fits, h]
@[simp] theorem lstR_nil : lstR [] = .ok (.list []) := id rfl
theorem app1_ok {xs : List D} {d : D} (h : xs.length < 16777216) : app1 xs d = .ok (.list (xs ++ [d])) := by simp [app1, h]
theorem in62_of {i : Int} (h0 : -(2 ^ 62) ≤ i) (h : i < 2 ^ 62) : in62 i = true := decide_eq_true ⟨h0, h⟩
theorem range1_ok {n : Int} (h0 : -(2 ^ 62) ≤ n) (h : n < 2 ^ 62) : range1 (.int n) = .ok (rangeL 0 n.toNat) := by simp [range1, in62_of h0 h]
theorem range2_ok {a n : Int} (ha : -(2 ^ 62) ≤ a) (ha' : a < 2 ^ 62) (h0 : -(2 ^ 62) ≤ n) (h : n < 2 ^ 62) : range2 (.int a) (.int n) = .ok (rangeL a (n - a).toNat) := by simp [range2, in62_of h0 h, in62_of ha ha']
theorem rangeL_get {a : Int} {n i : Nat} (h : i < n) : (rangeL a n)[i]? = some (.int (a + i)) := by
  unfold rangeL
  rw [List.getElem?_map, List.getElem?_range h]; rfl
theorem rangeL_len (a : Int) (n : Nat) : (rangeL a n).length = n := by simp [rangeL]
theorem rangeL_succ (a : Int) (n : Nat) : rangeL a (n + 1) = .int a :: rangeL (a + 1) n := by
  unfold rangeL
  rw [List.range_succ_eq_map, List.map_cons, List.map_map]
  simp only [List.cons.injEq, List.map_inj_left]
  exact ⟨by simp, fun x _ => by simp; omega⟩
theorem canLay_ints : ∀ ns : List Int, PyData.canLayAll0 (ns.map .int) = true
  | [] => rfl
  | n :: ns => by simp [PyData.canLayAll0, PyData.canLay0, canLay_ints ns]
theorem depth_ints : ∀ ns : List Int, PyData.depthAll (ns.map .int) = 0
  | [] => rfl
  | n :: ns => by simp [PyData.depthAll, PyData.depth, depth_ints ns]
theorem shaped_intL (ns : List Int) : SeqAt.shaped (intL ns) = true := by simp [SeqAt.shaped, PyData.canLay0, PyData.depth, canLay_ints, depth_ints]
theorem shaped_intT (ns : List Int) : SeqAt.shaped (.tuple (ns.map .int)) = true := by simp [SeqAt.shaped, PyData.canLay0, PyData.depth, canLay_ints, depth_ints]
theorem shaped_nil : SeqAt.shaped (.list []) = true := shaped_intL []
theorem shaped_intL' {α : Type} {f : α → Int} (l : List α) : SeqAt.shaped (.list (l.map fun x => PyData.int (f x))) = true := by
  have := shaped_intL (l.map f)
  rwa [show intL (l.map f) = PyData.list (l.map fun x => PyData.int (f x)) by unfold intL; rw [List.map_map]; rfl] at this
/-! ### loops -/
theorem forN_inv {S : Type} {body : D → S → Res S} (I : Nat → S → Prop) : ∀ (ds : List D) (i : Nat) (s : S), I i s → (∀ j d s, ds[j]? = some d → I (i + j) s → ∃ s', body d s = .ok s' ∧ I (i + j + 1) s') → ∃ s', forN body ds s = .ok s' ∧ I (i + ds.length) s'
  | [], i, s, h, _ => ⟨s, rfl, h⟩
  | d :: ds, i, s, h, st => by
    obtain ⟨s1, e, h1⟩ := st 0 d s rfl h
    obtain ⟨s2, e2, h2⟩ := forN_inv I ds (i + 1) s1 h1 fun j d' s' hj hs => by
      have := st (j + 1) d' s' (by simpa using hj) (by rw [show i + (j + 1) = i + 1 + j by omega]; exact hs)
      rw [show i + (j + 1) + 1 = i + 1 + j + 1 by omega] at this
      exact this
    refine ⟨s2, ?_, by rw [List.length_cons, show i + (ds.length + 1) = i + 1 + ds.length by omega]; exact h2⟩
    unfold forN
    rw [e]
    exact e2
theorem forN_range {S : Type} {body : D → S → Res S} (I : Nat → S → Prop) {a : Int} {n : Nat} {s : S} (h : I 0 s) (st : ∀ i s, i < n → I i s → ∃ s', body (.int (a + i)) s = .ok s' ∧ I (i + 1) s') : ∃ s', forN body (rangeL a n) s = .ok s' ∧ I n s' := by
  obtain ⟨s', e, h'⟩ := forN_inv I (rangeL a n) 0 s h fun j d s hj hs => by
    have hlt : j < n := by
      have := (List.getElem?_eq_some_iff.mp hj).1
      rwa [rangeL_len] at this
    rw [rangeL_get hlt] at hj
    cases hj
    rw [Nat.zero_add] at hs ⊢
    exact st j s hlt hs
  rw [rangeL_len, Nat.zero_add] at h'
  exact ⟨s', e, h'⟩
/-- a loop whose every turn goes on -/
theorem forC_inv {S : Type} {body : D → S → Res (Ctl S)} (I : Nat → S → Prop) : ∀ (ds : List D) (i : Nat) (s : S), I i s → (∀ j d s, ds[j]? = some d → I (i + j) s → ∃ s', body d s = .ok (.next s') ∧ I (i + j + 1) s') → ∃ s', forC body ds s = .ok (.next s') ∧ I (i + ds.length) s'
  | [], i, s, h, _ => ⟨s, rfl, h⟩
  | d :: ds, i, s, h, st => by
    obtain ⟨s1, e, h1⟩ := st 0 d s rfl h
    obtain ⟨s2, e2, h2⟩ := forC_inv I ds (i + 1) s1 h1 fun j d' s' hj hs => by
      have := st (j + 1) d' s' (by simpa using hj) (by rw [show i + (j + 1) = i + 1 + j by omega]; exact hs)
      rw [show i + (j + 1) + 1 = i + 1 + j + 1 by omega] at this
      exact this
    refine ⟨s2, ?_, by rw [List.length_cons, show i + (ds.length + 1) = i + 1 + ds.length by omega]; exact h2⟩
    rw [forC_cons, e]
    exact e2
theorem forC_range {S : Type} {body : D → S → Res (Ctl S)} (I : Nat → S → Prop) {a : Int} {n : Nat} {s : S} (h : I 0 s) (st : ∀ i s, i < n → I i s → ∃ s', body (.int (a + i)) s = .ok (.next s') ∧ I (i + 1) s') : ∃ s', forC body (rangeL a n) s = .ok (.next s') ∧ I n s' := by
  obtain ⟨s', e, h'⟩ := forC_inv I (rangeL a n) 0 s h fun j d s hj hs => by
    have hlt : j < n := by
      have := (List.getElem?_eq_some_iff.mp hj).1
      rwa [rangeL_len] at this
    rw [rangeL_get hlt] at hj
    cases hj
    rw [Nat.zero_add] at hs ⊢
    exact st j s hlt hs
  rw [rangeL_len, Nat.zero_add] at h'
  exact ⟨s', e, h'⟩
theorem forC_unit {body : D → Unit → Res (Ctl Unit)} : ∀ {ds : List D}, (∀ d ∈ ds, body d () = .ok (.next ())) → forC body ds () = .ok (.next ())
  | [], _ => rfl
  | d :: ds, h => by
    rw [forC_cons, h d (by simp)]
    exact forC_unit fun x hx => h x (by simp [hx])
theorem whileD_inv {S : Type} {test : S → Res Bool} {body : S → Res S} (I : S → Prop) (Post : S → Prop) (μ : S → Nat) (st : ∀ s, I s → (test s = .ok false ∧ Post s) ∨ (test s = .ok true ∧ ∃ s', body s = .ok s' ∧ I s' ∧ μ s' < μ s)) :
    ∀ (n : Nat) (s : S), μ s = n → I s → ∃ s', whileD test body s = .ok s' ∧ Post s' := by
  intro n
  induction n using Nat.strongRecOn with
  | ind n ih =>
    intro s e h
    rcases st s h with ⟨h1, h2⟩ | ⟨h1, s', h2, h3, h4⟩
    · exact ⟨s, by rw [whileD_unf, h1]; rfl, h2⟩
    · obtain ⟨s2, e2, p2⟩ := ih (μ s') (by omega) s' rfl h3
      exact ⟨s2, by rw [whileD_unf, h1]; simp [h2, e2], p2⟩
theorem forN_range_then {S T : Type} {P : Res T → Prop} {body : D → S → Res S} {k : S → Res T} (I : Nat → S → Prop) {a : Int} {n : Nat} {s : S} (h : I 0 s) (st : ∀ i s, i < n → I i s → ∃ s', body (.int (a + i)) s = .ok s' ∧ I (i + 1) s') (hk : ∀ s', I n s' → P (k s')) : P ((forN body (rangeL a n) s).bd k) := by
  obtain ⟨s', e, h'⟩ := forN_range I h st
  rw [e]
  exact hk s' h'
theorem forN_then {S T : Type} {P : Res T → Prop} {body : D → S → Res S} {k : S → Res T} (I : Nat → S → Prop) {ds : List D} {s : S} (h : I 0 s) (st : ∀ j d s, ds[j]? = some d → I j s → ∃ s', body d s = .ok s' ∧ I (j + 1) s') (hk : ∀ s', I ds.length s' → P (k s')) : P ((forN body ds s).bd k) := by
  obtain ⟨s', e, h'⟩ := forN_inv I ds 0 s h fun j d s hj hs => by rw [Nat.zero_add] at hs ⊢; exact st j d s hj hs
  rw [Nat.zero_add] at h'
  rw [e]
  exact hk s' h'
theorem forC_range_then {S T : Type} {P : Res T → Prop} {body : D → S → Res (Ctl S)} {mk : D → T} {k : S → Res T} (I : Nat → S → Prop) {a : Int} {n : Nat} {s : S} (h : I 0 s) (st : ∀ i s, i < n → I i s → ∃ s', body (.int (a + i)) s = .ok (.next s') ∧ I (i + 1) s') (hk : ∀ s', I n s' → P (k s')) : P ((forC body (rangeL a n) s).thenC mk k) := by
  obtain ⟨s', e, h'⟩ := forC_range I h st
  rw [e]
  exact hk s' h'
theorem forC_then {S T : Type} {P : Res T → Prop} {body : D → S → Res (Ctl S)} {mk : D → T} {k : S → Res T} (I : Nat → S → Prop) {ds : List D} {s : S} (h : I 0 s) (st : ∀ j d s, ds[j]? = some d → I j s → ∃ s', body d s = .ok (.next s') ∧ I (j + 1) s') (hk : ∀ s', I ds.length s' → P (k s')) : P ((forC body ds s).thenC mk k) := by
  obtain ⟨s', e, h'⟩ := forC_inv I ds 0 s h fun j d s hj hs => by rw [Nat.zero_add] at hs ⊢; exact st j d s hj hs
  rw [Nat.zero_add] at h'
  rw [e]
  exact hk s' h'
theorem whileD_then {S T : Type} {P : Res T → Prop} {test : S → Res Bool} {body : S → Res S} {k : S → Res T} {s : S} (I : S → Prop) (μ : S → Nat) (h : I s) (st : ∀ s, I s → (test s = .ok false ∧ P (k s)) ∨ (test s = .ok true ∧ ∃ s', body s = .ok s' ∧ I s' ∧ μ s' < μ s)) : P ((whileD test body s).bd k) := by
  obtain ⟨s', e, h'⟩ := whileD_inv I (fun s => P (k s)) μ st _ s rfl h
  rw [e]
  exact h'
/-- a comprehension whose parts are plain -/
theorem lcR_ok {cond : D → Res Bool} {elt : D → Res D} {c : D → Bool} {e : D → D} : ∀ {ds : List D}, (∀ d ∈ ds, cond d = .ok (c d)) → (∀ d ∈ ds, c d = true → elt d = .ok (e d)) → lcR cond elt ds = .ok ((ds.filter c).map e)
  | [], _, _ => rfl
  | d :: ds, h1, h2 => by
    have ih := lcR_ok (ds := ds) (fun x hx => h1 x (by simp [hx])) (fun x hx => h2 x (by simp [hx]))
    unfold lcR
    rw [h1 d (by simp)]
    cases hc : c d with
    | true => simp [hc, h2 d (by simp) hc, ih]
    | false => simp [hc, ih]
end DL
namespace DL
open PySem L2
abbrev intT (ns : List Int) : D := .tuple (ns.map .int)
@[simp] theorem seqItems_list (xs : List D) : seqItems (.list xs) = .ok xs := id rfl
@[simp] theorem seqItems_tup (xs : List D) : seqItems (.tuple xs) = .ok xs := id rfl
@[simp] theorem enumA_list (xs : List D) : enumA (.list xs) = .ok (enumX xs) := id rfl
@[simp] theorem enumA_tup (xs : List D) : enumA (.tuple xs) = .ok (enumX xs) := id rfl
@[simp] theorem zipAA_list (xs ys : List D) : zipAA (.list xs) (.list ys) = .ok (zipX xs ys) := id rfl
@[simp] theorem zipAA_tup (xs ys : List D) : zipAA (.tuple xs) (.tuple ys) = .ok (zipX xs ys) := id rfl
@[simp] theorem revA_tup (xs : List D) : revA (.tuple xs) = .ok (.tuple xs.reverse) := id rfl
@[simp] theorem revA_list (xs : List D) : revA (.list xs) = .ok (.list xs.reverse) := id rfl
@[simp] theorem tupleV_list (xs : List D) : tupleV (.list xs) = .ok (.tuple xs) := id rfl
@[simp] theorem tupleV_tup (xs : List D) : tupleV (.tuple xs) = .ok (.tuple xs) := id rfl
@[simp] theorem listV_list (xs : List D) : listV (.list xs) = .ok (.list xs) := id rfl
@[simp] theorem listV_tup (xs : List D) : listV (.tuple xs) = .ok (.list xs) := id rfl
@[simp] theorem max2V_int (i j : Int) : max2V (.int i) (.int j) = .ok (.int (if j > i then j else i)) := id rfl
@[simp] theorem min2V_int (i j : Int) : min2V (.int i) (.int j) = .ok (.int (if j < i then j else i)) := id rfl
theorem setL_int {zs : List Int} {k v : Int} (h0 : 0 ≤ k) (h : k < zs.length) : setL (zs.map .int) (.int k) (.int v) = .ok (intL (zs.set k.toNat v)) := by
  unfold setL L2.ixN
  simp [h0, h, List.map_set]
theorem repV_ints {xs : List Int} {n : Nat} (h : xs.length * n ≤ 16777216) (hn : n < 2 ^ 63) : repV (intL xs) (.int (n : Int)) = .ok (intL (List.replicate n xs).flatten) := by
  unfold repV
  have c : (decide (-(2 ^ 63) ≤ (n : Int) ∧ (n : Int) < 2 ^ 63) && fits ((xs.map PyData.int).length * ((n : Int)).toNat)) = true := by
    rw [List.length_map, Int.toNat_natCast]
    simp only [Bool.and_eq_true, decide_eq_true_eq, fits]
    refine ⟨⟨by omega, by omega⟩, h⟩
  show (if _ then _ else _) = _
  rw [if_pos c]
  simp [List.map_flatten]
theorem repV_zero {v : Int} {n : Nat} (h : n ≤ 16777216) : repV (intL [v]) (.int (n : Int)) = .ok (intL (List.replicate n v)) := by
  rw [repV_ints (by simpa using h) (by omega)]
  congr 2
  induction n with
  | zero => rfl
  | succ n ih => simp only [List.replicate_succ, List.flatten_cons, List.singleton_append, List.map_cons]; rw [ih (by omega)]
theorem addV_lists {xs ys : List Int} (h : xs.length + ys.length ≤ 16777216) : addV (intL xs) (intL ys) = .ok (intL (xs ++ ys)) := by
  simp [addV, fits, h]
/-- a comprehension over numbers -/
theorem lc_map {cond : D → Res Bool} {elt : D → Res D} {g : Int → D} : ∀ {xs : List Int}, (∀ a ∈ xs, cond (.int a) = .ok true) → (∀ a ∈ xs, elt (.int a) = .ok (g a)) → lcR cond elt (xs.map .int) = .ok (xs.map g)
  | [], _, _ => rfl
  | a :: xs, h1, h2 => by
    have ih := lc_map (xs := xs) (fun x hx => h1 x (by simp [hx])) (fun x hx => h2 x (by simp [hx]))
    simp only [List.map_cons]
    unfold lcR
    rw [h1 a (by simp), h2 a (by simp), ih]
    rfl
theorem zipX_cons (a b : D) (xs ys : List D) : zipX (a :: xs) (b :: ys) = .tuple [a, b] :: zipX xs ys := rfl
theorem lc_zip {cond : D → Res Bool} {elt : D → Res D} {g : Int → Int → Int} : ∀ {xs ys : List Int}, (∀ a b, cond (.tuple [.int a, .int b]) = .ok true) → (∀ a ∈ xs, ∀ b ∈ ys, elt (.tuple [.int a, .int b]) = .ok (.int (g a b))) → lcR cond elt (zipX (xs.map .int) (ys.map .int)) = .ok ((List.zipWith g xs ys).map .int)
  | [], _, _, _ => rfl
  | _ :: _, [], _, _ => rfl
  | a :: xs, b :: ys, h1, h2 => by
    have ih := lc_zip (xs := xs) (ys := ys) h1 (fun x hx y hy => h2 x (by simp [hx]) y (by simp [hy]))
    simp only [List.map_cons, zipX_cons]
    unfold lcR
    rw [h1, h2 a (by simp) b (by simp), ih]
    rfl
theorem enum_get {xs : List Int} {j : Nat} {d : D} (h : (enumX (xs.map .int))[j]? = some d) : ∃ a, xs[j]? = some a ∧ d = .tuple [.int (j : Nat), .int a] := by
  obtain ⟨e, h1, h2⟩ := enumX_get h
  rw [List.getElem?_map] at h1
  cases e2 : xs[j]? with
  | none => rw [e2] at h1; cases h1
  | some a => rw [e2] at h1; cases h1; exact ⟨a, rfl, h2⟩
theorem ints_get {xs : List Int} {j : Nat} {d : D} (h : (xs.map PyData.int)[j]? = some d) : ∃ a, xs[j]? = some a ∧ d = .int a := by
  rw [List.getElem?_map] at h
  cases e2 : xs[j]? with
  | none => rw [e2] at h; cases h
  | some a => rw [e2] at h; cases h; exact ⟨a, rfl, rfl⟩
end DL
/-! Plain: lemmas for reckoning in one step. -/
namespace DL
open PySem L2
theorem mulI_a {i j : Int} (h1 : -18446744073709551616 < i) (h2 : i < 18446744073709551616) : mulI (.int i) (.int j) = .ok (.int (i * j)) := mulI_l j (small_of (by omega) (by omega))
theorem mulI_b {i j : Int} (h1 : -18446744073709551616 < j) (h2 : j < 18446744073709551616) : mulI (.int i) (.int j) = .ok (.int (i * j)) := mulI_r i (small_of (by omega) (by omega))
theorem fdivV_a {i j : Int} (h1 : 0 < j) (h2 : j < 1073741824) : fdivV (.int i) (.int j) = .ok (.int (i / j)) := fdivV_int h1 h2
theorem range1_a {n : Int} (h0 : -4611686018427387904 ≤ n) (h : n < 4611686018427387904) : range1 (.int n) = .ok (rangeL 0 n.toNat) := range1_ok (by omega) (by omega)
theorem range2_a {a n : Int} (ha : -4611686018427387904 ≤ a) (ha' : a < 4611686018427387904) (h0 : -4611686018427387904 ≤ n) (h : n < 4611686018427387904) : range2 (.int a) (.int n) = .ok (rangeL a (n - a).toNat) := range2_ok (by omega) (by omega) (by omega) (by omega)
/-- an item, or 0 -/
def atD (ns : List Int) (i : Int) : Int := (ns[i.toNat]?).getD 0
theorem ix_intsA {ns : List Int} {i : Int} (h0 : 0 ≤ i) (h : i < ns.length) : ixV (.list (ns.map .int)) (.int i) = .ok (.int (atD ns i)) := by
  obtain ⟨v, h1, h2⟩ := ix_ints h0 h
  unfold atD
  rw [h1]; exact h2
theorem ix_intsT {ns : List Int} {i : Int} (h0 : 0 ≤ i) (h : i < ns.length) : ixV (.tuple (ns.map .int)) (.int i) = .ok (.int (atD ns i)) := by
  have hl : i.toNat < ns.length := by omega
  unfold atD
  rw [List.getElem?_eq_getElem hl]
  refine ix_tup h0 ?_
  rw [List.getElem?_map, List.getElem?_eq_getElem hl]; rfl
theorem atD_lo {ns : List Int} (h : ∀ x ∈ ns, 0 ≤ x) (i : Int) : 0 ≤ atD ns i := by
  unfold atD
  cases e : ns[i.toNat]? with
  | none => exact Int.le_refl _
  | some v => exact h v (List.mem_of_getElem? e)
theorem atD_hi {ns : List Int} {b : Int} (hb : 0 < b) (h : ∀ x ∈ ns, x < b) (i : Int) : atD ns i < b := by
  unfold atD
  cases e : ns[i.toNat]? with
  | none => exact hb
  | some v => exact h v (List.mem_of_getElem? e)
theorem isi_int_int (i : Int) : isiV "int" (.int i) = .ok (.bool true) := id rfl
theorem isi_bool_int (i : Int) : isiV "bool" (.int i) = .ok (.bool false) := id rfl
theorem isi_bool_bool (b : Bool) : isiV "bool" (.bool b) = .ok (.bool true) := id rfl
theorem isi_list_list (xs : List D) : isiV "list" (.list xs) = .ok (.bool true) := id rfl
theorem isi_tup_tup (xs : List D) : isiV "tuple" (.tuple xs) = .ok (.bool true) := id rfl
theorem isNV_int (i : Int) : isNV (.int i) .none = .ok (.bool false) := id rfl
theorem isNV_none : isNV .none .none = .ok (.bool true) := id rfl
theorem isNV_list (xs : List D) : isNV (.list xs) .none = .ok (.bool false) := id rfl
theorem isNV_tup (xs : List D) : isNV (.tuple xs) .none = .ok (.bool false) := id rfl
theorem notNV_int (i : Int) : notNV (.int i) .none = .ok (.bool true) := id rfl
theorem notNV_none : notNV .none .none = .ok (.bool false) := id rfl
theorem notNV_list (xs : List D) : notNV (.list xs) .none = .ok (.bool true) := id rfl
theorem notNV_tup (xs : List D) : notNV (.tuple xs) .none = .ok (.bool true) := id rfl
theorem addV_lst {xs ys : List D} (h : xs.length + ys.length ≤ 16777216) : addV (.list xs) (.list ys) = .ok (.list (xs ++ ys)) := by simp [addV, fits, h]
theorem addV_tup {xs ys : List D} (h : xs.length + ys.length ≤ 16777216) : addV (.tuple xs) (.tuple ys) = .ok (.tuple (xs ++ ys)) := by simp [addV, fits, h]
theorem partV_int (i : Int) : partV (.int i) = .ok (some i) := id rfl
theorem slR_list (ds : List D) (lo hi : Option Int) : slR (.ok (.list ds)) (.ok lo) (.ok hi) = .ok (.list (cutD ds lo hi)) := id rfl
theorem slR_tup (ds : List D) (lo hi : Option Int) : slR (.ok (.tuple ds)) (.ok lo) (.ok hi) = .ok (.tuple (cutD ds lo hi)) := id rfl
theorem setL_a {zs : List D} {k : Int} {v : D} (h0 : 0 ≤ k) (h : k < zs.length) : setL zs (.int k) v = .ok (.list (zs.set k.toNat v)) := by
  unfold setL L2.ixN
  simp [h0, h]
theorem chV_int {g g' : D → D → Res D} {x y : D} {rc : Res D} : chV g g' (.ok x) (.ok y) rc = (g x y).bd fun z => (bl z).bd fun k => if k then rc.bd fun w => g' y w else .ok (.bool false) := id rfl
theorem powV_ten (j : Int) (h : 0 ≤ j) (h2 : j ≤ 1000) : powV (.int 10) (.int j) = .ok (.int (10 ^ j.toNat)) := by
  have : (decide (0 ≤ j ∧ j ≤ 1000000) && small 10) = true := by
    rw [Bool.and_eq_true]; exact ⟨decide_eq_true ⟨h, by omega⟩, by decide⟩
  show (if _ then _ else _) = _
  rw [if_pos this]
/-! slices with bounds that are not negative -/
theorem sIx_nn {n : Nat} {d : Nat} {i : Int} (h : 0 ≤ i) : HT.sIx n d (some i) = min i.toNat n := by
  unfold HT.sIx
  simp
  omega
theorem cut_to {ds : List D} {i : Int} (h : 0 ≤ i) : cutD ds none (some i) = ds.take i.toNat := by
  unfold cutD
  rw [sIx_nn h, show HT.sIx ds.length 0 none = 0 from rfl, List.drop_zero, Nat.sub_zero, ← List.take_eq_take_min]
theorem cut_from {ds : List D} {i : Int} (h : 0 ≤ i) : cutD ds (some i) none = ds.drop i.toNat := by
  unfold cutD
  rw [sIx_nn h, show HT.sIx ds.length ds.length none = ds.length from rfl]
  rcases Nat.le_total i.toNat ds.length with l | l
  · rw [Nat.min_eq_left l, List.take_of_length_le (by rw [List.length_drop]; omega)]
  · rw [Nat.min_eq_right l, Nat.sub_self, List.take_zero, List.drop_eq_nil_of_le l]
theorem cut_mid {ds : List D} {i j : Int} (h : 0 ≤ i) (h2 : 0 ≤ j) : cutD ds (some i) (some j) = (ds.take j.toNat).drop i.toNat := by
  unfold cutD
  rw [sIx_nn h, sIx_nn h2]
  rcases Nat.le_total i.toNat ds.length with l | l
  · rw [Nat.min_eq_left l, List.drop_take, List.take_eq_take_iff, List.length_drop]
    omega
  · rw [Nat.min_eq_right l, List.drop_length, List.take_nil, List.drop_eq_nil_of_le (by rw [List.length_take]; omega)]
theorem pow39 : powV (.int 10) (.int 39) = .ok (.int 1000000000000000000000000000000000000000) := by rfl
end DL
/-! Choices; dicts by tuples of ints; sorted tuples of ints. -/
namespace DL
open PySem
/-! ### choices -/
def chs {α : Type} : List α → Nat → List (List α)
  | _, 0 => [[]]
  | [], _ + 1 => []
  | x :: r, n + 1 => (chs r n).map (x :: ·) ++ chs r (n + 1)
theorem chs_nil {α : Type} (n : Nat) : chs ([] : List α) (n + 1) = [] := rfl
theorem chs_cons {α : Type} (x : α) (r : List α) (n : Nat) : chs (x :: r) (n + 1) = (chs r n).map (x :: ·) ++ chs r (n + 1) := rfl
theorem chs_zero {α : Type} (r : List α) : chs r 0 = [[]] := by cases r <;> rfl
theorem mem_chs {α : Type} : ∀ {r : List α} {n : Nat} {c : List α}, c ∈ chs r n ↔ c.Sublist r ∧ c.length = n
  | r, 0, c => by
    rw [chs_zero]
    constructor
    · intro h
      rw [List.mem_singleton.mp h]
      exact ⟨List.nil_sublist _, rfl⟩
    · intro ⟨_, h⟩
      rw [List.length_eq_zero_iff.mp h]
      exact List.mem_singleton.mpr rfl
  | [], n + 1, c => by
    rw [chs_nil]
    constructor
    · intro h; cases h
    · intro ⟨h, h2⟩
      rw [List.sublist_nil.mp h] at h2
      cases h2
  | x :: r, n + 1, c => by
    rw [chs_cons, List.mem_append, List.mem_map]
    constructor
    · rintro (⟨d, h, rfl⟩ | h)
      · obtain ⟨h1, h2⟩ := mem_chs.mp h
        exact ⟨h1.cons_cons x, by simp [h2]⟩
      · obtain ⟨h1, h2⟩ := mem_chs.mp h
        exact ⟨h1.cons x, h2⟩
    · intro ⟨h, h2⟩
      cases h with
      | cons _ h => exact .inr (mem_chs.mpr ⟨h, h2⟩)
      | cons_cons _ h => exact .inl ⟨_, mem_chs.mpr ⟨h, by simpa using h2⟩, rfl⟩
theorem chs_map {α β : Type} (f : α → β) : ∀ (r : List α) (n : Nat), chs (r.map f) n = (chs r n).map (·.map f)
  | r, 0 => by rw [chs_zero, chs_zero]; rfl
  | [], n + 1 => rfl
  | x :: r, n + 1 => by
    rw [List.map_cons, chs_cons, chs_cons, chs_map f r n, chs_map f r (n + 1), List.map_append, List.map_map, List.map_map]
    rfl
theorem chs_len {α : Type} : ∀ (r : List α) (n : Nat), (chs r n).length ≤ 2 ^ r.length
  | r, 0 => by rw [chs_zero]; exact Nat.one_le_two_pow
  | [], n + 1 => Nat.zero_le _
  | x :: r, n + 1 => by
    have h1 := chs_len r n
    have h2 := chs_len r (n + 1)
    rw [chs_cons, List.length_append, List.length_map, List.length_cons, Nat.pow_succ]
    omega
theorem flat_congr {α β : Type} {f g : α → List β} : ∀ {l : List α}, (∀ x ∈ l, f x = g x) → l.flatMap f = l.flatMap g
  | [], _ => rfl
  | x :: l, h => by rw [List.flatMap_cons, List.flatMap_cons, h x (by simp), flat_congr fun y hy => h y (by simp [hy])]
/-- the step of a choice by numbers: one more, behind the last -/
def nxt (a : Nat) (one : List Nat) : Nat := match one.getLast? with | some i => i + 1 | none => a
def ext1 (a b : Nat) (one : List Nat) : List (List Nat) := (List.range' (nxt a one) (b - nxt a one)).map fun i => one ++ [i]
theorem chs_one {α : Type} : ∀ r : List α, chs r 1 = r.map fun x => [x]
  | [] => rfl
  | x :: r => by rw [chs_cons, chs_zero, chs_one r]; rfl
theorem nxt_cons (a c : Nat) (one : List Nat) : nxt c (a :: one) = nxt (a + 1) one := by
  cases one with
  | nil => rfl
  | cons b r =>
    unfold nxt
    rw [List.getLast?_cons_cons]
    cases h : (b :: r).getLast? with
    | some i => rfl
    | none => exact absurd (List.getLast?_eq_none_iff.mp h) (by simp)
theorem chs_step : ∀ (n a : Nat) (k : Nat), chs (List.range' a n) (k + 1) = (chs (List.range' a n) k).flatMap (ext1 a (a + n))
  | n, a, 0 => by
    rw [chs_one, chs_zero]
    simp [ext1, nxt]
  | 0, a, k + 1 => rfl
  | n + 1, a, k + 1 => by
    have ih1 := chs_step n (a + 1) k
    have ih2 := chs_step n (a + 1) (k + 1)
    have e : a + 1 + n = a + (n + 1) := by omega
    rw [e] at ih1 ih2
    rw [List.range'_succ, chs_cons, chs_cons, List.flatMap_append]
    congr 1
    · rw [ih1, List.map_flatMap, List.flatMap_map]
      refine flat_congr fun one _ => ?_
      unfold ext1
      rw [nxt_cons, List.map_map]
      rfl
    · rw [ih2]
      refine flat_congr fun one h => ?_
      have hl := (mem_chs.mp h).2
      have : nxt (a + 1) one = nxt a one := by
        unfold nxt
        cases c : one.getLast? with
        | some i => rfl
        | none => rw [List.getLast?_eq_none_iff.mp c] at hl; cases hl
      unfold ext1
      rw [this]
/-! ### tuples of ints as keys -/
theorem keysOf_ints : ∀ zs : List Int, keysOf (zs.map .int) = some (zs.map .num)
  | [] => rfl
  | z :: zs => by rw [List.map_cons, List.map_cons]; unfold keysOf; rw [keysOf_ints zs]; rfl
theorem depth_nums : ∀ zs : List Int, NestedKey.depthAll (zs.map .num) = 0
  | [] => rfl
  | z :: zs => by rw [List.map_cons]; unfold NestedKey.depthAll; rw [depth_nums zs]; rfl
theorem keyT_intT (zs : List Int) : keyT (intT zs) = some (.tup (zs.map .num)) := by
  unfold keyT
  rw [if_pos (show isTupV (intT zs) = true from rfl)]
  show ((keysOf (zs.map .int)).map NestedKey.tup).filter _ = _
  rw [keysOf_ints]
  have : (NestedKey.tup (zs.map .num)).depth ≤ 8 := by
    show NestedKey.depthAll (zs.map .num) + 1 ≤ 8
    rw [depth_nums]; omega
  simp [this]
theorem num_inj : ∀ {a b : List Int}, a.map NestedKey.num = b.map NestedKey.num → a = b
  | [], [], _ => rfl
  | [], _ :: _, h => by cases h
  | _ :: _, [], h => by cases h
  | x :: a, y :: b, h => by
    rw [List.map_cons, List.map_cons] at h
    injection h with h1 h2
    injection h1 with h1
    rw [h1, num_inj h2]
theorem sameK_ints (a b : List Int) (v : D) : sameK (intT a) (intT b, v) = decide (b = a) := by
  unfold sameK
  rw [keyT_intT, keyT_intT]
  by_cases h : b = a
  · simp [h]
  · simp only [h, decide_false, decide_eq_false_iff_not]
    intro z
    injection z with z
    injection z with z
    exact h (num_inj z)
/-- a dict whose values are told by their keys -/
def dctF (f : List Int → D) (l : List (List Int)) : D := .dict (l.map fun z => (intT z, f z))
def ins {α : Type} [DecidableEq α] (l : List α) (z : α) : List α := if z ∈ l then l else l ++ [z]
theorem mem_ins {α : Type} [DecidableEq α] {l : List α} {z y : α} : y ∈ ins l z ↔ y ∈ l ∨ y = z := by
  unfold ins
  split
  · rename_i h
    constructor
    · exact .inl
    · rintro (h | rfl) <;> assumption
  · simp
theorem nodup_ins {α : Type} [DecidableEq α] {l : List α} {z : α} (h : l.Nodup) : (ins l z).Nodup := by
  unfold ins
  split
  · exact h
  · rename_i hz
    exact List.nodup_append.mpr ⟨h, by simp, fun a ha b hb => by rw [List.mem_singleton.mp hb]; exact fun e => hz (e ▸ ha)⟩
theorem len_ins {α : Type} [DecidableEq α] {l : List α} {z : α} : (ins l z).length ≤ l.length + 1 := by
  unfold ins
  split <;> simp
theorem find_dct (f : List Int → D) (z : List Int) : ∀ l : List (List Int), (l.map fun y => (intT y, f y)).find? (sameK (intT z)) = if z ∈ l then some (intT z, f z) else none
  | [] => rfl
  | y :: l => by
    rw [List.map_cons, List.find?_cons, sameK_ints, find_dct f z l]
    by_cases h : y = z
    · subst h; simp
    · have : ¬ z = y := fun e => h e.symm
      simp [h, this]
theorem notInD_dct (f : List Int → D) (l : List (List Int)) (z : List Int) : notInD (dctF f l) (intT z) = .ok (.bool (decide (z ∉ l))) := by
  simp only [notInD, dctF, keyT_intT, find_dct, Option.isSome_some, if_true]
  by_cases h : z ∈ l <;> simp [h]
theorem inD_dct (f : List Int → D) (l : List (List Int)) (z : List Int) : inD (dctF f l) (intT z) = .ok (.bool (decide (z ∈ l))) := by
  simp only [inD, dctF, keyT_intT, find_dct, Option.isSome_some, if_true]
  by_cases h : z ∈ l <;> simp [h]
theorem getD_dct (f : List Int → D) {l : List (List Int)} {z : List Int} (h : z ∈ l) : getD (dctF f l) (intT z) = .ok (f z) := by
  simp only [getD, dctF, keyT_intT, valD, find_dct, Option.isSome_some, if_true, if_pos h, Option.map_some]
theorem setD_dct (f : List Int → D) {l : List (List Int)} (z : List Int) (hl : l.length < 16777216) : setD (dctF f l) (intT z) (f z) = .ok (dctF f (ins l z)) := by
  simp only [setD, dctF, keyT_intT, List.length_map, Option.isSome_some, hl, decide_true, Bool.and_true, if_true]
  congr 2
  unfold putD
  rw [find_dct]
  by_cases h : z ∈ l
  · rw [if_pos h]
    unfold ins
    rw [if_pos h]
    simp only [Option.isSome_some, if_true, List.map_map]
    refine List.map_congr_left fun y _ => ?_
    simp only [Function.comp]
    rw [sameK_ints]
    by_cases e : y = z
    · simp [e]
    · simp [e]
  · rw [if_neg h]
    unfold ins
    rw [if_neg h]
    simp
theorem dictKeys_dct (f : List Int → D) (l : List (List Int)) : dictKeys (dctF f l) = .ok (l.map intT) := by
  simp [dictKeys, dctF, List.map_map, Function.comp_def]
/-! ### sorted -/
def lexLe (a b : List Int) : Bool := decide (a ≤ b)
def srt (l : List (List Int)) : List (List Int) := l.mergeSort lexLe
theorem lexLe_trans (a b c : List Int) (h : lexLe a b = true) (h' : lexLe b c = true) : lexLe a c = true := by
  unfold lexLe at *
  simp only [decide_eq_true_eq] at *
  exact List.le_trans h h'
theorem lexLe_total (a b : List Int) : (lexLe a b || lexLe b a) = true := by
  unfold lexLe
  simp only [Bool.or_eq_true, decide_eq_true_eq]
  exact List.le_total a b
theorem srt_perm (l : List (List Int)) : (srt l).Perm l := List.mergeSort_perm _ _
theorem srt_pw (l : List (List Int)) : (srt l).Pairwise (fun a b => lexLe a b = true) := List.pairwise_mergeSort lexLe_trans lexLe_total l
theorem lex_uniq : ∀ {l m : List (List Int)}, l.Perm m → l.Pairwise (fun a b => lexLe a b = true) → m.Pairwise (fun a b => lexLe a b = true) → l = m
  | [], m, h, _, _ => (List.nil_perm.mp h).symm
  | a :: l, [], h, _, _ => by have := h.length_eq; simp at this
  | a :: l, b :: m, h, p, q => by
    have e : a = b := by
      obtain ⟨p1, p2⟩ := List.pairwise_cons.mp p
      obtain ⟨q1, q2⟩ := List.pairwise_cons.mp q
      have ha : a ∈ b :: m := h.mem_iff.mp List.mem_cons_self
      have hb : b ∈ a :: l := h.mem_iff.mpr List.mem_cons_self
      rcases List.mem_cons.mp ha with e | ha
      · exact e
      · rcases List.mem_cons.mp hb with e | hb
        · exact e.symm
        · have h1 := p1 b hb
          have h2 := q1 a ha
          simp only [lexLe, decide_eq_true_eq] at h1 h2
          exact List.le_antisymm h1 h2
    subst e
    rw [lex_uniq h.cons_inv (List.pairwise_cons.mp p).2 (List.pairwise_cons.mp q).2]
theorem srt_eq {l m : List (List Int)} (h : l.Perm m) : srt l = srt m := lex_uniq (((srt_perm l).trans h).trans (srt_perm m).symm) (srt_pw l) (srt_pw m)
theorem srt_of_mem {l m : List (List Int)} (h1 : l.Nodup) (h2 : m.Nodup) (h : ∀ x, x ∈ l ↔ x ∈ m) : srt l = srt m := srt_eq (perm_of_mem h1 h2 h)
theorem mem_srt {l : List (List Int)} {x : List Int} : x ∈ srt l ↔ x ∈ l := (srt_perm l).mem_iff
theorem dataLe_tup (a b : List Int) : W.dataLe false id (intT a) (intT b) = lexLe a b := by
  rw [W.dataLe_eq]
  show (!W.dataLt (intT b) (intT a)) = _
  rw [W.dataLt_tuple]
  show (!W.rowLt (b.map .int) (a.map .int)) = _
  rw [W.dataLt_ints]
  unfold lexLe
  by_cases h : a ≤ b
  · have : ¬ b < a := List.not_lt.mpr h
    simp [h, this]
  · have : b < a := List.not_le.mp h
    simp [h, this]
theorem sortD_tups (l : List (List Int)) : sortD (l.map intT) = (srt l).map intT := by
  unfold sortD srt
  rw [List.map_mergeSort]
  intro a _ b _
  exact (dataLe_tup a b).symm
theorem sortOk_tups {l : List (List Int)} (h : ∀ z ∈ l, z ≠ []) (hl : l.length ≤ 16777216) : sortOk (l.map intT) = true := by
  unfold sortOk
  simp only [Bool.and_eq_true, Bool.or_eq_true]
  refine ⟨⟨⟨?_, .inl ?_⟩, ?_⟩, by simp [fits, hl]⟩
  · refine List.all_eq_true.mpr fun d hd => List.all_eq_true.mpr fun e he => ?_
    obtain ⟨a, _, rfl⟩ := List.mem_map.mp hd
    obtain ⟨b, _, rfl⟩ := List.mem_map.mp he
    exact W.alike_ints a b
  · refine List.all_eq_true.mpr fun d hd => ?_
    obtain ⟨a, ha, rfl⟩ := List.mem_map.mp hd
    cases a with
    | nil => exact absurd rfl (h _ ha)
    | cons x r => rfl
  · refine List.all_eq_true.mpr fun d hd => ?_
    obtain ⟨a, _, rfl⟩ := List.mem_map.mp hd
    have : (intT a).depth = 1 := by
      show PyData.depthAll (a.map .int) + 1 = 1
      rw [DL.depth_ints]
    simp [this]
theorem sorted_tups {l : List (List Int)} (h : ∀ z ∈ l, z ≠ []) (hl : l.length ≤ 16777216) : sortedV (.list (l.map intT)) = .ok (.list ((srt l).map intT)) := by
  show sortR _ = _
  unfold sortR
  rw [sortOk_tups h hl, sortD_tups]
  rfl
theorem eqvAll_tups : ∀ l m : List (List Int), PyData.eqvAll (l.map intT) (m.map intT) = decide (l = m)
  | [], [] => by simp [PyData.eqvAll]
  | [], _ :: _ => by simp [PyData.eqvAll]
  | _ :: _, [] => by simp [PyData.eqvAll]
  | a :: l, b :: m => by
    have he : ∀ x y : List Int, PyData.eqvAll (x.map .int) (y.map .int) = decide (x = y) := fun x => by
      induction x with
      | nil => intro y; cases y <;> simp [PyData.eqvAll]
      | cons c x ih => intro y; cases y <;> simp [PyData.eqvAll, ih, eqv_int]
    rw [List.map_cons, List.map_cons, PyData.eqvAll, eqvAll_tups l m]
    show (PyData.eqv (intT a) (intT b) && _) = _
    rw [show PyData.eqv (intT a) (intT b) = PyData.eqvAll (a.map .int) (b.map .int) from by simp [PyData.eqv], he]
    simp
theorem depth_tups : ∀ l : List (List Int), PyData.depthAll (l.map intT) ≤ 1
  | [] => by show 0 ≤ 1; omega
  | a :: l => by
    rw [List.map_cons, PyData.depthAll]
    refine Nat.max_le.mpr ⟨?_, depth_tups l⟩
    show PyData.depthAll (a.map .int) + 1 ≤ 1
    rw [DL.depth_ints]
    exact Nat.le_refl _
theorem canLay_tups : ∀ l : List (List Int), PyData.canLayAll0 (l.map intT) = true
  | [] => rfl
  | a :: l => by
    rw [List.map_cons, PyData.canLayAll0, canLay_tups l]
    simp [PyData.canLay0, canLay_ints]
theorem shaped_tups (l : List (List Int)) : SeqAt.shaped (.list (l.map intT)) = true := by
  have h1 := canLay_tups l
  have h2 := depth_tups l
  have h3 : PyData.depthAll (l.map intT) + 1 ≤ 64 := Nat.le_trans (Nat.succ_le_succ h2) (by decide)
  show (PyData.canLayAll0 (l.map intT) && decide (PyData.depthAll (l.map intT) + 1 ≤ 64)) = true
  rw [h1, decide_eq_true h3]
  rfl
theorem neV_tups (l m : List (List Int)) : neV (.list (l.map intT)) (.list (m.map intT)) = .ok (.bool (!decide (l = m))) := by
  simp [neV, shaped_tups, PyData.eqv, eqvAll_tups]
end DL
/-! Dicts by keys that are told by data; sorted lists of data that are told so; tuples of tuples of ints. -/
namespace DL
open PySem
section
variable {β : Type} [DecidableEq β]
/-- keys by data -/
structure EncK (enc : β → D) : Prop where
  key : ∀ z, (keyT (enc z)).isSome = true
  inj : ∀ a b, keyT (enc a) = keyT (enc b) → a = b
def dctG (enc : β → D) (f : β → D) (l : List β) : D := .dict (l.map fun z => (enc z, f z))
variable {enc : β → D} (E : EncK enc)
include E
theorem EncK.same (a b : β) (v : D) : sameK (enc a) (enc b, v) = decide (b = a) := by
  unfold sameK
  by_cases h : b = a
  · simp [h]
  · simp only [h, decide_false, decide_eq_false_iff_not]
    exact fun z => h (E.inj _ _ z)
theorem EncK.find (f : β → D) (z : β) : ∀ l : List β, (l.map fun y => (enc y, f y)).find? (sameK (enc z)) = if z ∈ l then some (enc z, f z) else none
  | [] => rfl
  | y :: l => by
    rw [List.map_cons, List.find?_cons, E.same, EncK.find f z l]
    by_cases h : y = z
    · subst h; simp
    · have : ¬ z = y := fun e => h e.symm
      simp [h, this]
theorem EncK.notIn (f : β → D) (l : List β) (z : β) : notInD (dctG enc f l) (enc z) = .ok (.bool (decide (z ∉ l))) := by
  simp only [notInD, dctG, E.key, E.find, if_true]
  by_cases h : z ∈ l <;> simp [h]
theorem EncK.get (f : β → D) {l : List β} {z : β} (h : z ∈ l) : getD (dctG enc f l) (enc z) = .ok (f z) := by
  simp only [getD, dctG, E.key, valD, E.find, if_true, if_pos h, Option.map_some]
theorem EncK.set (f : β → D) {l : List β} (z : β) (hl : l.length < 16777216) : setD (dctG enc f l) (enc z) (f z) = .ok (dctG enc f (ins l z)) := by
  simp only [setD, dctG, E.key, List.length_map, hl, decide_true, Bool.and_true, if_true]
  congr 2
  unfold putD
  rw [E.find]
  by_cases h : z ∈ l
  · rw [if_pos h]
    unfold ins
    rw [if_pos h]
    simp only [Option.isSome_some, if_true, List.map_map]
    refine List.map_congr_left fun y _ => ?_
    simp only [Function.comp]
    rw [E.same]
    by_cases e : y = z
    · simp [e]
    · simp [e]
  · rw [if_neg h]
    unfold ins
    rw [if_neg h]
    simp
omit E
theorem keys_dctG (f : β → D) (l : List β) : dictKeys (dctG enc f l) = .ok (l.map enc) := by
  simp [dictKeys, dctG, List.map_map, Function.comp_def]
end
/-! ### sorted by an order -/
section
variable {β : Type} [DecidableEq β]
structure EncS (enc : β → D) (le : β → β → Bool) : Prop where
  trans : ∀ a b c, le a b = true → le b c = true → le a c = true
  total : ∀ a b, (le a b || le b a) = true
  anti : ∀ a b, le a b = true → le b a = true → a = b
  data : ∀ a b, W.dataLe false id (enc a) (enc b) = le a b
variable {enc : β → D} {le : β → β → Bool} (S : EncS enc le)
include S
theorem EncS.uniq : ∀ {l m : List β}, l.Perm m → l.Pairwise (fun a b => le a b = true) → m.Pairwise (fun a b => le a b = true) → l = m
  | [], m, h, _, _ => (List.nil_perm.mp h).symm
  | a :: l, [], h, _, _ => by have := h.length_eq; simp at this
  | a :: l, b :: m, h, p, q => by
    have e : a = b := by
      obtain ⟨p1, p2⟩ := List.pairwise_cons.mp p
      obtain ⟨q1, q2⟩ := List.pairwise_cons.mp q
      have ha : a ∈ b :: m := h.mem_iff.mp List.mem_cons_self
      have hb : b ∈ a :: l := h.mem_iff.mpr List.mem_cons_self
      rcases List.mem_cons.mp ha with e | ha
      · exact e
      · rcases List.mem_cons.mp hb with e | hb
        · exact e.symm
        · exact S.anti a b (p1 b hb) (q1 a ha)
    subst e
    rw [EncS.uniq h.cons_inv (List.pairwise_cons.mp p).2 (List.pairwise_cons.mp q).2]
theorem EncS.pw (l : List β) : (l.mergeSort le).Pairwise (fun a b => le a b = true) := List.pairwise_mergeSort S.trans S.total l
theorem EncS.eq {l m : List β} (h : l.Perm m) : l.mergeSort le = m.mergeSort le := S.uniq (((List.mergeSort_perm l le).trans h).trans (List.mergeSort_perm m le).symm) (S.pw l) (S.pw m)
theorem EncS.of_mem {l m : List β} (h1 : l.Nodup) (h2 : m.Nodup) (h : ∀ x, x ∈ l ↔ x ∈ m) : l.mergeSort le = m.mergeSort le := S.eq (perm_of_mem h1 h2 h)
theorem EncS.sortD (l : List β) : DL.sortD (l.map enc) = (l.mergeSort le).map enc := by
  unfold DL.sortD
  rw [List.map_mergeSort]
  intro a _ b _
  exact (S.data a b).symm
theorem EncS.filter_sort (q : β → Bool) (l : List β) : (l.mergeSort le).filter q = (l.filter q).mergeSort le :=
  S.uniq (((List.mergeSort_perm l le).filter q).trans (List.mergeSort_perm (l.filter q) le).symm) ((S.pw l).filter q) (S.pw _)
end
/-! ### tuples of tuples of ints -/
abbrev intTT (Z : List (List Int)) : D := .tuple (Z.map intT)
def keyI (z : List Int) : NestedKey := .tup (z.map .num)
theorem keyOf_intT (z : List Int) : keyOf (intT z) = some (keyI z) := by
  show (keysOf (z.map .int)).map NestedKey.tup = _
  rw [keysOf_ints]
  rfl
theorem keysOf_tups : ∀ Z : List (List Int), keysOf (Z.map intT) = some (Z.map keyI)
  | [] => rfl
  | z :: Z => by rw [List.map_cons, List.map_cons]; unfold keysOf; rw [keysOf_tups Z, keyOf_intT]
theorem depth_keyI : ∀ Z : List (List Int), NestedKey.depthAll (Z.map keyI) ≤ 1
  | [] => Nat.zero_le _
  | z :: Z => by
    rw [List.map_cons]
    unfold NestedKey.depthAll
    refine Nat.max_le.mpr ⟨?_, depth_keyI Z⟩
    show NestedKey.depthAll (z.map .num) + 1 ≤ 1
    rw [depth_nums]
    exact Nat.le_refl _
theorem keyT_intTT (Z : List (List Int)) : keyT (intTT Z) = some (.tup (Z.map keyI)) := by
  unfold keyT
  rw [if_pos (show isTupV (intTT Z) = true from rfl)]
  show ((keysOf (Z.map intT)).map NestedKey.tup).filter _ = _
  rw [keysOf_tups]
  have : (NestedKey.tup (Z.map keyI)).depth ≤ 8 := by
    show NestedKey.depthAll (Z.map keyI) + 1 ≤ 8
    have := depth_keyI Z
    omega
  simp [this]
theorem keyI_inj {a b : List Int} (h : keyI a = keyI b) : a = b := by
  injection h with h
  exact num_inj h
theorem keysI_inj : ∀ {a b : List (List Int)}, a.map keyI = b.map keyI → a = b
  | [], [], _ => rfl
  | [], _ :: _, h => by cases h
  | _ :: _, [], h => by cases h
  | x :: a, y :: b, h => by
    rw [List.map_cons, List.map_cons] at h
    injection h with h1 h2
    rw [keyI_inj h1, keysI_inj h2]
theorem encTT : EncK intTT := ⟨fun z => by rw [keyT_intTT]; rfl, fun a b h => by
  rw [keyT_intTT, keyT_intTT] at h
  injection h with h
  injection h with h
  exact keysI_inj h⟩
def lexLe2 (a b : List (List Int)) : Bool := decide (a ≤ b)
theorem eqv_intT (a b : List Int) : PyData.eqv (intT a) (intT b) = decide (a = b) := by
  have := eqvAll_tups [a] [b]
  simp only [List.map_cons, List.map_nil, PyData.eqvAll, Bool.and_true, List.cons.injEq, and_true] at this
  exact this
theorem dataLt_intT (a b : List Int) : W.dataLt (intT a) (intT b) = decide (a < b) := by
  rw [W.dataLt_tuple]
  exact W.dataLt_ints a b
theorem rowLt_tups : ∀ a b : List (List Int), W.rowLt (a.map intT) (b.map intT) = decide (a < b)
  | [], [] => by
    have e : W.rowLt [] [] = false := PyProof.Rows.lex_irrefl _
    simp [e]
  | [], y :: ys => by
    have e : W.rowLt [] (intT y :: ys.map intT) = true := by
      unfold W.rowLt
      rw [W.toks_all_cons]
      simp only [W.keyToksAll]
      rw [PyProof.Rows.lex_diff (O := PyProof.Rows.itemOrd) (by simp)]
      rfl
    simpa using e
  | x :: xs, [] => by
    have e : W.rowLt (intT x :: xs.map intT) [] = false := by
      unfold W.rowLt
      rw [W.toks_all_cons]
      simp only [W.keyToksAll]
      rw [PyProof.Rows.lex_diff (O := PyProof.Rows.itemOrd) (by simp)]
      rfl
    simpa using e
  | x :: a, y :: b => by
    have h : W.alike (intT x) (intT y) = true := W.alike_ints x y
    have ih := rowLt_tups a b
    unfold W.rowLt at ih ⊢
    rw [List.map_cons, List.map_cons, W.dataLt_cons h, eqv_intT, ih, dataLt_intT]
    by_cases e : x = y
    · subst e; simp [List.cons_lt_cons_iff]
    · simp [List.cons_lt_cons_iff, e]
theorem encST : EncS intT lexLe := ⟨lexLe_trans, lexLe_total, fun a b h h' => by
  unfold lexLe at h h'
  simp only [decide_eq_true_eq] at h h'
  exact List.le_antisymm h h', dataLe_tup⟩
theorem encSTT : EncS intTT lexLe2 where
  trans := fun a b c h h' => by
    unfold lexLe2 at *
    simp only [decide_eq_true_eq] at *
    exact List.le_trans h h'
  total := fun a b => by
    unfold lexLe2
    simp only [Bool.or_eq_true, decide_eq_true_eq]
    exact List.le_total a b
  anti := fun a b h h' => by
    unfold lexLe2 at h h'
    simp only [decide_eq_true_eq] at h h'
    exact List.le_antisymm h h'
  data := fun a b => by
    rw [W.dataLe_eq]
    show (!W.dataLt (intTT b) (intTT a)) = _
    rw [W.dataLt_tuple]
    show (!W.rowLt (b.map intT) (a.map intT)) = _
    rw [rowLt_tups]
    unfold lexLe2
    by_cases h : a ≤ b
    · have : ¬ b < a := List.not_lt.mpr h
      simp [h, this]
    · have : b < a := List.not_le.mp h
      simp [h, this]
theorem alike_tups : ∀ a b : List (List Int), W.alikeAll (a.map intT) (b.map intT) = true
  | [], _ => by simp [W.alikeAll]
  | _ :: _, [] => by simp [W.alikeAll]
  | x :: a, y :: b => by
    rw [List.map_cons, List.map_cons, W.alikeAll, alike_tups a b]
    show (W.alikeAll (x.map .int) (y.map .int) && true) = true
    rw [W.alike_ints]
    rfl
theorem sortOk_tups2 {l : List (List (List Int))} (h : ∀ z ∈ l, z ≠ []) (hl : l.length ≤ 16777216) : sortOk (l.map intTT) = true := by
  unfold sortOk
  simp only [Bool.and_eq_true, Bool.or_eq_true]
  refine ⟨⟨⟨?_, .inl ?_⟩, ?_⟩, by simp [fits, hl]⟩
  · refine List.all_eq_true.mpr fun d hd => List.all_eq_true.mpr fun e he => ?_
    obtain ⟨a, _, rfl⟩ := List.mem_map.mp hd
    obtain ⟨b, _, rfl⟩ := List.mem_map.mp he
    exact alike_tups a b
  · refine List.all_eq_true.mpr fun d hd => ?_
    obtain ⟨a, ha, rfl⟩ := List.mem_map.mp hd
    cases a with
    | nil => exact absurd rfl (h _ ha)
    | cons x r => rfl
  · refine List.all_eq_true.mpr fun d hd => ?_
    obtain ⟨a, _, rfl⟩ := List.mem_map.mp hd
    have h2 := depth_tups a
    have : (intTT a).depth ≤ 8 := by
      show PyData.depthAll (a.map intT) + 1 ≤ 8
      exact Nat.le_trans (Nat.succ_le_succ h2) (by decide)
    exact decide_eq_true this
def srt2 (l : List (List (List Int))) : List (List (List Int)) := l.mergeSort lexLe2
theorem sortR_tups2 {l : List (List (List Int))} (h : ∀ z ∈ l, z ≠ []) (hl : l.length ≤ 16777216) : sortR (l.map intTT) = .ok (.list ((srt2 l).map intTT)) := by
  unfold sortR
  rw [sortOk_tups2 h hl, encSTT.sortD]
  rfl
theorem mem_srt2 {l : List (List (List Int))} {x : List (List Int)} : x ∈ srt2 l ↔ x ∈ l := (List.mergeSort_perm l lexLe2).mem_iff
theorem eqvAll_tups2 : ∀ l m : List (List (List Int)), PyData.eqvAll (l.map intTT) (m.map intTT) = decide (l = m)
  | [], [] => by simp [PyData.eqvAll]
  | [], _ :: _ => by simp [PyData.eqvAll]
  | _ :: _, [] => by simp [PyData.eqvAll]
  | a :: l, b :: m => by
    rw [List.map_cons, List.map_cons, PyData.eqvAll, eqvAll_tups2 l m, show PyData.eqv (intTT a) (intTT b) = PyData.eqvAll (a.map intT) (b.map intT) from by rw [PyData.eqv], eqvAll_tups]
    simp
theorem shaped_tups2 (l : List (List (List Int))) : SeqAt.shaped (.list (l.map intTT)) = true := by
  have h1 : PyData.canLayAll0 (l.map intTT) = true := by
    induction l with
    | nil => rfl
    | cons a l ih =>
      rw [List.map_cons, PyData.canLayAll0, ih, show PyData.canLay0 (intTT a) = PyData.canLayAll0 (a.map intT) from by rw [PyData.canLay0], canLay_tups]
      rfl
  have h2 : PyData.depthAll (l.map intTT) ≤ 2 := by
    clear h1
    induction l with
    | nil => exact Nat.zero_le _
    | cons a l ih =>
      rw [List.map_cons, PyData.depthAll]
      exact Nat.max_le.mpr ⟨Nat.succ_le_succ (depth_tups a), ih⟩
  have h3 : PyData.depthAll (l.map intTT) + 1 ≤ 64 := Nat.le_trans (Nat.succ_le_succ h2) (by decide)
  show (PyData.canLayAll0 (l.map intTT) && decide (PyData.depthAll (l.map intTT) + 1 ≤ 64)) = true
  rw [h1, decide_eq_true h3]
  rfl
theorem neV_tups2 (l m : List (List (List Int))) : neV (.list (l.map intTT)) (.list (m.map intTT)) = .ok (.bool (!decide (l = m))) := by
  simp [neV, shaped_tups2, PyData.eqv, eqvAll_tups2]
end DL
namespace SC
open PySem DL
/-! ### texts -/
theorem S_of (w : Str) : ∃ cs, w = SX.S cs := ⟨w.cps.toList, (SX.S_tl w).symm⟩
abbrev okS (cs : List Nat) : Prop := ∀ c ∈ cs, c < 1114112
theorem strOk_S {cs : List Nat} (h : okS cs) : PyData.strOk (SX.S cs) = true := by
  unfold PyData.strOk
  rw [← Array.all_toList, List.all_eq_true]
  exact fun c hc => decide_eq_true (h c hc)
theorem shaped_str {cs : List Nat} (h : okS cs) : SeqAt.shaped (.str (SX.S cs)) = true := by simp [SeqAt.shaped, PyData.canLay0, PyData.depth, strOk_S h]
theorem eqv_str (a b : List Nat) : PyData.eqv (.str (SX.S a)) (.str (SX.S b)) = decide (a = b) := by
  simp only [PyData.eqv]
  rw [Bool.beq_eq_decide_eq]
  exact decide_eq_decide.mpr ⟨SX.S_inj, fun e => by rw [e]⟩
theorem eqV_str {a b : List Nat} (h : okS a) (h2 : okS b) : eqV (.str (SX.S a)) (.str (SX.S b)) = .ok (.bool (decide (a = b))) := by simp [eqV, shaped_str h, shaped_str h2, eqv_str]
theorem neV_str {a b : List Nat} (h : okS a) (h2 : okS b) : neV (.str (SX.S a)) (.str (SX.S b)) = .ok (.bool (!decide (a = b))) := by simp [neV, shaped_str h, shaped_str h2, eqv_str]
theorem lenV_str {z : Str} (h : z.length ≤ 16777216) : lenV (.str z) = .ok (.int z.length) := by simp [lenV, fits, h]
def dg (c : Nat) : Bool := decide (48 ≤ c) && decide (c ≤ 57)
def numC : List Nat → Option Int
  | [a] => if dg a then some ((a : Int) - 48) else none
  | [a, b] => if dg a && dg b && !decide (a = 48) then some (((a : Int) - 48) * 10 + ((b : Int) - 48)) else none
  | _ => none
def optD : Option Int → D
  | some i => .int i
  | none => .none
theorem figs_S : ("0123456789" : Str) = SX.S [48, 49, 50, 51, 52, 53, 54, 55, 56, 57] := by decide +kernel
theorem e_S : ("" : Str) = SX.S [] := by decide +kernel
theorem zero_S : ("0" : Str) = SX.S [48] := by decide +kernel
theorem blank_S : (" " : Str) = SX.S [32] := by decide +kernel
theorem colon_S : (":" : Str) = SX.S [58] := by decide +kernel
theorem fig_dec (c : Nat) : decide (c ∈ [48, 49, 50, 51, 52, 53, 54, 55, 56, 57]) = dg c := by
  unfold dg
  rw [← Bool.decide_and]
  exact decide_eq_decide.mpr ⟨fun h => by simp at h; omega, fun h => by simp; omega⟩
theorem fig_in (c : Nat) : inS (.str ⟨#[c]⟩) (.str "0123456789") = .ok (.bool (dg c)) := by
  show Res.ok (PyData.bool (!(Builtin.Str.occurrences ("0123456789" : Str) (SX.S [c]) 0 ("0123456789" : Str).length 1).isEmpty)) = _
  rw [figs_S, SX.in_one, fig_dec]
theorem fig_nin (c : Nat) : notInS (.str ⟨#[c]⟩) (.str "0123456789") = .ok (.bool (!dg c)) := by
  show Res.ok (PyData.bool (!(!(Builtin.Str.occurrences ("0123456789" : Str) (SX.S [c]) 0 ("0123456789" : Str).length 1).isEmpty))) = _
  rw [figs_S, SX.in_one, fig_dec]
theorem items_S (cs : List Nat) : strItems (.str (SX.S cs)) = .ok (cs.map fun c => .str ⟨#[c]⟩) := by
  show Res.ok (((SX.S cs).cps.toList).map _) = _
  rfl
theorem ix0_S {c : Nat} {r : List Nat} (h : (c :: r).length ≤ 16777216) : ixV (.str (SX.S (c :: r))) (.int 0) = .ok (.str (SX.S [c])) := by
  have h2 : fits (SX.S (c :: r)).length = true := by rw [SX.S_len]; exact decide_eq_true h
  show (if fits (SX.S (c :: r)).length then _ else _) = _
  rw [if_pos h2, show L2.atI (SX.S (c :: r)).cps.toList 0 = some c from atI_lt (xs := c :: r) (i := 0) (v := c) rfl]
theorem S_dec (a b : List Nat) : decide (SX.S a = SX.S b) = decide (a = b) := decide_eq_decide.mpr ⟨SX.S_inj, fun e => by rw [e]⟩
theorem int_S2 {cs : List Nat} (h : cs.all dg = true) (hn : cs ≠ []) (hl : cs.length ≤ 600) : intSV (.str (SX.S cs)) = .ok (.int ((NumText.digitsVal cs : Nat) : Int)) := by
  have e := SX.int_S (a := cs) h hn (by omega)
  show (match PySem.intText? (SX.S cs) with | some n => if decide ((SX.S cs).length ≤ 640) then Res.ok (PyData.int n) else Res.stuck | none => Res.stuck) = _
  rw [show PySem.intText? (SX.S cs) = some ((NumText.digitsVal cs : Nat) : Int) from e]
  have : decide ((SX.S cs).length ≤ 640) = true := by rw [SX.S_len]; exact decide_eq_true (by omega)
  simp only [this, if_true]
theorem dv1 (a : Nat) (h : dg a = true) : ((NumText.digitsVal [a] : Nat) : Int) = (a : Int) - 48 := by
  simp only [dg, Bool.and_eq_true, decide_eq_true_eq] at h
  show (((0 * 10 + (a - 48) : Nat)) : Int) = _
  omega
theorem dv2 (a b : Nat) (h : dg a = true) (hb : dg b = true) : ((NumText.digitsVal [a, b] : Nat) : Int) = ((a : Int) - 48) * 10 + ((b : Int) - 48) := by
  simp only [dg, Bool.and_eq_true, decide_eq_true_eq] at h hb
  show ((((0 * 10 + (a - 48)) * 10 + (b - 48) : Nat)) : Int) = _
  omega
end SC
namespace SC
open PySem DL
noncomputable def m_law_cell (script k : D) : Res D :=
  (ifR ((bd2 (Res.ok k) ((Res.ok script).bd lenV) ltV).bd bl) (bd2 (Res.ok script) (Res.ok k) ixV) (ifR ((bd2 ((Res.ok script).bd lenV) (Res.ok (PyData.int 0)) eqV).bd bl) (bd2 (bd2 (Res.ok (PyData.int 7919)) (Res.ok k) mulI) (Res.ok (PyData.int 101)) addV) (bd2 (bd2 (bd2 (Res.ok script) (bd2 (Res.ok k) ((Res.ok script).bd lenV) modV) ixV) (Res.ok (PyData.int 1000003)) modV) (bd2 (Res.ok (PyData.int 7919)) (Res.ok k) mulI) addV)))
noncomputable def m_law_draws (script k many base : D) : Res D :=
  (((consR (Res.ok (PyData.int 2147483647)) (consR (Res.ok (PyData.int 2147483629)) (consR (Res.ok (PyData.int 2147483587)) (consR (Res.ok (PyData.int 2147483579)) (consR (Res.ok (PyData.int 2147483563)) (consR (Res.ok (PyData.int 2147483549)) (consR (Res.ok (PyData.int 2147483543)) (consR (Res.ok (PyData.int 2147483497)) (Res.ok ([] : List D)))))))))).bd tupR).bd fun primes => (((consR (Res.ok script) (consR (Res.ok k) (Res.ok ([] : List D)))).bd (ap2 m_law_cell)).bd fun cell => ((Res.ok (PyData.int 0)).bd fun rest => ((ifR ((bd2 (Res.ok cell) (bd2 (Res.ok (PyData.int 10)) (Res.ok (PyData.int 18)) powV) geV).bd bl) ((Res.ok cell).bd fun rest_1 => (Res.ok rest_1)) (Res.ok rest)).bd fun s_ => (((Res.ok ([] : List D)).bd lstR).bd fun row => ((((Res.ok many).bd range1).bd fun ds => forN (fun j (s__1 : D × D) => ((bd2 (bd2 (Res.ok cell) (bd2 (Res.ok primes) (bd2 (Res.ok j) (Res.ok (PyData.int 8)) modV) ixV) modV) (bd2 (Res.ok (PyData.int 48271)) (bd2 (bd2 (Res.ok (PyData.int 2)) (Res.ok j) mulI) (Res.ok j) mulI) addV) mulI).bd fun mash => ((bd2 (bd2 (Res.ok mash) (bd2 (bd2 (Res.ok (PyData.int 7919)) (bd2 (Res.ok j) (Res.ok (PyData.int 1)) addV) mulI) (bd2 (Res.ok j) (Res.ok (PyData.int 1)) addV) mulI) addV) (bd2 (Res.ok (PyData.int 104729)) (Res.ok k) mulI) addV).bd fun mash_1 => ((bd2 (Res.ok mash_1) (bd2 (Res.ok primes) (bd2 (bd2 (bd2 (Res.ok (PyData.int 3)) (Res.ok j) mulI) (Res.ok k) addV) (Res.ok (PyData.int 8)) modV) ixV) modV).bd fun mash_2 => ((bd2 (bd2 (bd2 (Res.ok mash_2) (Res.ok mash_2) mulI) (Res.ok mash_2) mulI) (bd2 (Res.ok primes) (bd2 (bd2 (Res.ok j) (Res.ok (PyData.int 5)) addV) (Res.ok (PyData.int 8)) modV) ixV) modV).bd fun mash_3 => ((ifR ((bd2 (Res.ok s__1.2) (Res.ok (PyData.int 0)) gtV).bd bl) ((Res.ok s__1.2).bd fun mash_4 => (Res.ok mash_4)) (Res.ok mash_3)).bd fun s__2 => ((onL s__1.1 fun ds => (bd2 (Res.ok s__2) (Res.ok base) modV).bd fun d => app1 ds d).bd fun row_1 => ((bd2 (Res.ok s__1.2) (Res.ok base) fdivV).bd fun rest_2 => (Res.ok (row_1, rest_2)))))))))) ds (row, s_)).bd fun s__3 => (Res.ok s__3.1)))))))
noncomputable def m_law_code (script at_ most_k most_n : D) : Res D :=
  (((consR (Res.ok script) (consR (Res.ok at_) (consR (Res.ok (PyData.int 20)) (consR (Res.ok (PyData.int 27720)) (Res.ok ([] : List D)))))).bd (ap4 m_law_draws)).bd fun plan => (((consR (Res.ok (PyData.int 5)) (consR (Res.ok (PyData.int 7)) (consR (Res.ok (PyData.int 11)) (consR (Res.ok (PyData.int 13)) (consR (Res.ok (PyData.int 17)) (consR (Res.ok (PyData.int 19)) (consR (Res.ok (PyData.int 23)) (consR (Res.ok (PyData.int 29)) (consR (Res.ok (PyData.int 31)) (consR (Res.ok (PyData.int 37)) (consR (Res.ok (PyData.int 41)) (consR (Res.ok (PyData.int 43)) (consR (Res.ok (PyData.int 47)) (consR (Res.ok (PyData.int 53)) (consR (Res.ok (PyData.int 59)) (consR (Res.ok (PyData.int 61)) (consR (Res.ok (PyData.int 67)) (consR (Res.ok (PyData.int 71)) (consR (Res.ok (PyData.int 73)) (consR (Res.ok (PyData.int 79)) (consR (Res.ok (PyData.int 83)) (consR (Res.ok (PyData.int 89)) (consR (Res.ok (PyData.int 97)) (Res.ok ([] : List D))))))))))))))))))))))))).bd lstR).bd fun primes => ((bd2 ((consR (bd2 (Res.ok primes) (bd2 (bd2 (Res.ok plan) (Res.ok (PyData.int 0)) ixV) (Res.ok (PyData.int 23)) modV) ixV) (consR (bd2 (Res.ok primes) (bd2 (bd2 (Res.ok plan) (Res.ok (PyData.int 0)) ixV) (Res.ok (PyData.int 3)) modV) ixV) (Res.ok ([] : List D)))).bd lstR) (bd2 (bd2 (Res.ok plan) (Res.ok (PyData.int 1)) ixV) (Res.ok (PyData.int 2)) modV) ixV).bd fun p => ((bd2 (Res.ok (PyData.int 1)) (bd2 (bd2 (Res.ok plan) (Res.ok (PyData.int 2)) ixV) (bd2 (Res.ok most_k) (Res.ok p) min2V) modV) addV).bd fun k => ((bd2 (Res.ok k) (bd2 (bd2 (Res.ok plan) (Res.ok (PyData.int 3)) ixV) (bd2 (bd2 (bd2 (Res.ok most_n) (Res.ok p) min2V) (Res.ok k) subV) (Res.ok (PyData.int 1)) addV) modV) addV).bd fun many => ((listRange1 (Res.ok p)).bd fun left => ((Res.ok p).bd fun xa => (Res.ok k).bd fun xb => ((Res.ok many).bd range1).bd fun ds => onL left fun xcur => (popsR (fun j xcur => (bd2 (bd2 (Res.ok plan) (bd2 (Res.ok (PyData.int 4)) (Res.ok j) addV) ixV) ((Res.ok (.list xcur)).bd lenV) modV)) ds xcur).bd fun ys => (tupR ys).bd fun xt => .ok (.tuple [xa, xb, xt]))))))))
noncomputable def m_law_deed (draw code : D) : Res D :=
  (((Res.ok code).bd fun d => un3 d fun a b c => .ok (a, b, c)).bd fun s_ => ((bd2 (bd2 (Res.ok draw) (Res.ok (PyData.int 13)) fdivV) ((Res.ok s_.2.2).bd lenV) modV).bd fun near => ((bd2 ((consR (Res.ok near) (consR ((Res.ok (PyData.int 1)).bd negV) (consR ((Res.ok s_.2.2).bd lenV) (consR (bd2 (Res.ok (PyData.int 10)) (Res.ok (PyData.int 30)) powV) (Res.ok ([] : List D)))))).bd lstR) (bd2 (Res.ok (PyData.int 0)) (bd2 (bd2 (Res.ok draw) (Res.ok (PyData.int 11)) modV) (Res.ok (PyData.int 7)) subV) max2V) ixV).bd fun number => ((bd2 (bd2 (Res.ok draw) (Res.ok (PyData.int 200)) fdivV) (Res.ok s_.1) modV).bd fun near_1 => ((bd2 ((consR (Res.ok near_1) (consR ((Res.ok (PyData.int 1)).bd negV) (consR (Res.ok s_.1) (consR (bd2 (Res.ok (PyData.int 10)) (Res.ok (PyData.int 30)) powV) (Res.ok ([] : List D)))))).bd lstR) (bd2 (Res.ok (PyData.int 0)) (bd2 (bd2 (bd2 (Res.ok draw) (Res.ok (PyData.int 11)) fdivV) (Res.ok (PyData.int 13)) modV) (Res.ok (PyData.int 9)) subV) max2V) ixV).bd fun entry => ((bd2 (bd2 (Res.ok draw) (Res.ok (PyData.int 90)) fdivV) (Res.ok (PyData.int 7)) modV).bd fun way => (ifR ((bd2 (Res.ok way) (Res.ok (PyData.int 4)) ltV).bd bl) ((consR (Res.ok (PyData.str "hear")) (consR (Res.ok number) (consR (Res.ok entry) (Res.ok ([] : List D))))).bd tupR) (bd2 ((consR ((consR (Res.ok (PyData.str "forget")) (consR (Res.ok number) (Res.ok ([] : List D)))).bd tupR) (consR ((consR (Res.ok (PyData.str "back")) (Res.ok ([] : List D))).bd tupR) (consR ((consR (Res.ok (PyData.str "again")) (Res.ok ([] : List D))).bd tupR) (Res.ok ([] : List D))))).bd lstR) (bd2 (Res.ok way) (Res.ok (PyData.int 4)) subV) ixV))))))))
noncomputable def m_law_later (code states at_ deed : D) : Res D :=
  ((bd2 (Res.ok states) (Res.ok at_) ixV).bd fun row => (ifR ((bd2 (bd2 (Res.ok deed) (Res.ok (PyData.int 0)) ixV) ((consR (Res.ok (PyData.str "back")) (consR (Res.ok (PyData.str "again")) (Res.ok ([] : List D)))).bd tupR) inT).bd bl) ((bd2 (Res.ok at_) (bd2 ((consR ((Res.ok (PyData.int 1)).bd negV) (consR (Res.ok (PyData.int 1)) (Res.ok ([] : List D)))).bd lstR) ((bd2 (bd2 (Res.ok deed) (Res.ok (PyData.int 0)) ixV) (Res.ok (PyData.str "again")) eqV).bd intV) ixV) addV).bd fun there => (ifR ((chV leV ltV (Res.ok (PyData.int 0)) (Res.ok there) ((Res.ok states).bd lenV)).bd bl) ((consR (Res.ok states) (consR (Res.ok there) (consR (Res.ok (PyData.str "")) (Res.ok ([] : List D))))).bd tupR) ((consR (Res.ok states) (consR (Res.ok at_) (consR (Res.ok (PyData.str "nothing")) (Res.ok ([] : List D))))).bd tupR))) (ifR (notR ((chV leV ltV (Res.ok (PyData.int 0)) (bd2 (Res.ok deed) (Res.ok (PyData.int 1)) ixV) ((Res.ok row).bd lenV)).bd bl)) ((consR (Res.ok states) (consR (Res.ok at_) (consR (Res.ok (PyData.str "place")) (Res.ok ([] : List D))))).bd tupR) (ifR (andR ((bd2 (bd2 (Res.ok deed) (Res.ok (PyData.int 0)) ixV) (Res.ok (PyData.str "hear")) eqV).bd bl) (notR ((chV leV ltV (Res.ok (PyData.int 0)) (bd2 (Res.ok deed) (Res.ok (PyData.int 2)) ixV) (bd2 (Res.ok code) (Res.ok (PyData.int 0)) ixV)).bd bl))) ((consR (Res.ok states) (consR (Res.ok at_) (consR (Res.ok (PyData.str "number")) (Res.ok ([] : List D))))).bd tupR) (ifR (andR ((bd2 (bd2 (Res.ok deed) (Res.ok (PyData.int 0)) ixV) (Res.ok (PyData.str "hear")) eqV).bd bl) ((bd2 (bd2 (Res.ok row) (bd2 (Res.ok deed) (Res.ok (PyData.int 1)) ixV) ixV) (Res.ok PyData.none) notNV).bd bl)) ((consR (Res.ok states) (consR (Res.ok at_) (consR (Res.ok (PyData.str "heard")) (Res.ok ([] : List D))))).bd tupR) (ifR (andR ((bd2 (bd2 (Res.ok deed) (Res.ok (PyData.int 0)) ixV) (Res.ok (PyData.str "forget")) eqV).bd bl) ((bd2 (bd2 (Res.ok row) (bd2 (Res.ok deed) (Res.ok (PyData.int 1)) ixV) ixV) (Res.ok PyData.none) isNV).bd bl)) ((consR (Res.ok states) (consR (Res.ok at_) (consR (Res.ok (PyData.str "not heard")) (Res.ok ([] : List D))))).bd tupR) (((Res.ok row).bd listV).bd fun later => ((onL later fun ds => (ifR ((bd2 (bd2 (Res.ok deed) (Res.ok (PyData.int 0)) ixV) (Res.ok (PyData.str "hear")) eqV).bd bl) (bd2 (Res.ok deed) (Res.ok (PyData.int 2)) ixV) (Res.ok PyData.none)).bd fun v => (bd2 (Res.ok deed) (Res.ok (PyData.int 1)) ixV).bd fun k => setL ds k v).bd fun later_1 => ((consR (bd2 (slR (Res.ok states) (Res.ok Option.none) ((bd2 (Res.ok at_) (Res.ok (PyData.int 1)) addV).bd partV)) ((consR (Res.ok later_1) (Res.ok ([] : List D))).bd lstR) addV) (consR (bd2 (Res.ok at_) (Res.ok (PyData.int 1)) addV) (consR (Res.ok (PyData.str "")) (Res.ok ([] : List D))))).bd tupR)))))))))
noncomputable def m_law_word (n : Str) : Res D :=
  (((consR (Res.ok (PyData.bool (decide (n = "TooFew")))) (consR (Res.ok (PyData.bool (decide (n = "NoCurve")))) (consR (Res.ok (PyData.bool (decide (n = "NoPaper")))) (consR (Res.ok (PyData.bool (decide (n = "NoPlace")))) (Res.ok ([] : List D)))))).bd lstR).bd fun kinds => ((bd2 (Res.ok kinds) ((consR (Res.ok (PyData.bool (decide (n = "NoNumber")))) (consR (Res.ok (PyData.bool (decide (n = "Heard")))) (consR (Res.ok (PyData.bool (decide (n = "NotHeard")))) (Res.ok ([] : List D))))).bd lstR) addV).bd fun kinds_1 => ((bd2 (Res.ok kinds_1) ((consR (Res.ok (PyData.bool (decide (n = "NothingLeft")))) (consR (Res.ok (PyData.bool (decide (n = "NoText")))) (consR (Res.ok (PyData.bool (decide (n = "NoRow")))) (Res.ok ([] : List D))))).bd lstR) addV).bd fun kinds_2 => (ifR (orR ((bd2 ((Res.ok kinds_2).bd fun d => onL d fun ds => (Res.ok (PyData.bool true)).bd fun e => countL ds e) (Res.ok (PyData.int 1)) neV).bd bl) (notR ((Res.ok (PyData.bool true)).bd bl))) (Res.ok (PyData.str "other")) (((consR (Res.ok (PyData.str "few")) (consR (Res.ok (PyData.str "curve")) (consR (Res.ok (PyData.str "paper")) (consR (Res.ok (PyData.str "place")) (consR (Res.ok (PyData.str "number")) (consR (Res.ok (PyData.str "heard")) (consR (Res.ok (PyData.str "not heard")) (consR (Res.ok (PyData.str "nothing")) (consR (Res.ok (PyData.str "text")) (consR (Res.ok (PyData.str "row")) (Res.ok ([] : List D)))))))))))).bd lstR).bd fun words => (bd2 (Res.ok words) ((Res.ok kinds_2).bd fun d => onL d fun ds => (Res.ok (PyData.bool true)).bd fun e => indexL ds e) ixV))))))
theorem m_word_ok (n w : Str) (h : wordOf n = some w) : m_law_word n = .ok (.str w) := by
  have := word_mem h
  simp only [slips, List.mem_cons, Prod.mk.injEq, List.not_mem_nil, or_false] at this
  rcases this with ⟨rfl, rfl⟩ | ⟨rfl, rfl⟩ | ⟨rfl, rfl⟩ | ⟨rfl, rfl⟩ | ⟨rfl, rfl⟩ | ⟨rfl, rfl⟩ | ⟨rfl, rfl⟩ | ⟨rfl, rfl⟩ | ⟨rfl, rfl⟩ | ⟨rfl, rfl⟩ <;> rfl
noncomputable def m_law (script : D) : Res D :=
  (((consR (Res.ok script) (consR (Res.ok (PyData.int 0)) (consR (Res.ok (PyData.int 5)) (consR (Res.ok (PyData.int 16)) (Res.ok ([] : List D)))))).bd (ap4 m_law_code)).bd fun code => (((consR (Res.ok code) (consR (bd2 ((consR (Res.ok script) (consR (Res.ok (PyData.int 1)) (consR (Res.ok (PyData.int 1)) (consR (Res.ok (PyData.int 9)) (Res.ok ([] : List D)))))).bd (ap4 m_law_draws)) (Res.ok (PyData.int 0)) ixV) (Res.ok ([] : List D)))).bd fun ds => makeR iniR ds).bd fun listener => (((consR (bd2 ((consR (Res.ok PyData.none) (Res.ok ([] : List D))).bd lstR) ((bd2 (Res.ok code) (Res.ok (PyData.int 2)) ixV).bd lenV) repV) (Res.ok ([] : List D))).bd lstR).bd fun states => ((Res.ok (PyData.int 0)).bd fun at_ => ((bd2 ((consR (Res.ok (PyData.int 1)) (consR (Res.ok (PyData.int 1)) (consR (Res.ok (PyData.int 1)) (consR (Res.ok (PyData.int 5)) (Res.ok ([] : List D)))))).bd lstR) (bd2 (bd2 ((consR (Res.ok script) (consR (Res.ok (PyData.int 1)) (consR (Res.ok (PyData.int 2)) (consR (Res.ok (PyData.int 36)) (Res.ok ([] : List D)))))).bd (ap4 m_law_draws)) (Res.ok (PyData.int 1)) ixV) (Res.ok (PyData.int 4)) modV) ixV).bd fun many => (((Res.ok ([] : List D)).bd lstR).bd fun draws => ((((Res.ok many).bd range1).bd fun ds => forN (fun j (s_ : D) => ((bd2 (Res.ok s_) ((consR (Res.ok script) (consR (bd2 (Res.ok (PyData.int 2)) (Res.ok j) addV) (consR (Res.ok (PyData.int 60)) (consR (bd2 (Res.ok (PyData.int 27720)) (Res.ok (PyData.int 27720)) mulI) (Res.ok ([] : List D)))))).bd (ap4 m_law_draws)) addV).bd fun draws_1 => (Res.ok draws_1))) ds draws).bd fun s__1 => ((((Res.ok s__1).bd enumA).bd fun ds => forC (fun d (s__2 : D × D × D) => un2 d fun k draw => (((consR (Res.ok draw) (consR (Res.ok code) (Res.ok ([] : List D)))).bd (ap2 m_law_deed)).bd fun deed => ((ifR (andR ((bd2 (bd2 (bd2 (Res.ok k) (Res.ok (PyData.int 10)) fdivV) (Res.ok (PyData.int 3)) modV) (Res.ok (PyData.int 2)) eqV).bd bl) ((bd2 (Res.ok many) (Res.ok (PyData.int 1)) eqV).bd bl)) ((bd2 ((consR ((consR (Res.ok (PyData.str "back")) (Res.ok ([] : List D))).bd tupR) (consR ((consR (Res.ok (PyData.str "again")) (Res.ok ([] : List D))).bd tupR) (Res.ok ([] : List D)))).bd lstR) (bd2 (Res.ok k) (Res.ok (PyData.int 30)) fdivV) ixV).bd fun deed_1 => (Res.ok deed_1)) (Res.ok deed)).bd fun s__3 => ((ifR (andR ((bd2 (Res.ok many) (Res.ok (PyData.int 1)) gtV).bd bl) ((bd2 (bd2 (Res.ok s__3) (Res.ok (PyData.int 0)) ixV) ((consR (Res.ok (PyData.str "back")) (consR (Res.ok (PyData.str "again")) (Res.ok ([] : List D)))).bd tupR) inT).bd bl)) ((bd2 (Res.ok s__2.1) (Res.ok s__2.2.1) ixV).bd fun row => ((bd2 (bd2 (Res.ok draw) (Res.ok (PyData.int 7)) fdivV) ((Res.ok row).bd lenV) modV).bd fun number => ((ifR ((bd2 (bd2 (Res.ok row) (Res.ok number) ixV) (Res.ok PyData.none) isNV).bd bl) ((consR (Res.ok (PyData.str "hear")) (consR (Res.ok number) (consR (Res.ok (PyData.int 1)) (Res.ok ([] : List D))))).bd tupR) ((consR (Res.ok (PyData.str "forget")) (consR (Res.ok number) (Res.ok ([] : List D)))).bd tupR)).bd fun deed_2 => (Res.ok deed_2)))) (Res.ok s__3)).bd fun s__4 => ((((consR (Res.ok code) (consR (Res.ok s__2.1) (consR (Res.ok s__2.2.1) (consR (Res.ok s__4) (Res.ok ([] : List D)))))).bd (ap4 m_law_later)).bd fun d => un3 d fun a b c => .ok (a, b, c)).bd fun s__5 => (ifX (orX (tcmpX (callX doneG s__2.2.2 (Res.ok s__4)) (fun (listener_1 : D) => (Res.ok s__5.2.2)) neV) fun (listener_1 : D) => ((bd2 (onLi listener_1 fun l => (rowG l []).bd (chT .O)) (bd2 (Res.ok s__5.1) (Res.ok s__5.2.1) ixV) neV).bd bl)) (fun (listener_1 : D) => (Res.ok (PyData.bool false))) Ctl.ret fun (listener_1 : D) => (Res.ok (Ctl.next (s__5.1, s__5.2.1, listener_1))))))))) ds (states, at_, listener)).thenC id fun s__6 => (((rangeDR (bd2 (Res.ok s__6.2.1) (Res.ok (PyData.int 1)) subV) ((Res.ok (PyData.int 1)).bd negV) ((Res.ok (PyData.int 1)).bd negV)).bd fun ds => forC (fun k_1 (s__7 : D) => (ifX (orX (tcmpX (callX doneG s__7 ((consR (Res.ok (PyData.str "back")) (Res.ok ([] : List D))).bd tupR)) (fun (listener_2 : D) => (Res.ok (PyData.str ""))) neV) fun (listener_2 : D) => ((bd2 (onLi listener_2 fun l => (rowG l []).bd (chT .O)) (bd2 (Res.ok s__6.1) (Res.ok k_1) ixV) neV).bd bl)) (fun (listener_2 : D) => (Res.ok (PyData.bool false))) Ctl.ret fun (listener_2 : D) => (Res.ok (Ctl.next listener_2)))) ds s__6.2.2).thenC id fun s__8 => (ifX (orX (tcmpX (callX doneG s__8 ((consR (Res.ok (PyData.str "back")) (Res.ok ([] : List D))).bd tupR)) (fun (listener_3 : D) => (Res.ok (PyData.str "nothing"))) neV) fun (listener_3 : D) => ((bd2 (onLi listener_3 fun l => (rowG l []).bd (chT .O)) (bd2 ((consR (Res.ok PyData.none) (Res.ok ([] : List D))).bd lstR) ((bd2 (Res.ok code) (Res.ok (PyData.int 2)) ixV).bd lenV) repV) neV).bd bl)) (fun (listener_3 : D) => (Res.ok (PyData.bool false))) id fun (listener_3 : D) => ((((slR (Res.ok s__6.1) ((Res.ok (PyData.int 1)).bd partV) (Res.ok Option.none)).bd seqItems).bd fun ds => forC (fun row_1 (s__9 : D) => (ifX (orX (tcmpX (callX doneG s__9 ((consR (Res.ok (PyData.str "again")) (Res.ok ([] : List D))).bd tupR)) (fun (listener_4 : D) => (Res.ok (PyData.str ""))) neV) fun (listener_4 : D) => ((bd2 (onLi listener_4 fun l => (rowG l []).bd (chT .O)) (Res.ok row_1) neV).bd bl)) (fun (listener_4 : D) => (Res.ok (PyData.bool false))) Ctl.ret fun (listener_4 : D) => (Res.ok (Ctl.next listener_4)))) ds listener_3).thenC id fun s__10 => (retX (cmpX (callX doneG s__10 ((consR (Res.ok (PyData.str "again")) (Res.ok ([] : List D))).bd tupR)) (fun (listener_5 : D) => (Res.ok (PyData.str "nothing"))) eqV) id))))))))))))
end SC
namespace SC
open PySem DL
/-! ### numbers by a prime, polynomials -/
def Eqm (p a b : Int) : Prop := p ∣ a - b
theorem Eqm.refl (p a : Int) : Eqm p a a := ⟨0, by omega⟩
theorem Eqm.of_eq {p a b : Int} (h : a = b) : Eqm p a b := h ▸ Eqm.refl p a
theorem Eqm.symm {p a b : Int} (h : Eqm p a b) : Eqm p b a := by obtain ⟨k, hk⟩ := h; exact ⟨-k, by rw [Int.mul_neg]; omega⟩
theorem Eqm.trans {p a b c : Int} (h : Eqm p a b) (h' : Eqm p b c) : Eqm p a c := by obtain ⟨k, hk⟩ := h; obtain ⟨l, hl⟩ := h'; exact ⟨k + l, by rw [Int.mul_add]; omega⟩
theorem Eqm.add {p a b c d : Int} (h : Eqm p a b) (h' : Eqm p c d) : Eqm p (a + c) (b + d) := by obtain ⟨k, hk⟩ := h; obtain ⟨l, hl⟩ := h'; exact ⟨k + l, by rw [Int.mul_add]; omega⟩
theorem Eqm.sub {p a b c d : Int} (h : Eqm p a b) (h' : Eqm p c d) : Eqm p (a - c) (b - d) := by obtain ⟨k, hk⟩ := h; obtain ⟨l, hl⟩ := h'; exact ⟨k - l, by rw [Int.mul_sub]; omega⟩
theorem Eqm.mul {p a b c d : Int} (h : Eqm p a b) (h' : Eqm p c d) : Eqm p (a * c) (b * d) := by
  obtain ⟨k, hk⟩ := h; obtain ⟨l, hl⟩ := h'
  refine ⟨k * c + b * l, ?_⟩
  have e1 : a = b + p * k := by omega
  have e2 : c = d + p * l := by omega
  grind
theorem Eqm.mod (p a : Int) : Eqm p (a % p) a := ⟨-(a / p), by have := Int.emod_add_mul_ediv a p; rw [Int.mul_neg]; omega⟩
theorem Eqm.of_mod {p a b : Int} (h : a % p = b % p) : Eqm p a b := (Eqm.mod p a).symm.trans (h ▸ Eqm.mod p b)
theorem Eqm.to_mod {p a b : Int} (h : Eqm p a b) : a % p = b % p := by
  obtain ⟨k, hk⟩ := h
  rw [show a = b + p * k by omega, Int.add_mul_emod_self_left]
theorem Eqm.zero_iff {p a : Int} : Eqm p a 0 ↔ p ∣ a := by unfold Eqm; rw [Int.sub_zero]
theorem Eqm.eq {p a b : Int} (h : Eqm p a b) (a0 : 0 ≤ a) (a1 : a < p) (b0 : 0 ≤ b) (b1 : b < p) : a = b := by
  have := h.to_mod
  rwa [Int.emod_eq_of_lt a0 a1, Int.emod_eq_of_lt b0 b1] at this
theorem Eqm.mod_eq {p a b : Int} (h : Eqm p a b) (a0 : 0 ≤ a) (a1 : a < p) : a = b % p := by rw [← h.to_mod, Int.emod_eq_of_lt a0 a1]
/-- a prime: what is not 0 has a number by which it comes to 1 -/
structure Prm (p : Int) : Prop where
  two : 2 ≤ p
  hi : p ≤ 97
  fer : ∀ a, ¬ p ∣ a → Eqm p (a * a ^ (p - 2).toNat) 1
theorem Prm.inv {p : Int} (P : Prm p) (a : Int) (h : ¬ p ∣ a) : ∃ b, Eqm p (a * b) 1 := ⟨_, P.fer a h⟩
theorem Prm.pr {p : Int} (P : Prm p) {a b : Int} (h : p ∣ a * b) : p ∣ a ∨ p ∣ b := by
  by_cases ha : p ∣ a
  · exact .inl ha
  · obtain ⟨c, hc⟩ := P.inv a ha
    refine .inr (Eqm.zero_iff.mp ?_)
    have h1 : Eqm p (c * (a * b)) (c * 0) := Eqm.mul (Eqm.refl _ _) (Eqm.zero_iff.mpr h)
    have h2 : Eqm p (a * c * b) (1 * b) := Eqm.mul hc (Eqm.refl _ _)
    have e : c * (a * b) = a * c * b := by grind
    rw [e, Int.mul_zero] at h1
    rw [Int.one_mul] at h2
    exact h2.symm.trans h1
def ev : List Int → Int → Int
  | [], _ => 0
  | a :: l, x => a + x * ev l x
theorem ev_append (f g : List Int) (x : Int) : ev (f ++ g) x = ev f x + x ^ f.length * ev g x := by
  induction f with
  | nil => simp [ev]
  | cons a l ih => simp only [List.cons_append, ev, ih, List.length_cons, Int.pow_succ]; grind
theorem ev_zeros (n : Nat) (x : Int) : ev (List.replicate n 0) x = 0 := by
  induction n with
  | zero => rfl
  | succ n ih => simp [List.replicate_succ, ev, ih]
theorem ev_mod {p : Int} (f : List Int) (x : Int) : Eqm p (ev (f.map (· % p)) x) (ev f x) := by
  induction f with
  | nil => exact Eqm.refl _ _
  | cons a l ih => exact Eqm.add (Eqm.mod p a) (Eqm.mul (Eqm.refl _ _) ih)
theorem ev_x {p : Int} (f : List Int) {x y : Int} (h : Eqm p x y) : Eqm p (ev f x) (ev f y) := by
  induction f with
  | nil => exact Eqm.refl _ _
  | cons a l ih => exact Eqm.add (Eqm.refl _ _) (Eqm.mul h ih)
theorem ev_set : ∀ (f : List Int) (m : Nat) (v u x : Int), f[m]? = some u → ev (f.set m v) x = ev f x + (v - u) * x ^ m
  | [], _, _, _, _, h => by cases h
  | a :: l, 0, v, u, x, h => by simp at h; subst h; simp [ev]; omega
  | a :: l, m + 1, v, u, x, h => by
    simp only [List.set_cons_succ, ev]
    rw [ev_set l m v u x (by simpa using h), Int.pow_succ]
    grind
theorem ev_take_succ (f : List Int) (i : Nat) (a x : Int) (h : f[i]? = some a) : ev (f.take (i + 1)) x = ev (f.take i) x + a * x ^ i := by
  have hl : i < f.length := by
    rcases Nat.lt_or_ge i f.length with z | z
    · exact z
    · rw [List.getElem?_eq_none z] at h; cases h
  rw [List.take_succ, h]
  simp only [Option.toList_some]
  rw [ev_append, List.length_take_of_le (Nat.le_of_lt hl)]
  simp [ev]
  grind
/-- division by x - c -/
def sd (c : Int) : List Int → List Int
  | [] => []
  | [_] => []
  | _ :: b :: l => ev (b :: l) c :: sd c (b :: l)
theorem sd_len (c : Int) : ∀ f, (sd c f).length = f.length - 1
  | [] => rfl
  | [_] => rfl
  | a :: b :: l => by simp only [sd, List.length_cons, sd_len c (b :: l)]; omega
theorem sd_ev (c x : Int) : ∀ f, ev f x - ev f c = (x - c) * ev (sd c f) x
  | [] => by simp [ev, sd]
  | [a] => by simp [ev, sd]
  | a :: b :: l => by
    have ih := sd_ev c x (b :: l)
    show a + x * ev (b :: l) x - (a + c * ev (b :: l) c) = (x - c) * (ev (b :: l) c + x * ev (sd c (b :: l)) x)
    generalize ev (b :: l) x = A at *
    generalize ev (b :: l) c = B at *
    generalize ev (sd c (b :: l)) x = C at *
    have e : A = B + (x - c) * C := by omega
    subst e
    grind
theorem sd_all {p c : Int} : ∀ f, (∀ a ∈ sd c f, p ∣ a) → Eqm p (ev f c) 0 → ∀ a ∈ f, p ∣ a
  | [], _, _, a, ha => by cases ha
  | [b], _, h, a, ha => by
    have : a = b := by simpa using ha
    subst this
    have e : ev [a] c = a := by simp [ev]
    rw [e] at h
    exact Eqm.zero_iff.mp h
  | b :: d :: l, h1, h2, a, ha => by
    have h3 : p ∣ ev (d :: l) c := h1 _ (by simp [sd])
    have h4 := sd_all (d :: l) (fun a ha => h1 a (by simp [sd, ha])) (Eqm.zero_iff.mpr h3)
    rcases List.mem_cons.mp ha with rfl | ha
    · have h2 : Eqm p (a + c * ev (d :: l) c) 0 := h2
      have := Eqm.sub h2 (Eqm.mul (Eqm.refl p c) (Eqm.zero_iff.mpr h3))
      rw [Int.mul_zero] at this
      have e : a + c * ev (d :: l) c - c * ev (d :: l) c = a := by omega
      rw [e] at this
      exact Eqm.zero_iff.mp this
    · exact h4 a ha
/-- so many unlike roots: nothing is left -/
theorem roots_zero {p : Int} (P : Prm p) : ∀ (pts : List Int) (f : List Int), f.length ≤ pts.length → pts.Pairwise (fun x y => ¬ p ∣ x - y) → (∀ x ∈ pts, Eqm p (ev f x) 0) → ∀ a ∈ f, p ∣ a
  | [], f, hl, _, _ => fun a ha => by
    have : f = [] := List.eq_nil_of_length_eq_zero (by simpa using hl)
    subst this; cases ha
  | c :: ps, f, hl, hd, h0 => by
    obtain ⟨d1, d2⟩ := List.pairwise_cons.mp hd
    refine sd_all f (roots_zero P ps (sd c f) (by rw [sd_len]; simp at hl; omega) d2 fun x hx => ?_) (h0 c (by simp))
    have e := sd_ev c x f
    have h1 : Eqm p (ev f x - ev f c) (0 - 0) := Eqm.sub (h0 x (by simp [hx])) (h0 c (by simp))
    rw [e] at h1
    rcases P.pr (Eqm.zero_iff.mp h1) with z | z
    · exfalso
      refine d1 x hx ?_
      obtain ⟨k, hk⟩ := z
      exact ⟨-k, by rw [Int.mul_neg]; omega⟩
    · exact Eqm.zero_iff.mpr z
theorem ev_sub : ∀ (f g : List Int) (x : Int), f.length = g.length → ev (List.zipWith (· - ·) f g) x = ev f x - ev g x
  | [], [], _, _ => rfl
  | a :: f, b :: g, x, h => by
    simp only [List.zipWith_cons_cons, ev]
    rw [ev_sub f g x (by simpa using h), Int.mul_sub]
    omega
/-- the polynomial through unlike points is the only one -/
theorem interp_uniq {p : Int} (P : Prm p) {f g pts : List Int} (hl : f.length = g.length) (hn : f.length ≤ pts.length) (hd : pts.Pairwise (fun x y => ¬ p ∣ x - y)) (h : ∀ x ∈ pts, Eqm p (ev f x) (ev g x))
    (hf : ∀ a ∈ f, 0 ≤ a ∧ a < p) (hg : ∀ a ∈ g, 0 ≤ a ∧ a < p) : f = g := by
  have z := roots_zero P pts (List.zipWith (· - ·) f g) (by simp [hl]; omega) hd fun x hx => by
    rw [ev_sub f g x hl]
    have := Eqm.sub (h x hx) (Eqm.refl p (ev g x))
    rwa [Int.sub_self] at this
  clear h hn hd
  induction f generalizing g with
  | nil => exact (List.eq_nil_of_length_eq_zero hl.symm).symm
  | cons a f ih =>
    cases g with
    | nil => cases hl
    | cons b g =>
      have h1 : p ∣ a - b := z _ (by simp)
      have h2 := Eqm.eq h1 (hf a (by simp)).1 (hf a (by simp)).2 (hg b (by simp)).1 (hg b (by simp)).2
      rw [h2, ih (by simpa using hl) (fun a ha => hf a (by simp [ha])) (fun a ha => hg a (by simp [ha])) fun a ha => z a (by simp [ha])]
end SC
namespace SC
open PySem DL
theorem cell_ok {ns : List Int} {k : Int} (hk : 0 ≤ k) : ∃ c : Int, m_law_cell (intL ns) (.int k) = .ok (.int c) := by
  unfold m_law_cell
  simp only [bd_ok, bd2_ok, lenV_list, List.length_map, ltV_int, bl_bool, ifR_ok, eqV_int]
  by_cases h1 : k < (ns.length : Int)
  · obtain ⟨v, _, e⟩ := ix_ints hk h1
    exact ⟨v, by simp [h1, e]⟩
  · rw [if_neg (by simpa using h1)]
    by_cases h2 : (ns.length : Int) = 0
    · rw [if_pos (by simpa using h2), mulI_l k (by decide)]
      exact ⟨_, rfl⟩
    · rw [if_neg (by simpa using h2), modV_int (by omega), mulI_l k (by decide)]
      obtain ⟨v, _, e⟩ := ix_ints (ns := ns) (i := k % (ns.length : Int)) (Int.emod_nonneg _ (by omega)) (Int.emod_lt_of_pos _ (by omega))
      simp only [bd2_ok]
      rw [e]
      simp only [bd2_ok, modV_int (show (0 : Int) < 1000003 by decide), addV_int]
      exact ⟨_, rfl⟩
theorem primes_at {i : Int} (h0 : 0 ≤ i) (h : i < 8) : ∃ p : Int, 2147483497 ≤ p ∧ p ≤ 2147483647 ∧ ixV (.tuple [.int 2147483647, .int 2147483629, .int 2147483587, .int 2147483579, .int 2147483563, .int 2147483549, .int 2147483543, .int 2147483497]) (.int i) = .ok (.int p) := by
  obtain ⟨n, rfl⟩ : ∃ n : Nat, i = n := ⟨i.toNat, by omega⟩
  have hn : n < 8 := by omega
  match n, hn with
  | 0, _ => exact ⟨2147483647, by decide, by decide, rfl⟩
  | 1, _ => exact ⟨2147483629, by decide, by decide, rfl⟩
  | 2, _ => exact ⟨2147483587, by decide, by decide, rfl⟩
  | 3, _ => exact ⟨2147483579, by decide, by decide, rfl⟩
  | 4, _ => exact ⟨2147483563, by decide, by decide, rfl⟩
  | 5, _ => exact ⟨2147483549, by decide, by decide, rfl⟩
  | 6, _ => exact ⟨2147483543, by decide, by decide, rfl⟩
  | 7, _ => exact ⟨2147483497, by decide, by decide, rfl⟩
theorem draws_ok {ns : List Int} {k base : Int} (many : Nat) (hk : 0 ≤ k) (hm : many ≤ 1000) (hb : 0 < base) (hb2 : base < 1073741824) :
    ∃ row : List Int, row.length = many ∧ (∀ x ∈ row, 0 ≤ x ∧ x < base) ∧ m_law_draws (intL ns) (.int k) (.int many) (.int base) = .ok (intL row) := by
  obtain ⟨c, hc⟩ := cell_ok (ns := ns) hk
  unfold m_law_draws
  simp only [consR_ok, bd_ok, ap2_ok, hc]
  rw [tupR_ok (by decide)]
  simp only [bd_ok, bd2_ok, lstR_nil]
  rw [show powV (.int 10) (.int 18) = .ok (.int 1000000000000000000) by rfl]
  simp only [bd_ok, bd2_ok, geV_int, bl_bool, ifR_ok]
  obtain ⟨r0, hr0⟩ : ∃ r0 : Int, (if decide ((1000000000000000000 : Int) ≤ c) = true then Res.ok (PyData.int c) else Res.ok (PyData.int 0)) = .ok (.int r0) := by
    by_cases h : (1000000000000000000 : Int) ≤ c
    · exact ⟨c, by simp [h]⟩
    · exact ⟨0, by simp [h]⟩
  rw [hr0]
  simp only [bd_ok]
  rw [range1_ok (by omega) (by omega)]
  simp only [bd_ok, Int.toNat_natCast]
  refine forN_range_then (P := fun r => ∃ row : List Int, row.length = many ∧ (∀ x ∈ row, 0 ≤ x ∧ x < base) ∧ r = .ok (intL row))
    (fun i s => ∃ (row : List Int) (r : Int), s = (intL row, .int r) ∧ row.length = i ∧ ∀ x ∈ row, 0 ≤ x ∧ x < base) ⟨[], r0, rfl, rfl, by simp⟩ ?_ ?_
  · rintro i _ hi ⟨row, r, rfl, hl, hx⟩
    simp only [Int.zero_add]
    have hi0 : (0 : Int) ≤ (i : Int) := by omega
    have hi1 : (i : Int) < 1000 := by omega
    simp only [modV_int (show (0 : Int) < 8 by decide), bd2_ok, bd_ok]
    obtain ⟨p1, l1, u1, e1⟩ := primes_at (i := (i : Int) % 8) (by omega) (by omega)
    rw [e1]
    simp only [bd2_ok, bd_ok]
    rw [modV_int (by omega), mulI_l (i : Int) (show small 2 = true by decide)]
    simp only [bd2_ok, bd_ok]
    rw [mulI_r _ (show small (i : Int) = true from small_of (by omega) (by omega))]
    simp only [bd2_ok, bd_ok, addV_int]
    have m1 : 0 ≤ c % p1 := Int.emod_nonneg _ (by omega)
    have m2 : c % p1 < p1 := Int.emod_lt_of_pos _ (by omega)
    rw [mulI_l _ (show small (c % p1) = true from small_of (by omega) (by omega))]
    simp only [bd2_ok, bd_ok, addV_int]
    rw [mulI_l _ (show small 7919 = true by decide)]
    simp only [bd2_ok, bd_ok, addV_int]
    rw [mulI_r _ (show small ((i : Int) + 1) = true from small_of (by omega) (by omega))]
    simp only [bd2_ok, bd_ok, addV_int]
    rw [mulI_l k (show small 104729 = true by decide)]
    simp only [bd2_ok, bd_ok, addV_int]
    rw [mulI_l (i : Int) (show small 3 = true by decide)]
    simp only [bd2_ok, bd_ok, addV_int, modV_int (show (0 : Int) < 8 by decide)]
    obtain ⟨p2, l2, u2, e2⟩ := primes_at (i := (3 * (i : Int) + k) % 8) (by omega) (by omega)
    rw [e2]
    simp only [bd2_ok, bd_ok]
    rw [modV_int (by omega)]
    simp only [bd_ok]
    generalize hM : c % p1 * (48271 + 2 * (i : Int) * (i : Int)) + 7919 * ((i : Int) + 1) * ((i : Int) + 1) + 104729 * k = M
    have m3 : 0 ≤ M % p2 := Int.emod_nonneg _ (by omega)
    have m4 : M % p2 < p2 := Int.emod_lt_of_pos _ (by omega)
    have s2 : small (M % p2) = true := small_of (by omega) (by omega)
    simp only [mulI_r _ s2, bd2_ok, bd_ok]
    obtain ⟨p3, l3, u3, e3⟩ := primes_at (i := ((i : Int) + 5) % 8) (by omega) (by omega)
    rw [e3]
    simp only [bd2_ok, bd_ok]
    rw [modV_int (by omega)]
    simp only [bd2_ok, bd_ok, gtV_int, bl_bool, ifR_ok]
    obtain ⟨y, hy⟩ : ∃ y : Int, (if decide (0 < r) = true then Res.ok (PyData.int r) else Res.ok (PyData.int (M % p2 * (M % p2) * (M % p2) % p3))) = .ok (.int y) := by
      by_cases h : 0 < r
      · exact ⟨r, by simp [h]⟩
      · exact ⟨_, by simp [h]; rfl⟩
    rw [hy]
    simp only [bd_ok, onL_list]
    rw [modV_int hb, fdivV_int hb hb2]
    simp only [bd_ok]
    rw [app1_ok (by simp; omega)]
    simp only [bd_ok]
    refine ⟨_, rfl, row ++ [y % base], r / base, by simp, by simp [hl], fun x h => ?_⟩
    rcases List.mem_append.mp h with h | h
    · exact hx x h
    · rw [List.mem_singleton.mp h]
      exact ⟨Int.emod_nonneg _ (by omega), Int.emod_lt_of_pos _ hb⟩
  · rintro _ ⟨row, r, rfl, hl, hx⟩
    exact ⟨row, hl, hx, rfl⟩
/-- an item of such a row -/
theorem row_at {row : List Int} {b i : Int} (hx : ∀ x ∈ row, 0 ≤ x ∧ x < b) (h0 : 0 ≤ i) (h : i < row.length) : ∃ v, 0 ≤ v ∧ v < b ∧ ixV (intL row) (.int i) = .ok (.int v) := by
  obtain ⟨v, h1, h2⟩ := ix_ints h0 h
  obtain ⟨h3, h4⟩ := hx v (List.mem_of_getElem? h1)
  exact ⟨v, h3, h4, h2⟩
end SC
namespace SC
open PySem DL
/-! ### what the package's functions tell, in numbers -/
def InP (p : Int) (l : List Int) : Prop := ∀ a ∈ l, 0 ≤ a ∧ a < p
theorem Prm.pos {p : Int} (P : Prm p) : 0 < p := by have := P.two; omega
theorem Prm.mod0 {p : Int} (P : Prm p) (a : Int) : 0 ≤ a % p := Int.emod_nonneg _ (by have := P.two; omega)
theorem Prm.mod1 {p : Int} (P : Prm p) (a : Int) : a % p < p := Int.emod_lt_of_pos _ P.pos
theorem Prm.small {p a : Int} (P : Prm p) (h0 : 0 ≤ a) (h : a < p) : small a = true := small_of (by omega) (by have := P.hi; omega)
theorem eqm3 {p : Int} {a b c d : Int} (h1 : Eqm p a b) (h2 : b = c) (h3 : Eqm p c d) : Eqm p a d := h1.trans (h2 ▸ h3)
end SC
namespace SC
open PySem DL
/-! ### codes by digits -/
def pw (p a : Nat) : Nat → Nat
  | 0 => 1
  | n + 1 => pw p a n * a % p
def pchk (p : Nat) : Bool := (List.range p).all fun a => a == 0 || a * pw p a (p - 2) % p == 1
theorem pw_eq (p a : Nat) : ∀ n, Eqm (p : Int) ((pw p a n : Nat) : Int) ((a : Int) ^ n)
  | 0 => Eqm.refl _ _
  | n + 1 => by
    unfold pw
    rw [Int.natCast_emod, Int.natCast_mul, Int.pow_succ]
    exact (Eqm.mod _ _).trans (Eqm.mul (pw_eq p a n) (Eqm.refl _ _))
theorem Eqm.pow {p a b : Int} (h : Eqm p a b) : ∀ n : Nat, Eqm p (a ^ n) (b ^ n)
  | 0 => by rw [Int.pow_zero, Int.pow_zero]; exact Eqm.refl _ _
  | n + 1 => by rw [Int.pow_succ, Int.pow_succ]; exact Eqm.mul (Eqm.pow h n) h
theorem prm_of_chk {p : Nat} (h2 : 2 ≤ p) (h97 : p ≤ 97) (h : pchk p = true) : Prm (p : Int) := by
  refine ⟨by omega, by omega, fun a ha => ?_⟩
  have m0 : 0 ≤ a % (p : Int) := Int.emod_nonneg _ (by omega)
  have m1 : a % (p : Int) < p := Int.emod_lt_of_pos _ (by omega)
  obtain ⟨r, hr⟩ : ∃ r : Nat, a % (p : Int) = r := ⟨(a % (p : Int)).toNat, by omega⟩
  have q := List.all_eq_true.mp h r (List.mem_range.mpr (by omega))
  have hr0 : r ≠ 0 := fun z => ha (Int.dvd_of_emod_eq_zero (by rw [hr, z]; rfl))
  simp only [Bool.or_eq_true, beq_iff_eq, hr0, false_or] at q
  have e : Eqm (p : Int) a r := hr ▸ (Eqm.mod _ _).symm
  have f : Eqm (p : Int) ((r * pw p r (p - 2) : Nat) : Int) 1 := Eqm.of_mod (by
    rw [← Int.natCast_emod, q]
    rw [Int.emod_eq_of_lt (by decide) (by omega)]; rfl)
  rw [show ((p : Int) - 2).toNat = p - 2 by omega]
  rw [Int.natCast_mul] at f
  exact (Eqm.mul e ((e.pow _).trans (pw_eq p r _).symm)).trans f
def pns : List Nat := [5, 7, 11, 13, 17, 19, 23, 29, 31, 37, 41, 43, 47, 53, 59, 61, 67, 71, 73, 79, 83, 89, 97]
def pis : List Int := [5, 7, 11, 13, 17, 19, 23, 29, 31, 37, 41, 43, 47, 53, 59, 61, 67, 71, 73, 79, 83, 89, 97]
theorem pis_ok : ∀ v ∈ pis, Prm v ∧ 5 ≤ v := fun v hv => by
  have e : pis = pns.map fun (n : Nat) => (n : Int) := rfl
  rw [e] at hv
  obtain ⟨n, hn, rfl⟩ := List.mem_map.mp hv
  have q : ∀ n ∈ pns, 5 ≤ n ∧ n ≤ 97 ∧ pchk n = true := by decide +kernel
  obtain ⟨q1, q2, q3⟩ := q n hn
  exact ⟨prm_of_chk (by omega) q2 q3, by show (5 : Int) ≤ (n : Int); omega⟩
theorem nodup_erase {l : List Int} (h : l.Nodup) {k : Nat} {y : Int} (hy : l[k]? = some y) : y ∉ l.eraseIdx k ∧ (l.eraseIdx k).Nodup := by
  induction l generalizing k with
  | nil => cases hy
  | cons a l ih =>
    obtain ⟨h1, h2⟩ := List.nodup_cons.mp h
    cases k with
    | zero => simp at hy; subst hy; exact ⟨h1, h2⟩
    | succ k =>
      have hy' : l[k]? = some y := by simpa using hy
      obtain ⟨i1, i2⟩ := ih h2 hy'
      rw [List.eraseIdx_cons_succ]
      have hm := List.mem_of_getElem? hy'
      refine ⟨fun z => ?_, List.nodup_cons.mpr ⟨fun z => h1 (List.mem_of_mem_eraseIdx z), i2⟩⟩
      rcases List.mem_cons.mp z with z | z
      · exact h1 (z ▸ hm)
      · exact i1 z
theorem erase_map {α β : Type} (f : α → β) : ∀ (l : List α) (k : Nat), (l.map f).eraseIdx k = (l.eraseIdx k).map f
  | [], _ => rfl
  | a :: l, 0 => rfl
  | a :: l, k + 1 => by simp only [List.map_cons, List.eraseIdx_cons_succ]; rw [erase_map f l k]
theorem pops_ok {row : List Int} (hx : ∀ x ∈ row, 0 ≤ x) : ∀ (m a : Nat) (cur : List Int), 4 + a + m ≤ row.length → m ≤ cur.length → cur.length ≤ 1000000 → cur.Nodup → ∃ ys : List Int, popsR (fun j xcur => (bd2 (bd2 (Res.ok (intL row)) (addV (PyData.int 4) j) ixV) (Res.ok (.int xcur.length)) modV)) (rangeL a m) (cur.map .int) = .ok (ys.map .int) ∧ ys.length = m ∧ ys.Nodup ∧ ∀ y ∈ ys, y ∈ cur
  | 0, a, cur, _, _, _, _ => ⟨[], rfl, rfl, List.nodup_nil, fun _ z => by cases z⟩
  | m + 1, a, cur, h1, h2, h3, hn => by
    rw [rangeL_succ]
    unfold popsR
    obtain ⟨v, hv, ev⟩ := ix_ints (ns := row) (i := 4 + (a : Int)) (by omega) (by omega)
    have v0 := hx v (List.mem_of_getElem? hv)
    have hc : (0 : Int) < cur.length := by omega
    simp only [bd2_ok, addV_int, ev, bd_ok, lenV_list, List.length_map, modV_int hc, nx_ok]
    obtain ⟨k, hk⟩ : ∃ k : Nat, v % (cur.length : Int) = k := ⟨(v % (cur.length : Int)).toNat, by have := Int.emod_nonneg v (show (cur.length : Int) ≠ 0 by omega); omega⟩
    have hkl : k < cur.length := by have := Int.emod_lt_of_pos v hc; omega
    rw [hk]
    have hg : cur[k]? = some cur[k] := List.getElem?_eq_getElem hkl
    have pl : popL (cur.map .int) (.int (k : Int)) = .ok (.int cur[k], (cur.eraseIdx k).map .int) := by
      unfold popL
      have c1 : decide (-(2 ^ 63) ≤ (k : Int) ∧ (k : Int) < 2 ^ 63) = true := decide_eq_true ⟨by omega, by omega⟩
      have c2 : seqIndex? (k : Int) (cur.map PyData.int).length = some k := by
        rw [List.length_map]
        unfold seqIndex?
        simp
        omega
      simp only [c1, if_true, c2, List.getElem?_map, hg, Option.map_some]
      rw [erase_map]
    rw [pl]
    simp only [bd_ok]
    obtain ⟨n1, n2⟩ := nodup_erase hn hg
    obtain ⟨ys, e, l, nd, mem⟩ := pops_ok hx m (a + 1) (cur.eraseIdx k) (by omega) (by rw [List.length_eraseIdx_of_lt hkl]; omega) (by rw [List.length_eraseIdx_of_lt hkl]; omega) n2
    rw [show (a : Int) + 1 = ((a + 1 : Nat) : Int) by omega, e]
    refine ⟨cur[k] :: ys, rfl, by simp [l], List.nodup_cons.mpr ⟨fun z => n1 (mem _ z), nd⟩, fun y hy => ?_⟩
    rcases List.mem_cons.mp hy with rfl | hy
    · exact List.mem_of_getElem? hg
    · exact List.mem_of_mem_eraseIdx (mem y hy)
theorem rangeL_ints (n : Nat) : rangeL 0 n = ((List.range n).map fun (i : Nat) => (i : Int)).map .int := by
  unfold rangeL
  rw [List.map_map]
  refine List.map_congr_left fun i _ => ?_
  simp
theorem law_code_ok {ns : List Int} {at_ : Int} {mk mn : Int} (h0 : 0 ≤ at_) (h1 : 1 ≤ mk) (h2 : mk ≤ mn) (h3 : mn ≤ 16) : ∃ (p k : Int) (places : List Int), m_law_code (intL ns) (.int at_) (.int mk) (.int mn) = .ok (.tuple [.int p, .int k, intT places]) ∧ Prm p ∧ 5 ≤ p ∧ 1 ≤ k ∧ k ≤ mk ∧ k ≤ p ∧ k ≤ places.length ∧ (places.length : Int) ≤ mn ∧ InP p places ∧ places.Nodup := by
  unfold m_law_code
  simp only [consR_ok, bd_ok, ap4_ok]
  obtain ⟨row, hl, hx, e⟩ := draws_ok (ns := ns) (k := at_) (base := 27720) 20 h0 (by decide) (by decide) (by decide)
  rw [show (.int ((20 : Nat) : Int) : D) = .int 20 from rfl] at e
  rw [e]
  simp only [bd_ok]
  obtain ⟨v0, l0, u0, e0⟩ := row_at (i := 0) hx (by decide) (by omega)
  obtain ⟨v1, l1, u1, e1⟩ := row_at (i := 1) hx (by decide) (by omega)
  obtain ⟨v2, l2, u2, e2⟩ := row_at (i := 2) hx (by decide) (by omega)
  obtain ⟨v3, l3, u3, e3⟩ := row_at (i := 3) hx (by decide) (by omega)
  rw [show ([PyData.int 5, .int 7, .int 11, .int 13, .int 17, .int 19, .int 23, .int 29, .int 31, .int 37, .int 41, .int 43, .int 47, .int 53, .int 59, .int 61, .int 67, .int 71, .int 73, .int 79, .int 83, .int 89, .int 97] : List D) = pis.map .int from rfl, lstR_ok (by decide)]
  obtain ⟨a, ha, ea⟩ := ix_ints (ns := pis) (i := v0 % 23) (by omega) (by show v0 % 23 < 23; omega)
  obtain ⟨b, hb, eb⟩ := ix_ints (ns := pis) (i := v0 % 3) (by omega) (by show v0 % 3 < 23; omega)
  simp only [bd_ok, bd2_ok, e0, e1, e2, e3, modV_int (show (0 : Int) < 23 by decide), modV_int (show (0 : Int) < 3 by decide), modV_int (show (0 : Int) < 2 by decide), ea, eb, consR_ok]
  rw [lstR_ok (xs := [.int a, .int b]) (by show 2 ≤ _; decide)]
  simp only [bd2_ok]
  obtain ⟨p, hp, ep⟩ : ∃ p, (p = a ∨ p = b) ∧ ixV (.list [.int a, .int b]) (.int (v1 % 2)) = .ok (.int p) := by
    by_cases h : v1 % 2 = 0
    · rw [h]; exact ⟨a, .inl rfl, rfl⟩
    · rw [show v1 % 2 = 1 by omega]; exact ⟨b, .inr rfl, rfl⟩
  have P : Prm p ∧ 5 ≤ p := by
    rcases hp with rfl | rfl
    · exact pis_ok _ (List.mem_of_getElem? ha)
    · exact pis_ok _ (List.mem_of_getElem? hb)
  obtain ⟨P, p5⟩ := P
  have p97 := P.hi
  rw [ep]
  simp only [bd_ok, min2V_int, bd2_ok]
  generalize hm : (if p < mk then p else mk) = m1
  have b1 : 1 ≤ m1 ∧ m1 ≤ mk ∧ m1 ≤ p := by rw [← hm]; split <;> omega
  rw [modV_int (by omega)]
  simp only [bd2_ok, addV_int, bd_ok]
  generalize hk : 1 + v2 % m1 = k
  have b2 : 1 ≤ k ∧ k ≤ m1 := by have := Int.emod_nonneg v2 (show m1 ≠ 0 by omega); have := Int.emod_lt_of_pos v2 (show 0 < m1 by omega); omega
  simp only [subV_int, bd2_ok, addV_int]
  generalize hm2 : (if p < mn then p else mn) = m2
  have b3 : m1 ≤ m2 ∧ m2 ≤ mn ∧ m2 ≤ p := by rw [← hm2, ← hm]; split <;> split <;> omega
  rw [modV_int (by omega)]
  simp only [bd2_ok, addV_int, bd_ok]
  obtain ⟨many, hmany⟩ : ∃ many : Nat, k + v3 % (m2 - k + 1) = many := ⟨(k + v3 % (m2 - k + 1)).toNat, by have := Int.emod_nonneg v3 (show m2 - k + 1 ≠ 0 by omega); omega⟩
  have b4 : k ≤ many ∧ (many : Int) ≤ m2 := by have := Int.emod_nonneg v3 (show m2 - k + 1 ≠ 0 by omega); have := Int.emod_lt_of_pos v3 (show 0 < m2 - k + 1 by omega); omega
  rw [hmany]
  have lr : listRange1 (Res.ok (.int p)) = .ok (.list (rangeL 0 p.toNat)) := by
    unfold listRange1 rgL rgOk
    simp only [bd_ok]
    rw [in62_of (by omega) (by omega), in62_of (by omega) (by omega)]
    have : fits (p - 0).toNat = true := decide_eq_true (by omega)
    rw [this]
    simp
  rw [lr, range1_ok (by omega) (by omega), Int.toNat_natCast]
  simp only [bd_ok, onL_list]
  obtain ⟨ys, ey, yl, yn, ym⟩ := pops_ok (row := row) (fun x h => (hx x h).1) many 0 ((List.range p.toNat).map fun (i : Nat) => (i : Int)) (by omega) (by simp; omega) (by simp; omega) (by
    refine List.Pairwise.map _ (fun a b h => ?_) List.nodup_range
    omega)
  rw [rangeL_ints p.toNat]
  rw [show ((0 : Nat) : Int) = 0 from rfl] at ey
  simp only [bd_ok, bd2_ok, lenV_list]
  rw [ey]
  simp only [bd_ok]
  rw [tupR_ok (by simp; omega)]
  simp only [bd_ok]
  refine ⟨p, k, ys, rfl, P, p5, b2.1, by omega, by omega, by omega, by omega, fun y hy => ?_, yn⟩
  obtain ⟨i, hi, rfl⟩ := List.mem_map.mp (ym y hy)
  have := List.mem_range.mp hi
  exact ⟨by omega, by omega⟩
end SC
namespace SC
open PySem DL
theorem cut_ints (row : List Int) (lo hi : Option Int) : ∃ xs : List Int, cutD (row.map .int) lo hi = xs.map .int ∧ xs.length ≤ row.length := by
  unfold cutD
  rw [← List.map_drop, ← List.map_take]
  exact ⟨_, rfl, by rw [List.length_take, List.length_drop]; omega⟩
end SC
namespace SC
open PySem DL
/-! ### things of any kind -/
def isW : D → Bool
  | .int _ => true
  | _ => false
def OkE (d : D) : Prop := PyData.canLay0 d = true ∧ d.depth ≤ 3
theorem okE_int (i : Int) : OkE (.int i) := ⟨rfl, by simp [PyData.depth]⟩
theorem isi_ok {T : String} {d : D} (h : OkE d) : isiV T d = .ok (.bool (isiB T d)) := by
  cases d with
  | dict kvs => exact absurd h.1 (by simp [PyData.canLay0])
  | _ => rfl
theorem bls_map {α : Type} (f : α → Bool) : ∀ ds : List α, blsOf (ds.map fun d => .bool (f d)) = some (ds.map f)
  | [] => rfl
  | d :: ds => by simp [blsOf, bls_map f ds]
theorem allV_map {α : Type} (f : α → Bool) (ds : List α) : allV (.list (ds.map fun d => .bool (f d))) = .ok (.bool (ds.all f)) := by
  simp only [allV, bls_map, Option.map_some, optB]
  rw [List.all_map]
  rfl
theorem canLay_sub : ∀ {ds : List D}, (∀ d ∈ ds, PyData.canLay0 d = true) → PyData.canLayAll0 ds = true
  | [], _ => rfl
  | d :: ds, h => by
    simp only [PyData.canLayAll0, Bool.and_eq_true]
    exact ⟨h d (by simp), canLay_sub fun x hx => h x (by simp [hx])⟩
theorem depth_sub {n : Nat} : ∀ {ds : List D}, (∀ d ∈ ds, d.depth ≤ n) → PyData.depthAll ds ≤ n
  | [], _ => by simp [PyData.depthAll]
  | d :: ds, h => by
    have := depth_sub (n := n) (ds := ds) fun x hx => h x (by simp [hx])
    have := h d (by simp)
    simp only [PyData.depthAll]
    omega
theorem shaped_lst {ds : List D} (h : ∀ d ∈ ds, OkE d) : SeqAt.shaped (.list ds) = true := by
  have h1 := canLay_sub fun d hd => (h d hd).1
  have h2 := depth_sub (n := 3) fun d hd => (h d hd).2
  simp only [SeqAt.shaped, PyData.canLay0, PyData.depth, h1, Bool.true_and]
  exact decide_eq_true (by omega)
theorem eqv_nil (ds : List D) : PyData.eqv (.list ds) (.list []) = ds.isEmpty := by cases ds <;> simp [PyData.eqv, PyData.eqvAll]
theorem eqV_nil {ds : List D} (h : ∀ d ∈ ds, OkE d) : eqV (.list ds) (.list []) = .ok (.bool ds.isEmpty) := by
  unfold eqV
  rw [shaped_lst h, shaped_nil, eqv_nil]
  rfl
theorem neV_nil {ds : List D} (h : ∀ d ∈ ds, OkE d) : neV (.list ds) (.list []) = .ok (.bool (!ds.isEmpty)) := by
  unfold neV
  rw [shaped_lst h, shaped_nil, eqv_nil]
  rfl
theorem filter_tt (ds : List D) : ds.filter (fun _ => true) = ds := List.filter_eq_self.mpr fun _ _ => rfl
end SC
namespace SC
open PySem DL
/-! ### rows, and what a listener keeps -/
def oD : Option Int → D
  | some i => .int i
  | none => .none
abbrev rowL (r : List (Option Int)) : D := .list (r.map oD)
theorem okE_oD (o : Option Int) : OkE (oD o) := by
  cases o with
  | none => exact ⟨rfl, by simp [oD, PyData.depth]⟩
  | some i => exact okE_int i
theorem shaped_row (r : List (Option Int)) : SeqAt.shaped (rowL r) = true := shaped_lst fun d hd => by
  obtain ⟨o, _, rfl⟩ := List.mem_map.mp hd
  exact okE_oD o
theorem eqv_oD (o : Option Int) : PyData.eqv (oD o) (oD o) = true := by
  cases o <;> simp [oD, PyData.eqv]
theorem eqv_row : ∀ r : List (Option Int), PyData.eqvAll (r.map oD) (r.map oD) = true
  | [] => rfl
  | o :: r => by simp [PyData.eqvAll, eqv_oD, eqv_row r]
theorem neV_row (r : List (Option Int)) : neV (rowL r) (rowL r) = .ok (.bool false) := by
  unfold neV
  rw [shaped_row]
  show Res.ok (PyData.bool (!PyData.eqvAll (r.map oD) (r.map oD))) = _
  rw [eqv_row]
  rfl
abbrev Chg := Nat × Option Int
def encE (q : Chg) : D := .tuple [.int (q.1 : Int), oD q.2]
theorem okE_enc (q : Chg) : OkE (encE q) := by
  obtain ⟨n, o⟩ := q
  obtain ⟨h1, h2⟩ := okE_oD o
  refine ⟨by simp [encE, PyData.canLay0, PyData.canLayAll0, h1], ?_⟩
  cases o <;> simp [encE, oD, PyData.depth, PyData.depthAll]
theorem eqV_chg (E : List Chg) : eqV (.list (E.map encE)) (.list []) = .ok (.bool E.isEmpty) := by
  rw [eqV_nil fun d hd => by
    obtain ⟨q, _, rfl⟩ := List.mem_map.mp hd
    exact okE_enc q]
  cases E <;> rfl
/-- the states before, one change each -/
def BK : List Chg → List (List (Option Int)) → List (Option Int) → Prop
  | [], [], _ => True
  | (n, o) :: E, p :: ps, cur => n < cur.length ∧ p = cur.set n o ∧ BK E ps p
  | _, _, _ => False
theorem BK.len : ∀ {E : List Chg} {ps : List (List (Option Int))} {cur : List (Option Int)}, BK E ps cur → E.length = ps.length
  | [], [], _, _ => rfl
  | (n, o) :: E, p :: ps, cur, h => by simp [BK.len h.2.2]
  | [], _ :: _, _, h => h.elim
  | _ :: _, [], _, h => h.elim
theorem BK.rows : ∀ {E : List Chg} {ps : List (List (Option Int))} {cur : List (Option Int)}, BK E ps cur → ∀ p ∈ ps, p.length = cur.length
  | [], [], _, _, p, hp => by cases hp
  | (n, o) :: E, p :: ps, cur, h, q, hq => by
    have e : p.length = cur.length := by rw [h.2.1, List.length_set]
    rcases List.mem_cons.mp hq with rfl | hq
    · exact e
    · rw [BK.rows h.2.2 q hq, e]
  | [], _ :: _, _, h, _, _ => h.elim
  | _ :: _, [], _, h, _, _ => h.elim
structure Rel (c s : D) (E U : List Chg) (ps : List (List (Option Int))) (cur : List (Option Int)) (fs : List (List (Option Int))) (l : Li) : Prop where
  code : l.code = c
  slips : l.slips = s
  row : l.row = cur.map oD
  ear : l.earlier = E.reverse.map encE
  und : l.undone = U.reverse.map encE
  bE : BK E ps cur
  bU : BK U fs cur
theorem pr2_enc (q : Chg) : pr2 (encE q) = some ((q.1 : Int), oD q.2) := rfl
theorem last_chg (E : List Chg) (q : Chg) : ((((q :: E).reverse).map encE)[(((q :: E).reverse).map encE).length - 1]?) = some (encE q) := by
  rw [List.length_map, List.length_reverse, List.length_cons, Nat.add_sub_cancel, List.getElem?_map, List.reverse_cons, List.getElem?_append_right (by simp)]
  simp
theorem drop_chg (E : List Chg) (q : Chg) : (((q :: E).reverse).map encE).dropLast = E.reverse.map encE := by
  rw [List.reverse_cons, List.map_append, List.map_singleton, List.dropLast_concat]
theorem ixN_lt {n k : Nat} (h : k < n) : L2.ixN n (k : Int) = some k := by
  unfold L2.ixN
  have h1 : ¬ (k : Int) < 0 := by omega
  first
    | (rw [if_neg h1]; simp; omega)
    | (simp only [h1, if_false]; simp; omega)
    | (split <;> simp <;> omega)
end SC
namespace SC
open PySem DL
theorem eqS {a b : Str} (h : (PyData.strOk a && PyData.strOk b) = true) : eqV (.str a) (.str b) = .ok (.bool (decide (a = b))) := by
  rw [Bool.and_eq_true] at h
  have s : ∀ z : Str, PyData.strOk z = true → SeqAt.shaped (.str z) = true := fun z hz => by simp [SeqAt.shaped, PyData.canLay0, PyData.depth, hz]
  have e : PyData.eqv (.str a) (.str b) = decide (a = b) := by simp only [PyData.eqv]; exact Bool.beq_eq_decide_eq _ _
  unfold eqV
  rw [s a h.1, s b h.2, e]
  rfl
theorem shS {z : Str} (h : PyData.strOk z = true) : SeqAt.shaped (.str z) = true := by simp [SeqAt.shaped, PyData.canLay0, PyData.depth, h]
theorem neS {a : Str} (h : PyData.strOk a = true) : neV (.str a) (.str a) = .ok (.bool false) := by
  have e : PyData.eqv (.str a) (.str a) = true := by simp [PyData.eqv]
  unfold neV
  rw [shS h, e]
  rfl
theorem eq_hear_hear : eqV (.str "hear") (.str "hear") = .ok (.bool true) := by
  rw [eqS (by decide +kernel)]
  congr 2
theorem eq_hear_forget : eqV (.str "hear") (.str "forget") = .ok (.bool false) := by
  rw [eqS (by decide +kernel)]
  congr 2
theorem eq_hear_back : eqV (.str "hear") (.str "back") = .ok (.bool false) := by
  rw [eqS (by decide +kernel)]
  congr 2
theorem eq_hear_again : eqV (.str "hear") (.str "again") = .ok (.bool false) := by
  rw [eqS (by decide +kernel)]
  congr 2
theorem eq_forget_hear : eqV (.str "forget") (.str "hear") = .ok (.bool false) := by
  rw [eqS (by decide +kernel)]
  congr 2
theorem eq_forget_forget : eqV (.str "forget") (.str "forget") = .ok (.bool true) := by
  rw [eqS (by decide +kernel)]
  congr 2
theorem eq_forget_back : eqV (.str "forget") (.str "back") = .ok (.bool false) := by
  rw [eqS (by decide +kernel)]
  congr 2
theorem eq_forget_again : eqV (.str "forget") (.str "again") = .ok (.bool false) := by
  rw [eqS (by decide +kernel)]
  congr 2
theorem eq_back_hear : eqV (.str "back") (.str "hear") = .ok (.bool false) := by
  rw [eqS (by decide +kernel)]
  congr 2
theorem eq_back_forget : eqV (.str "back") (.str "forget") = .ok (.bool false) := by
  rw [eqS (by decide +kernel)]
  congr 2
theorem eq_back_back : eqV (.str "back") (.str "back") = .ok (.bool true) := by
  rw [eqS (by decide +kernel)]
  congr 2
theorem eq_back_again : eqV (.str "back") (.str "again") = .ok (.bool false) := by
  rw [eqS (by decide +kernel)]
  congr 2
theorem eq_again_hear : eqV (.str "again") (.str "hear") = .ok (.bool false) := by
  rw [eqS (by decide +kernel)]
  congr 2
theorem eq_again_forget : eqV (.str "again") (.str "forget") = .ok (.bool false) := by
  rw [eqS (by decide +kernel)]
  congr 2
theorem eq_again_back : eqV (.str "again") (.str "back") = .ok (.bool false) := by
  rw [eqS (by decide +kernel)]
  congr 2
theorem eq_again_again : eqV (.str "again") (.str "again") = .ok (.bool true) := by
  rw [eqS (by decide +kernel)]
  congr 2
theorem in_hear : inT (.str "hear") (.tuple [.str "back", .str "again"]) = .ok (.bool false) := by
  have s1 : SeqAt.shaped (.str "hear") = true := shS (by decide +kernel)
  have s2 : SeqAt.shaped (.tuple [.str "back", .str "again"]) = true := by
    have h1 : PyData.strOk "back" = true := by decide +kernel
    have h2 : PyData.strOk "again" = true := by decide +kernel
    simp [SeqAt.shaped, PyData.canLay0, PyData.canLayAll0, PyData.depth, PyData.depthAll, h1, h2]
  show (if (SeqAt.shaped (.str "hear") && SeqAt.shaped (.tuple [.str "back", .str "again"])) = true then Res.ok (PyData.bool (([PyData.str "back", .str "again"] : List D).any fun z => z.eqv (.str "hear"))) else Res.stuck) = _
  rw [s1, s2]
  simp only [Bool.and_self, if_true, List.any_cons, List.any_nil, PyData.eqv]
  congr 2
theorem in_forget : inT (.str "forget") (.tuple [.str "back", .str "again"]) = .ok (.bool false) := by
  have s1 : SeqAt.shaped (.str "forget") = true := shS (by decide +kernel)
  have s2 : SeqAt.shaped (.tuple [.str "back", .str "again"]) = true := by
    have h1 : PyData.strOk "back" = true := by decide +kernel
    have h2 : PyData.strOk "again" = true := by decide +kernel
    simp [SeqAt.shaped, PyData.canLay0, PyData.canLayAll0, PyData.depth, PyData.depthAll, h1, h2]
  show (if (SeqAt.shaped (.str "forget") && SeqAt.shaped (.tuple [.str "back", .str "again"])) = true then Res.ok (PyData.bool (([PyData.str "back", .str "again"] : List D).any fun z => z.eqv (.str "forget"))) else Res.stuck) = _
  rw [s1, s2]
  simp only [Bool.and_self, if_true, List.any_cons, List.any_nil, PyData.eqv]
  congr 2
theorem in_back : inT (.str "back") (.tuple [.str "back", .str "again"]) = .ok (.bool true) := by
  have s1 : SeqAt.shaped (.str "back") = true := shS (by decide +kernel)
  have s2 : SeqAt.shaped (.tuple [.str "back", .str "again"]) = true := by
    have h1 : PyData.strOk "back" = true := by decide +kernel
    have h2 : PyData.strOk "again" = true := by decide +kernel
    simp [SeqAt.shaped, PyData.canLay0, PyData.canLayAll0, PyData.depth, PyData.depthAll, h1, h2]
  show (if (SeqAt.shaped (.str "back") && SeqAt.shaped (.tuple [.str "back", .str "again"])) = true then Res.ok (PyData.bool (([PyData.str "back", .str "again"] : List D).any fun z => z.eqv (.str "back"))) else Res.stuck) = _
  rw [s1, s2]
  simp only [Bool.and_self, if_true, List.any_cons, List.any_nil, PyData.eqv]
  congr 2
theorem in_again : inT (.str "again") (.tuple [.str "back", .str "again"]) = .ok (.bool true) := by
  have s1 : SeqAt.shaped (.str "again") = true := shS (by decide +kernel)
  have s2 : SeqAt.shaped (.tuple [.str "back", .str "again"]) = true := by
    have h1 : PyData.strOk "back" = true := by decide +kernel
    have h2 : PyData.strOk "again" = true := by decide +kernel
    simp [SeqAt.shaped, PyData.canLay0, PyData.canLayAll0, PyData.depth, PyData.depthAll, h1, h2]
  show (if (SeqAt.shaped (.str "again") && SeqAt.shaped (.tuple [.str "back", .str "again"])) = true then Res.ok (PyData.bool (([PyData.str "back", .str "again"] : List D).any fun z => z.eqv (.str "again"))) else Res.stuck) = _
  rw [s1, s2]
  simp only [Bool.and_self, if_true, List.any_cons, List.any_nil, PyData.eqv]
  congr 2
theorem w_place : wordOf "NoPlace" = some ("place" : Str) := by decide +kernel
theorem w_number : wordOf "NoNumber" = some ("number" : Str) := by decide +kernel
theorem w_heard : wordOf "Heard" = some ("heard" : Str) := by decide +kernel
theorem w_not : wordOf "NotHeard" = some ("not heard" : Str) := by decide +kernel
theorem w_nothing : wordOf "NothingLeft" = some ("nothing" : Str) := by decide +kernel
def words6 : List Str := ["", "place", "number", "heard", "not heard", "nothing"]
theorem words_ok : ∀ w ∈ words6, PyData.strOk w = true := by decide +kernel
end SC
namespace SC
open PySem DL
theorem ixN_in {n : Nat} {i : Int} (h0 : 0 ≤ i) (h : i < n) : L2.ixN n i = some i.toNat := by
  unfold L2.ixN
  rw [if_pos h0, if_pos h]
theorem turn_none {b : Bool} {l : Li} (hs : srcL b l = []) : turnL b l = .exc "NothingLeft" := by
  unfold turnL
  rw [hs, bd2_ok, show eqV (.list []) (.list []) = .ok (.bool true) from eqV_chg []]
  rfl
theorem row_get {cur : List (Option Int)} {n : Nat} (h : n < cur.length) : (cur.map oD)[n]? = some (oD (cur.getD n none)) := by
  rw [List.getElem?_map, List.getElem?_eq_getElem h, Option.map_some, List.getD_eq_getElem?_getD, List.getElem?_eq_getElem h]
  rfl
theorem turn_some {b : Bool} {l : Li} {n : Nat} {o : Option Int} {S T : List Chg} {cur : List (Option Int)} (hs : srcL b l = (((n, o) :: S).reverse).map encE) (hd : dstL b l = T.reverse.map encE) (hr : l.row = cur.map oD) (hn : n < cur.length) (hl : T.length ≤ 1000000) :
    turnL b l = .ok (mkT b l ((cur.set n o).map oD) (S.reverse.map encE) ((((n, cur.getD n none) :: T).reverse).map encE)) := by
  unfold turnL
  rw [hs, bd2_ok, eqV_chg]
  have e0 : (((n, o) :: S).reverse).isEmpty = false := by simp
  rw [e0]
  simp only [bd_ok, bl_bool, Bool.false_eq_true, if_false]
  rw [last_chg]
  simp only [Option.bind_some, pr2_enc]
  rw [hr, List.length_map, ixN_lt hn]
  simp only
  rw [row_get hn]
  have c : decide ((dstL b l).length < 16777216) = true := by
    rw [hd, List.length_map, List.length_reverse]
    exact decide_eq_true (by omega)
  simp only [c, if_true]
  rw [drop_chg, hd, List.map_set]
  congr 2
  rw [List.reverse_cons, List.map_append]
  rfl
theorem put_some {l : Li} {n : Nat} {o : Option Int} {E : List Chg} {cur : List (Option Int)} (he : l.earlier = E.reverse.map encE) (hr : l.row = cur.map oD) (hn : n < cur.length) (hl : E.length ≤ 1000000) :
    putL l (.int (n : Int)) (oD o) = .ok { l with row := (cur.set n o).map oD, earlier := (((n, cur.getD n none) :: E).reverse).map encE, undone := [] } := by
  unfold putL
  simp only
  rw [hr, List.length_map, ixN_lt hn]
  simp only
  rw [row_get hn]
  have c : (decide (l.earlier.length < 16777216) && noL (oD o)) = true := by
    rw [he, List.length_map, List.length_reverse, Bool.and_eq_true]
    exact ⟨decide_eq_true (by omega), by cases o <;> rfl⟩
  simp only [c, if_true]
  rw [he, List.map_set, List.reverse_cons, List.map_append]
  rfl
theorem Rel.init (c s : D) (m : Nat) : Rel c s [] [] [] (List.replicate m none) [] ⟨c, s, (List.replicate m none : List (Option Int)).map oD, [], []⟩ := ⟨rfl, rfl, rfl, rfl, rfl, trivial, trivial⟩
section
variable {c s : D} {E U : List Chg} {ps fs : List (List (Option Int))} {cur : List (Option Int)} {l : Li}
theorem set_back {cur : List (Option Int)} {n : Nat} (o : Option Int) (h : n < cur.length) : (cur.set n o).set n (cur.getD n none) = cur := by
  rw [List.set_set, List.getD_eq_getElem?_getD, List.getElem?_eq_getElem h, Option.getD_some]
  exact List.set_getElem_self h
theorem Rel.put (R : Rel c s E U ps cur fs l) {n : Nat} (o : Option Int) (hn : n < cur.length) (hl : E.length ≤ 1000000) : ∃ l', putL l (.int (n : Int)) (oD o) = .ok l' ∧ Rel c s ((n, cur.getD n none) :: E) [] (cur :: ps) (cur.set n o) [] l' :=
  ⟨_, put_some R.ear R.row hn hl, ⟨R.code, R.slips, rfl, rfl, rfl, ⟨by rw [List.length_set]; exact hn, (set_back o hn).symm, R.bE⟩, trivial⟩⟩
theorem Rel.back (R : Rel c s E U ps cur fs l) (hl : U.length ≤ 1000000) : (E = [] ∧ ps = [] ∧ turnL true l = .exc "NothingLeft") ∨ ∃ q E' p ps' l', E = q :: E' ∧ ps = p :: ps' ∧ turnL true l = .ok l' ∧ Rel c s E' ((q.1, cur.getD q.1 none) :: U) ps' p (cur :: fs) l' := by
  have bE := R.bE
  match E, ps, bE, R with
  | [], [], _, R =>
    left
    refine ⟨rfl, rfl, turn_none ?_⟩
    show l.earlier = []
    rw [R.ear]
    rfl
  | (n, o) :: E', p :: ps', bE, R =>
    right
    obtain ⟨hn, hp, hb⟩ := bE
    refine ⟨(n, o), E', p, ps', _, rfl, rfl, turn_some (b := true) R.ear R.und R.row hn hl, ⟨R.code, R.slips, by rw [hp]; rfl, rfl, rfl, hb, by rw [hp, List.length_set]; exact hn, by rw [hp]; exact (set_back o hn).symm, R.bU⟩⟩
  | [], _ :: _, bE, _ => exact bE.elim
  | _ :: _, [], bE, _ => exact bE.elim
theorem Rel.again (R : Rel c s E U ps cur fs l) (hl : E.length ≤ 1000000) : (U = [] ∧ fs = [] ∧ turnL false l = .exc "NothingLeft") ∨ ∃ q U' p fs' l', U = q :: U' ∧ fs = p :: fs' ∧ turnL false l = .ok l' ∧ Rel c s ((q.1, cur.getD q.1 none) :: E) U' (cur :: ps) p fs' l' := by
  have bU := R.bU
  match U, fs, bU, R with
  | [], [], _, R =>
    left
    refine ⟨rfl, rfl, turn_none ?_⟩
    show l.undone = []
    rw [R.und]
    rfl
  | (n, o) :: U', p :: fs', bU, R =>
    right
    obtain ⟨hn, hp, hb⟩ := bU
    refine ⟨(n, o), U', p, fs', _, rfl, rfl, turn_some (b := false) R.und R.ear R.row hn hl, ⟨R.code, R.slips, by rw [hp]; rfl, rfl, rfl, ⟨by rw [hp, List.length_set]; exact hn, by rw [hp]; exact (set_back o hn).symm, R.bE⟩, hb⟩⟩
  | [], _ :: _, bU, _ => exact bU.elim
  | _ :: _, [], bU, _ => exact bU.elim
end
theorem need_ok {l : Li} {cur : List (Option Int)} (hr : l.row = cur.map oD) (i : Int) : (((consR (Res.ok (PyData.int i)) (Res.ok ([] : List D))).bd fun ds => if noLs ds then (needG l ds).bd (chT .V) else .stuck) : Res D) = if 0 ≤ i ∧ i < cur.length then .ok .none else .exc "NoPlace" := by
  have e : noLs [PyData.int i] = true := rfl
  simp only [consR_ok, bd_ok, e, if_true]
  unfold needG b_need
  simp (disch := (first | assumption | omega | decide | (simp only [List.length_cons, List.length_nil, List.length_map, List.length_append]; omega))) only [bd_ok, bd_exc, bd2_ok, consR_ok, nx_ok, ap1_ok, ap2_ok, ap3_ok, ap4_ok, ap5_ok, un2_tup, un3_tup, onL_list, addV_int, subV_int, ltV_int, leV_int, gtV_int, geV_int, augI_int, negV_int, eqV_int, neV_int, bl_bool, ifR_ok, andR_ok, orR_ok, notR_ok, andV_ok, orV_ok, notV_ok, lenV_list, lenV_tup, List.length_map, List.length_cons, List.length_nil, seqItems_list, seqItems_tup, enumA_list, enumA_tup, zipAA_list, zipAA_tup, revA_tup, revA_list, tupleV_list, tupleV_tup, listV_list, listV_tup, max2V_int, min2V_int, lstR_nil, thenC_next, thenC_ret, Bool.not_true, Bool.not_false, if_true, if_false, Bool.false_eq_true, modV_int, fdivV_a, mulI_a, mulI_b, range1_a, range2_a, lstR_ok, tupR_ok, app1_ok, ix_intsA, ix_intsT, isi_int_int, isi_bool_int, isi_bool_bool, isi_list_list, isi_tup_tup, isNV_int, isNV_none, isNV_list, isNV_tup, notNV_int, notNV_none, notNV_list, notNV_tup, addV_lst, addV_tup, partV_int, slR_list, slR_tup, setL_a, chV_int, Int.zero_add, Int.toNat_natCast, decide_true, decide_false, List.length_append, List.length_singleton, Nat.reduceAdd, Nat.zero_add, Int.cast_ofNat_Int, Int.natCast_zero, Int.natCast_one, Int.reduceLT, Int.reduceLE, Int.reduceEq, Int.reduceNe, Int.reduceAdd, Int.reduceSub, Int.reduceMul, Int.reduceNeg, Int.reduceToNat, eq_self, ite_self]
  rw [hr, List.length_map]
  by_cases h0 : i < 0
  · have : ¬ (0 ≤ i ∧ i < cur.length) := by omega
    simp only [h0, decide_true, if_true, this, if_false]
    rfl
  · by_cases h1 : (cur.length : Int) ≤ i
    · have : ¬ (0 ≤ i ∧ i < cur.length) := by omega
      simp only [h0, h1, decide_true, decide_false, if_true, this, if_false, Bool.false_eq_true]
      rfl
    · have : (0 ≤ i ∧ i < cur.length) := by omega
      simp only [h0, h1, decide_false, this, if_true, if_false, Bool.false_eq_true, and_self]
      rfl
end SC
namespace SC
open PySem DL
/-! ### one deed -/
theorem isN_oD (o : Option Int) : isNV (oD o) .none = .ok (.bool o.isNone) := by cases o <;> rfl
theorem notN_oD (o : Option Int) : notNV (oD o) .none = .ok (.bool o.isSome) := by cases o <;> rfl
abbrev stD (ss : List (List (Option Int))) : D := .list (ss.map rowL)
theorem ix_oD {cur : List (Option Int)} {i : Int} (h0 : 0 ≤ i) (h : i < cur.length) : ixV (.list (cur.map oD)) (.int i) = .ok (oD (cur.getD i.toNat none)) := ix_list h0 (row_get (by omega))
def DF (d : D) : Prop := (∃ n e : Int, d = .tuple [.str "hear", .int n, .int e]) ∨ (∃ n : Int, d = .tuple [.str "forget", .int n]) ∨ d = .tuple [.str "back"] ∨ d = .tuple [.str "again"]
theorem st_at {ps fs : List (List (Option Int))} {cur : List (Option Int)} : ixV (stD (ps.reverse ++ cur :: fs)) (.int (ps.length : Int)) = .ok (rowL cur) := by
  refine ix_list (by omega) ?_
  rw [Int.toNat_natCast, List.getElem?_map, List.getElem?_append_right (by simp)]
  simp
theorem st_len {ps fs : List (List (Option Int))} {cur : List (Option Int)} : (ps.reverse ++ cur :: fs).length = ps.length + (fs.length + 1) := by simp
theorem st_cut {ps fs : List (List (Option Int))} {cur : List (Option Int)} : cutD ((ps.reverse ++ cur :: fs).map rowL) none (some ((ps.length : Int) + 1)) = (ps.reverse ++ [cur]).map rowL := by
  rw [cut_to (by omega), ← List.map_take, show ((ps.length : Int) + 1).toNat = ps.length + 1 by omega]
  congr 1
  rw [List.take_append, List.take_of_length_le (by simp), List.length_reverse, Nat.add_sub_cancel_left]
  rfl
theorem st_one (x : List (Option Int)) : [rowL x] = [x].map rowL := rfl
section
variable {p k : Int} {places : List Int} {s : D} {E U : List Chg} {ps fs : List (List (Option Int))} {cur : List (Option Int)} {l : Li}
/-- what one deed does, here and there -/
def After (p k : Int) (places : List Int) (s : D) (E U : List Chg) (ps : List (List (Option Int))) (cur : List (Option Int)) (fs : List (List (Option Int))) (l : Li) (deed : D) : Prop :=
  ∃ w E' U' ps' cur' fs' l', doneG l [deed] = .ok (.str w, l') ∧ w ∈ words6 ∧ Rel (.tuple [.int p, .int k, intT places]) s E' U' ps' cur' fs' l' ∧
    m_law_later (.tuple [.int p, .int k, intT places]) (stD (ps.reverse ++ cur :: fs)) (.int (ps.length : Int)) deed = .ok (.tuple [stD (ps'.reverse ++ cur' :: fs'), .int (ps'.length : Int), .str w]) ∧
    ps'.length + fs'.length ≤ ps.length + fs.length + 1 ∧ cur'.length = cur.length ∧ (ps'.reverse ++ cur' :: fs')[0]? = (ps.reverse ++ cur :: fs)[0]?
theorem first_same {ps : List (List (Option Int))} {a : List (List (Option Int))} {b : List (List (Option Int))} {x : List (Option Int)} : (ps.reverse ++ x :: a)[0]? = (ps.reverse ++ x :: b)[0]? := by
  cases ps.reverse with
  | nil => rfl
  | cons y r => rfl
theorem after_same (R : Rel (.tuple [.int p, .int k, intT places]) s E U ps cur fs l) {deed : D} {w : Str} (hw : w ∈ words6) (h1 : doneG l [deed] = .ok (.str w, l)) (h2 : m_law_later (.tuple [.int p, .int k, intT places]) (stD (ps.reverse ++ cur :: fs)) (.int (ps.length : Int)) deed = .ok (.tuple [stD (ps.reverse ++ cur :: fs), .int (ps.length : Int), .str w])) :
    After p k places s E U ps cur fs l deed := ⟨w, E, U, ps, cur, fs, l, h1, hw, R, h2, by omega, rfl, rfl⟩
theorem ix0 {d : D} {r : List D} : ixV (.tuple (d :: r)) (.int 0) = .ok d := ix_tup (by decide) rfl
theorem ix1 {d e : D} {r : List D} : ixV (.tuple (d :: e :: r)) (.int 1) = .ok e := ix_tup (by decide) rfl
theorem ix2 {d e f : D} {r : List D} : ixV (.tuple (d :: e :: f :: r)) (.int 2) = .ok f := ix_tup (by decide) rfl
theorem pm_at (b : Bool) : (bd2 (Res.ok (.list [PyData.int (-1), .int 1])) (intV (.bool b)) ixV) = .ok (.int (if b then 1 else -1)) := by cases b <;> rfl
theorem step_back (R : Rel (.tuple [.int p, .int k, intT places]) s E U ps cur fs l) (hl : ps.length + fs.length ≤ 1000) : After p k places s E U ps cur fs l (.tuple [.str "back"]) := by
  have hE := R.bE.len
  have hU := R.bU.len
  have hd : deedR (.tuple [.str "back"]) l = turnL true l := by
    unfold deedR
    simp only [bd2_ok, ix0, eq_back_hear, eq_back_forget, eq_back_back, bd_ok, bl_bool, ifR_ok, Bool.false_eq_true, if_false, if_true, backG]
  have hlat : m_law_later (.tuple [.int p, .int k, intT places]) (stD (ps.reverse ++ cur :: fs)) (.int (ps.length : Int)) (.tuple [.str "back"]) = if 0 < ps.length then .ok (.tuple [stD (ps.reverse ++ cur :: fs), .int ((ps.length : Int) + -1), .str ""]) else .ok (.tuple [stD (ps.reverse ++ cur :: fs), .int (ps.length : Int), .str "nothing"]) := by
    unfold m_law_later
    simp (disch := (first | assumption | omega | decide | (simp only [List.length_cons, List.length_nil, List.length_map, List.length_append]; omega))) only [bd_ok, bd_exc, bd2_ok, consR_ok, nx_ok, ap1_ok, ap2_ok, ap3_ok, ap4_ok, ap5_ok, un2_tup, un3_tup, onL_list, addV_int, subV_int, ltV_int, leV_int, gtV_int, geV_int, augI_int, negV_int, eqV_int, neV_int, bl_bool, ifR_ok, andR_ok, orR_ok, notR_ok, andV_ok, orV_ok, notV_ok, lenV_list, lenV_tup, List.length_map, List.length_cons, List.length_nil, seqItems_list, seqItems_tup, enumA_list, enumA_tup, zipAA_list, zipAA_tup, revA_tup, revA_list, tupleV_list, tupleV_tup, listV_list, listV_tup, max2V_int, min2V_int, lstR_nil, thenC_next, thenC_ret, Bool.not_true, Bool.not_false, if_true, if_false, Bool.false_eq_true, modV_int, fdivV_a, mulI_a, mulI_b, range1_a, range2_a, lstR_ok, tupR_ok, app1_ok, ix_intsA, ix_intsT, isi_int_int, isi_bool_int, isi_bool_bool, isi_list_list, isi_tup_tup, isNV_int, isNV_none, isNV_list, isNV_tup, notNV_int, notNV_none, notNV_list, notNV_tup, addV_lst, addV_tup, partV_int, slR_list, slR_tup, setL_a, chV_int, Int.zero_add, Int.toNat_natCast, decide_true, decide_false, List.length_append, List.length_singleton, Nat.reduceAdd, Nat.zero_add, Int.cast_ofNat_Int, Int.natCast_zero, Int.natCast_one, Int.reduceLT, Int.reduceLE, Int.reduceEq, Int.reduceNe, Int.reduceAdd, Int.reduceSub, Int.reduceMul, Int.reduceNeg, Int.reduceToNat, eq_self, ite_self, st_at, ix0, in_back, eq_back_again, pm_at, List.length_reverse]
    by_cases h : 0 < ps.length
    · have h1 : (0 : Int) ≤ (ps.length : Int) + -1 := by omega
      have h2 : (ps.length : Int) + -1 < ((ps.length + (fs.length + 1) : Nat) : Int) := by omega
      simp only [h, h1, h2, decide_true, bl_bool, bd_ok, if_true, ifR_ok, ltV_int]
    · have h1 : ¬ (0 : Int) ≤ (ps.length : Int) + -1 := by omega
      simp only [h, h1, decide_false, bl_bool, bd_ok, if_false, Bool.false_eq_true, ifR_ok]
  rcases R.back (by omega) with ⟨rfl, rfl, ht⟩ | ⟨q, E', x, ps', l', rfl, rfl, ht, R'⟩
  · refine after_same R (w := "nothing") (by decide +kernel) ?_ ?_
    · show doneR (deedR _ l) l = _
      rw [hd, ht]
      unfold doneR
      simp only [w_nothing]
    · rw [hlat]
      rfl
  · refine ⟨"", E', _, ps', x, cur :: fs, l', ?_, by decide +kernel, R', ?_, ?_, ?_, ?_⟩
    · show doneR (deedR _ l) l = _
      rw [hd, ht]
      rfl
    · rw [hlat, if_pos (by simp), show ((x :: ps').length : Int) + -1 = (ps'.length : Int) by simp only [List.length_cons]; omega, List.reverse_cons, List.append_assoc, List.singleton_append]
    · simp only [List.length_cons]; omega
    · exact R.bE.rows x (by simp)
    · rw [List.reverse_cons, List.append_assoc, List.singleton_append]
theorem step_again (R : Rel (.tuple [.int p, .int k, intT places]) s E U ps cur fs l) (hl : ps.length + fs.length ≤ 1000) : After p k places s E U ps cur fs l (.tuple [.str "again"]) := by
  have hE := R.bE.len
  have hU := R.bU.len
  have hd : deedR (.tuple [.str "again"]) l = turnL false l := by
    unfold deedR
    simp only [bd2_ok, ix0, eq_again_hear, eq_again_forget, eq_again_back, bd_ok, bl_bool, ifR_ok, Bool.false_eq_true, if_false, againG]
  have hlat : m_law_later (.tuple [.int p, .int k, intT places]) (stD (ps.reverse ++ cur :: fs)) (.int (ps.length : Int)) (.tuple [.str "again"]) = if 0 < fs.length then .ok (.tuple [stD (ps.reverse ++ cur :: fs), .int ((ps.length : Int) + 1), .str ""]) else .ok (.tuple [stD (ps.reverse ++ cur :: fs), .int (ps.length : Int), .str "nothing"]) := by
    unfold m_law_later
    simp (disch := (first | assumption | omega | decide | (simp only [List.length_cons, List.length_nil, List.length_map, List.length_append]; omega))) only [bd_ok, bd_exc, bd2_ok, consR_ok, nx_ok, ap1_ok, ap2_ok, ap3_ok, ap4_ok, ap5_ok, un2_tup, un3_tup, onL_list, addV_int, subV_int, ltV_int, leV_int, gtV_int, geV_int, augI_int, negV_int, eqV_int, neV_int, bl_bool, ifR_ok, andR_ok, orR_ok, notR_ok, andV_ok, orV_ok, notV_ok, lenV_list, lenV_tup, List.length_map, List.length_cons, List.length_nil, seqItems_list, seqItems_tup, enumA_list, enumA_tup, zipAA_list, zipAA_tup, revA_tup, revA_list, tupleV_list, tupleV_tup, listV_list, listV_tup, max2V_int, min2V_int, lstR_nil, thenC_next, thenC_ret, Bool.not_true, Bool.not_false, if_true, if_false, Bool.false_eq_true, modV_int, fdivV_a, mulI_a, mulI_b, range1_a, range2_a, lstR_ok, tupR_ok, app1_ok, ix_intsA, ix_intsT, isi_int_int, isi_bool_int, isi_bool_bool, isi_list_list, isi_tup_tup, isNV_int, isNV_none, isNV_list, isNV_tup, notNV_int, notNV_none, notNV_list, notNV_tup, addV_lst, addV_tup, partV_int, slR_list, slR_tup, setL_a, chV_int, Int.zero_add, Int.toNat_natCast, decide_true, decide_false, List.length_append, List.length_singleton, Nat.reduceAdd, Nat.zero_add, Int.cast_ofNat_Int, Int.natCast_zero, Int.natCast_one, Int.reduceLT, Int.reduceLE, Int.reduceEq, Int.reduceNe, Int.reduceAdd, Int.reduceSub, Int.reduceMul, Int.reduceNeg, Int.reduceToNat, eq_self, ite_self, st_at, ix0, in_again, eq_again_again, pm_at, List.length_reverse]
    have h1 : (0 : Int) ≤ (ps.length : Int) + 1 := by omega
    by_cases h : 0 < fs.length
    · have h2 : (ps.length : Int) + 1 < ((ps.length + (fs.length + 1) : Nat) : Int) := by omega
      simp only [h, h1, h2, decide_true, bl_bool, bd_ok, if_true, ifR_ok, ltV_int]
    · have h2 : ¬ (ps.length : Int) + 1 < ((ps.length + (fs.length + 1) : Nat) : Int) := by omega
      simp only [h, h1, h2, decide_true, decide_false, bl_bool, bd_ok, if_true, if_false, Bool.false_eq_true, ifR_ok, ltV_int]
  rcases R.again (by omega) with ⟨rfl, rfl, ht⟩ | ⟨q, U', x, fs', l', rfl, rfl, ht, R'⟩
  · refine after_same R (w := "nothing") (by decide +kernel) ?_ ?_
    · show doneR (deedR _ l) l = _
      rw [hd, ht]
      unfold doneR
      simp only [w_nothing]
    · rw [hlat]
      rfl
  · refine ⟨"", _, U', cur :: ps, x, fs', l', ?_, by decide +kernel, R', ?_, ?_, ?_, ?_⟩
    · show doneR (deedR _ l) l = _
      rw [hd, ht]
      rfl
    · rw [hlat, if_pos (by simp), show ((cur :: ps).length : Int) = (ps.length : Int) + 1 by simp, List.reverse_cons, List.append_assoc, List.singleton_append]
    · simp only [List.length_cons]; omega
    · exact R.bU.rows x (by simp)
    · rw [List.reverse_cons, List.append_assoc, List.singleton_append]
theorem step_put (R : Rel (.tuple [.int p, .int k, intT places]) s E U ps cur fs l) (hl : ps.length + fs.length ≤ 1000) {deed : D} {n : Int} (o : Option Int) (h0 : 0 ≤ n) (hn : n < cur.length) (hd : deedR deed l = putL l (.int n) (oD o))
    (hlat : m_law_later (.tuple [.int p, .int k, intT places]) (stD (ps.reverse ++ cur :: fs)) (.int (ps.length : Int)) deed = .ok (.tuple [stD (ps.reverse ++ [cur] ++ [cur.set n.toNat o]), .int ((ps.length : Int) + 1), .str ""])) : After p k places s E U ps cur fs l deed := by
  have hE := R.bE.len
  obtain ⟨m, rfl⟩ : ∃ m : Nat, n = m := ⟨n.toNat, by omega⟩
  obtain ⟨l', e, R'⟩ := R.put o (n := m) (by omega) (by omega)
  refine ⟨"", _, _, _, _, _, l', ?_, by decide +kernel, R', ?_, ?_, ?_, ?_⟩
  · show doneR (deedR _ l) l = _
    rw [hd, e]
    rfl
  · rw [hlat, Int.toNat_natCast, List.reverse_cons, List.length_cons]
    rfl
  · simp only [List.length_cons, List.length_nil]; omega
  · exact List.length_set
  · rw [List.reverse_cons, List.append_assoc, List.singleton_append]
    exact first_same
theorem stuck_nx {α : Type} : (Res.exc (α := α) "NoPlace").bd (fun a => Res.ok a) = .exc "NoPlace" := rfl
theorem step_hear (R : Rel (.tuple [.int p, .int k, intT places]) s E U ps cur fs l) (hl : ps.length + fs.length ≤ 1000) (hc : cur.length ≤ 1000) (n e : Int) : After p k places s E U ps cur fs l (.tuple [.str "hear", .int n, .int e]) := by
  have hd : deedR (.tuple [.str "hear", .int n, .int e]) l = hearG l [.int n, .int e] := by
    unfold deedR
    simp only [bd2_ok, ix0, ix1, ix2, eq_hear_hear, bd_ok, bl_bool, ifR_ok, if_true, consR_ok]
  have hh : hearG l [.int n, .int e] = if 0 ≤ n ∧ n < cur.length then (if 0 ≤ e ∧ e < p then (if (cur.getD n.toNat none).isSome then .exc "Heard" else putL l (.int n) (oD (some e))) else .exc "NoNumber") else .exc "NoPlace" := by
    unfold hearG
    simp only
    rw [need_ok R.row]
    by_cases h : 0 ≤ n ∧ n < cur.length
    case neg => simp only [h, if_false, bd_exc]
    simp only [h, and_self, if_true, bd_ok]
    rw [R.code, R.row]
    simp (disch := (first | assumption | omega | decide | (simp only [List.length_cons, List.length_nil, List.length_map, List.length_append]; omega))) only [bd_ok, bd_exc, bd2_ok, consR_ok, nx_ok, ap1_ok, ap2_ok, ap3_ok, ap4_ok, ap5_ok, un2_tup, un3_tup, onL_list, addV_int, subV_int, ltV_int, leV_int, gtV_int, geV_int, augI_int, negV_int, eqV_int, neV_int, bl_bool, ifR_ok, andR_ok, orR_ok, notR_ok, andV_ok, orV_ok, notV_ok, lenV_list, lenV_tup, List.length_map, List.length_cons, List.length_nil, seqItems_list, seqItems_tup, enumA_list, enumA_tup, zipAA_list, zipAA_tup, revA_tup, revA_list, tupleV_list, tupleV_tup, listV_list, listV_tup, max2V_int, min2V_int, lstR_nil, thenC_next, thenC_ret, Bool.not_true, Bool.not_false, if_true, if_false, Bool.false_eq_true, modV_int, fdivV_a, mulI_a, mulI_b, range1_a, range2_a, lstR_ok, tupR_ok, app1_ok, ix_intsA, ix_intsT, isi_int_int, isi_bool_int, isi_bool_bool, isi_list_list, isi_tup_tup, isNV_int, isNV_none, isNV_list, isNV_tup, notNV_int, notNV_none, notNV_list, notNV_tup, addV_lst, addV_tup, partV_int, slR_list, slR_tup, setL_a, chV_int, Int.zero_add, Int.toNat_natCast, decide_true, decide_false, List.length_append, List.length_singleton, Nat.reduceAdd, Nat.zero_add, Int.cast_ofNat_Int, Int.natCast_zero, Int.natCast_one, Int.reduceLT, Int.reduceLE, Int.reduceEq, Int.reduceNe, Int.reduceAdd, Int.reduceSub, Int.reduceMul, Int.reduceNeg, Int.reduceToNat, eq_self, ite_self, ix0]
    by_cases h1 : e < 0
    · have : ¬ (0 ≤ e ∧ e < p) := by omega
      simp only [h1, this, decide_true, if_true, if_false, bd_exc, ifR_ok, orR_ok]
    by_cases h2 : p ≤ e
    · have : ¬ (0 ≤ e ∧ e < p) := by omega
      simp only [h1, h2, this, decide_true, decide_false, if_true, if_false, bd_exc, Bool.false_eq_true, ifR_ok, orR_ok]
    have h3 : (0 ≤ e ∧ e < p) := by omega
    simp only [h1, h2, h3, decide_false, if_false, if_true, Bool.false_eq_true, and_self, bd_ok, ifR_ok, orR_ok]
    rw [ix_oD h.1 h.2]
    simp only [bd2_ok, notN_oD, bd_ok, bl_bool, ifR_ok]
    cases (cur.getD n.toNat none).isSome with
    | true => rfl
    | false =>
      have en : noLs [PyData.int n, .int e] = true := rfl
      simp only [Bool.false_eq_true, if_false, bd_ok, en, if_true, putG]
      rw [show oD (some e) = PyData.int e from rfl]
      cases putL l (.int n) (.int e) <;> rfl
  have hlat : m_law_later (.tuple [.int p, .int k, intT places]) (stD (ps.reverse ++ cur :: fs)) (.int (ps.length : Int)) (.tuple [.str "hear", .int n, .int e]) = if 0 ≤ n ∧ n < cur.length then (if 0 ≤ e ∧ e < p then (if (cur.getD n.toNat none).isSome then .ok (.tuple [stD (ps.reverse ++ cur :: fs), .int (ps.length : Int), .str "heard"]) else .ok (.tuple [stD (ps.reverse ++ [cur] ++ [cur.set n.toNat (some e)]), .int ((ps.length : Int) + 1), .str ""])) else .ok (.tuple [stD (ps.reverse ++ cur :: fs), .int (ps.length : Int), .str "number"])) else .ok (.tuple [stD (ps.reverse ++ cur :: fs), .int (ps.length : Int), .str "place"]) := by
    unfold m_law_later
    simp (disch := (first | assumption | omega | decide | (simp only [List.length_cons, List.length_nil, List.length_map, List.length_append]; omega))) only [bd_ok, bd_exc, bd2_ok, consR_ok, nx_ok, ap1_ok, ap2_ok, ap3_ok, ap4_ok, ap5_ok, un2_tup, un3_tup, onL_list, addV_int, subV_int, ltV_int, leV_int, gtV_int, geV_int, augI_int, negV_int, eqV_int, neV_int, bl_bool, ifR_ok, andR_ok, orR_ok, notR_ok, andV_ok, orV_ok, notV_ok, lenV_list, lenV_tup, List.length_map, List.length_cons, List.length_nil, seqItems_list, seqItems_tup, enumA_list, enumA_tup, zipAA_list, zipAA_tup, revA_tup, revA_list, tupleV_list, tupleV_tup, listV_list, listV_tup, max2V_int, min2V_int, lstR_nil, thenC_next, thenC_ret, Bool.not_true, Bool.not_false, if_true, if_false, Bool.false_eq_true, modV_int, fdivV_a, mulI_a, mulI_b, range1_a, range2_a, lstR_ok, tupR_ok, app1_ok, ix_intsA, ix_intsT, isi_int_int, isi_bool_int, isi_bool_bool, isi_list_list, isi_tup_tup, isNV_int, isNV_none, isNV_list, isNV_tup, notNV_int, notNV_none, notNV_list, notNV_tup, addV_lst, addV_tup, partV_int, slR_list, slR_tup, setL_a, chV_int, Int.zero_add, Int.toNat_natCast, decide_true, decide_false, List.length_append, List.length_singleton, Nat.reduceAdd, Nat.zero_add, Int.cast_ofNat_Int, Int.natCast_zero, Int.natCast_one, Int.reduceLT, Int.reduceLE, Int.reduceEq, Int.reduceNe, Int.reduceAdd, Int.reduceSub, Int.reduceMul, Int.reduceNeg, Int.reduceToNat, eq_self, ite_self, st_at, ix0, ix1, ix2, in_hear, eq_hear_hear, eq_hear_forget]
    by_cases h0 : 0 ≤ n
    case neg =>
      have : ¬ (0 ≤ n ∧ n < cur.length) := by omega
      rw [if_neg this]
      simp (disch := (first | assumption | omega | decide | (simp only [List.length_cons, List.length_nil, List.length_map, List.length_append]; omega))) only [bd_ok, bd_exc, bd2_ok, consR_ok, nx_ok, ap1_ok, ap2_ok, ap3_ok, ap4_ok, ap5_ok, un2_tup, un3_tup, onL_list, addV_int, subV_int, ltV_int, leV_int, gtV_int, geV_int, augI_int, negV_int, eqV_int, neV_int, bl_bool, ifR_ok, andR_ok, orR_ok, notR_ok, andV_ok, orV_ok, notV_ok, lenV_list, lenV_tup, List.length_map, List.length_cons, List.length_nil, seqItems_list, seqItems_tup, enumA_list, enumA_tup, zipAA_list, zipAA_tup, revA_tup, revA_list, tupleV_list, tupleV_tup, listV_list, listV_tup, max2V_int, min2V_int, lstR_nil, thenC_next, thenC_ret, Bool.not_true, Bool.not_false, if_true, if_false, Bool.false_eq_true, modV_int, fdivV_a, mulI_a, mulI_b, range1_a, range2_a, lstR_ok, tupR_ok, app1_ok, ix_intsA, ix_intsT, isi_int_int, isi_bool_int, isi_bool_bool, isi_list_list, isi_tup_tup, isNV_int, isNV_none, isNV_list, isNV_tup, notNV_int, notNV_none, notNV_list, notNV_tup, addV_lst, addV_tup, partV_int, slR_list, slR_tup, setL_a, chV_int, Int.zero_add, Int.toNat_natCast, decide_true, decide_false, List.length_append, List.length_singleton, Nat.reduceAdd, Nat.zero_add, Int.cast_ofNat_Int, Int.natCast_zero, Int.natCast_one, Int.reduceLT, Int.reduceLE, Int.reduceEq, Int.reduceNe, Int.reduceAdd, Int.reduceSub, Int.reduceMul, Int.reduceNeg, Int.reduceToNat, eq_self, ite_self, h0]
    by_cases h1 : n < (cur.length : Int)
    case neg =>
      have : ¬ (0 ≤ n ∧ n < cur.length) := by omega
      rw [if_neg this]
      simp (disch := (first | assumption | omega | decide | (simp only [List.length_cons, List.length_nil, List.length_map, List.length_append]; omega))) only [bd_ok, bd_exc, bd2_ok, consR_ok, nx_ok, ap1_ok, ap2_ok, ap3_ok, ap4_ok, ap5_ok, un2_tup, un3_tup, onL_list, addV_int, subV_int, ltV_int, leV_int, gtV_int, geV_int, augI_int, negV_int, eqV_int, neV_int, bl_bool, ifR_ok, andR_ok, orR_ok, notR_ok, andV_ok, orV_ok, notV_ok, lenV_list, lenV_tup, List.length_map, List.length_cons, List.length_nil, seqItems_list, seqItems_tup, enumA_list, enumA_tup, zipAA_list, zipAA_tup, revA_tup, revA_list, tupleV_list, tupleV_tup, listV_list, listV_tup, max2V_int, min2V_int, lstR_nil, thenC_next, thenC_ret, Bool.not_true, Bool.not_false, if_true, if_false, Bool.false_eq_true, modV_int, fdivV_a, mulI_a, mulI_b, range1_a, range2_a, lstR_ok, tupR_ok, app1_ok, ix_intsA, ix_intsT, isi_int_int, isi_bool_int, isi_bool_bool, isi_list_list, isi_tup_tup, isNV_int, isNV_none, isNV_list, isNV_tup, notNV_int, notNV_none, notNV_list, notNV_tup, addV_lst, addV_tup, partV_int, slR_list, slR_tup, setL_a, chV_int, Int.zero_add, Int.toNat_natCast, decide_true, decide_false, List.length_append, List.length_singleton, Nat.reduceAdd, Nat.zero_add, Int.cast_ofNat_Int, Int.natCast_zero, Int.natCast_one, Int.reduceLT, Int.reduceLE, Int.reduceEq, Int.reduceNe, Int.reduceAdd, Int.reduceSub, Int.reduceMul, Int.reduceNeg, Int.reduceToNat, eq_self, ite_self, h0, h1]
    simp (disch := (first | assumption | omega | decide | (simp only [List.length_cons, List.length_nil, List.length_map, List.length_append]; omega))) only [bd_ok, bd_exc, bd2_ok, consR_ok, nx_ok, ap1_ok, ap2_ok, ap3_ok, ap4_ok, ap5_ok, un2_tup, un3_tup, onL_list, addV_int, subV_int, ltV_int, leV_int, gtV_int, geV_int, augI_int, negV_int, eqV_int, neV_int, bl_bool, ifR_ok, andR_ok, orR_ok, notR_ok, andV_ok, orV_ok, notV_ok, lenV_list, lenV_tup, List.length_map, List.length_cons, List.length_nil, seqItems_list, seqItems_tup, enumA_list, enumA_tup, zipAA_list, zipAA_tup, revA_tup, revA_list, tupleV_list, tupleV_tup, listV_list, listV_tup, max2V_int, min2V_int, lstR_nil, thenC_next, thenC_ret, Bool.not_true, Bool.not_false, if_true, if_false, Bool.false_eq_true, modV_int, fdivV_a, mulI_a, mulI_b, range1_a, range2_a, lstR_ok, tupR_ok, app1_ok, ix_intsA, ix_intsT, isi_int_int, isi_bool_int, isi_bool_bool, isi_list_list, isi_tup_tup, isNV_int, isNV_none, isNV_list, isNV_tup, notNV_int, notNV_none, notNV_list, notNV_tup, addV_lst, addV_tup, partV_int, slR_list, slR_tup, setL_a, chV_int, Int.zero_add, Int.toNat_natCast, decide_true, decide_false, List.length_append, List.length_singleton, Nat.reduceAdd, Nat.zero_add, Int.cast_ofNat_Int, Int.natCast_zero, Int.natCast_one, Int.reduceLT, Int.reduceLE, Int.reduceEq, Int.reduceNe, Int.reduceAdd, Int.reduceSub, Int.reduceMul, Int.reduceNeg, Int.reduceToNat, eq_self, ite_self, h0, h1, and_self]
    by_cases h2 : 0 ≤ e
    case neg =>
      have : ¬ (0 ≤ e ∧ e < p) := by omega
      rw [if_neg this]
      simp (disch := (first | assumption | omega | decide | (simp only [List.length_cons, List.length_nil, List.length_map, List.length_append]; omega))) only [bd_ok, bd_exc, bd2_ok, consR_ok, nx_ok, ap1_ok, ap2_ok, ap3_ok, ap4_ok, ap5_ok, un2_tup, un3_tup, onL_list, addV_int, subV_int, ltV_int, leV_int, gtV_int, geV_int, augI_int, negV_int, eqV_int, neV_int, bl_bool, ifR_ok, andR_ok, orR_ok, notR_ok, andV_ok, orV_ok, notV_ok, lenV_list, lenV_tup, List.length_map, List.length_cons, List.length_nil, seqItems_list, seqItems_tup, enumA_list, enumA_tup, zipAA_list, zipAA_tup, revA_tup, revA_list, tupleV_list, tupleV_tup, listV_list, listV_tup, max2V_int, min2V_int, lstR_nil, thenC_next, thenC_ret, Bool.not_true, Bool.not_false, if_true, if_false, Bool.false_eq_true, modV_int, fdivV_a, mulI_a, mulI_b, range1_a, range2_a, lstR_ok, tupR_ok, app1_ok, ix_intsA, ix_intsT, isi_int_int, isi_bool_int, isi_bool_bool, isi_list_list, isi_tup_tup, isNV_int, isNV_none, isNV_list, isNV_tup, notNV_int, notNV_none, notNV_list, notNV_tup, addV_lst, addV_tup, partV_int, slR_list, slR_tup, setL_a, chV_int, Int.zero_add, Int.toNat_natCast, decide_true, decide_false, List.length_append, List.length_singleton, Nat.reduceAdd, Nat.zero_add, Int.cast_ofNat_Int, Int.natCast_zero, Int.natCast_one, Int.reduceLT, Int.reduceLE, Int.reduceEq, Int.reduceNe, Int.reduceAdd, Int.reduceSub, Int.reduceMul, Int.reduceNeg, Int.reduceToNat, eq_self, ite_self, h2]
    by_cases h3 : e < p
    case neg =>
      have : ¬ (0 ≤ e ∧ e < p) := by omega
      rw [if_neg this]
      simp (disch := (first | assumption | omega | decide | (simp only [List.length_cons, List.length_nil, List.length_map, List.length_append]; omega))) only [bd_ok, bd_exc, bd2_ok, consR_ok, nx_ok, ap1_ok, ap2_ok, ap3_ok, ap4_ok, ap5_ok, un2_tup, un3_tup, onL_list, addV_int, subV_int, ltV_int, leV_int, gtV_int, geV_int, augI_int, negV_int, eqV_int, neV_int, bl_bool, ifR_ok, andR_ok, orR_ok, notR_ok, andV_ok, orV_ok, notV_ok, lenV_list, lenV_tup, List.length_map, List.length_cons, List.length_nil, seqItems_list, seqItems_tup, enumA_list, enumA_tup, zipAA_list, zipAA_tup, revA_tup, revA_list, tupleV_list, tupleV_tup, listV_list, listV_tup, max2V_int, min2V_int, lstR_nil, thenC_next, thenC_ret, Bool.not_true, Bool.not_false, if_true, if_false, Bool.false_eq_true, modV_int, fdivV_a, mulI_a, mulI_b, range1_a, range2_a, lstR_ok, tupR_ok, app1_ok, ix_intsA, ix_intsT, isi_int_int, isi_bool_int, isi_bool_bool, isi_list_list, isi_tup_tup, isNV_int, isNV_none, isNV_list, isNV_tup, notNV_int, notNV_none, notNV_list, notNV_tup, addV_lst, addV_tup, partV_int, slR_list, slR_tup, setL_a, chV_int, Int.zero_add, Int.toNat_natCast, decide_true, decide_false, List.length_append, List.length_singleton, Nat.reduceAdd, Nat.zero_add, Int.cast_ofNat_Int, Int.natCast_zero, Int.natCast_one, Int.reduceLT, Int.reduceLE, Int.reduceEq, Int.reduceNe, Int.reduceAdd, Int.reduceSub, Int.reduceMul, Int.reduceNeg, Int.reduceToNat, eq_self, ite_self, h2, h3]
    simp (disch := (first | assumption | omega | decide | (simp only [List.length_cons, List.length_nil, List.length_map, List.length_append]; omega))) only [bd_ok, bd_exc, bd2_ok, consR_ok, nx_ok, ap1_ok, ap2_ok, ap3_ok, ap4_ok, ap5_ok, un2_tup, un3_tup, onL_list, addV_int, subV_int, ltV_int, leV_int, gtV_int, geV_int, augI_int, negV_int, eqV_int, neV_int, bl_bool, ifR_ok, andR_ok, orR_ok, notR_ok, andV_ok, orV_ok, notV_ok, lenV_list, lenV_tup, List.length_map, List.length_cons, List.length_nil, seqItems_list, seqItems_tup, enumA_list, enumA_tup, zipAA_list, zipAA_tup, revA_tup, revA_list, tupleV_list, tupleV_tup, listV_list, listV_tup, max2V_int, min2V_int, lstR_nil, thenC_next, thenC_ret, Bool.not_true, Bool.not_false, if_true, if_false, Bool.false_eq_true, modV_int, fdivV_a, mulI_a, mulI_b, range1_a, range2_a, lstR_ok, tupR_ok, app1_ok, ix_intsA, ix_intsT, isi_int_int, isi_bool_int, isi_bool_bool, isi_list_list, isi_tup_tup, isNV_int, isNV_none, isNV_list, isNV_tup, notNV_int, notNV_none, notNV_list, notNV_tup, addV_lst, addV_tup, partV_int, slR_list, slR_tup, setL_a, chV_int, Int.zero_add, Int.toNat_natCast, decide_true, decide_false, List.length_append, List.length_singleton, Nat.reduceAdd, Nat.zero_add, Int.cast_ofNat_Int, Int.natCast_zero, Int.natCast_one, Int.reduceLT, Int.reduceLE, Int.reduceEq, Int.reduceNe, Int.reduceAdd, Int.reduceSub, Int.reduceMul, Int.reduceNeg, Int.reduceToNat, eq_self, ite_self, h2, h3, and_self, ix_oD h0 h1, notN_oD]
    cases hs : (cur.getD n.toNat none).isSome with
    | true => simp (disch := (first | assumption | omega | decide | (simp only [List.length_cons, List.length_nil, List.length_map, List.length_append]; omega))) only [bd_ok, bd_exc, bd2_ok, consR_ok, nx_ok, ap1_ok, ap2_ok, ap3_ok, ap4_ok, ap5_ok, un2_tup, un3_tup, onL_list, addV_int, subV_int, ltV_int, leV_int, gtV_int, geV_int, augI_int, negV_int, eqV_int, neV_int, bl_bool, ifR_ok, andR_ok, orR_ok, notR_ok, andV_ok, orV_ok, notV_ok, lenV_list, lenV_tup, List.length_map, List.length_cons, List.length_nil, seqItems_list, seqItems_tup, enumA_list, enumA_tup, zipAA_list, zipAA_tup, revA_tup, revA_list, tupleV_list, tupleV_tup, listV_list, listV_tup, max2V_int, min2V_int, lstR_nil, thenC_next, thenC_ret, Bool.not_true, Bool.not_false, if_true, if_false, Bool.false_eq_true, modV_int, fdivV_a, mulI_a, mulI_b, range1_a, range2_a, lstR_ok, tupR_ok, app1_ok, ix_intsA, ix_intsT, isi_int_int, isi_bool_int, isi_bool_bool, isi_list_list, isi_tup_tup, isNV_int, isNV_none, isNV_list, isNV_tup, notNV_int, notNV_none, notNV_list, notNV_tup, addV_lst, addV_tup, partV_int, slR_list, slR_tup, setL_a, chV_int, Int.zero_add, Int.toNat_natCast, decide_true, decide_false, List.length_append, List.length_singleton, Nat.reduceAdd, Nat.zero_add, Int.cast_ofNat_Int, Int.natCast_zero, Int.natCast_one, Int.reduceLT, Int.reduceLE, Int.reduceEq, Int.reduceNe, Int.reduceAdd, Int.reduceSub, Int.reduceMul, Int.reduceNeg, Int.reduceToNat, eq_self, ite_self]
    | false =>
      simp (disch := (first | assumption | omega | decide | (simp only [List.length_cons, List.length_nil, List.length_map, List.length_append]; omega))) only [bd_ok, bd_exc, bd2_ok, consR_ok, nx_ok, ap1_ok, ap2_ok, ap3_ok, ap4_ok, ap5_ok, un2_tup, un3_tup, onL_list, addV_int, subV_int, ltV_int, leV_int, gtV_int, geV_int, augI_int, negV_int, eqV_int, neV_int, bl_bool, ifR_ok, andR_ok, orR_ok, notR_ok, andV_ok, orV_ok, notV_ok, lenV_list, lenV_tup, List.length_map, List.length_cons, List.length_nil, seqItems_list, seqItems_tup, enumA_list, enumA_tup, zipAA_list, zipAA_tup, revA_tup, revA_list, tupleV_list, tupleV_tup, listV_list, listV_tup, max2V_int, min2V_int, lstR_nil, thenC_next, thenC_ret, Bool.not_true, Bool.not_false, if_true, if_false, Bool.false_eq_true, modV_int, fdivV_a, mulI_a, mulI_b, range1_a, range2_a, lstR_ok, tupR_ok, app1_ok, ix_intsA, ix_intsT, isi_int_int, isi_bool_int, isi_bool_bool, isi_list_list, isi_tup_tup, isNV_int, isNV_none, isNV_list, isNV_tup, notNV_int, notNV_none, notNV_list, notNV_tup, addV_lst, addV_tup, partV_int, slR_list, slR_tup, setL_a, chV_int, Int.zero_add, Int.toNat_natCast, decide_true, decide_false, List.length_append, List.length_singleton, Nat.reduceAdd, Nat.zero_add, Int.cast_ofNat_Int, Int.natCast_zero, Int.natCast_one, Int.reduceLT, Int.reduceLE, Int.reduceEq, Int.reduceNe, Int.reduceAdd, Int.reduceSub, Int.reduceMul, Int.reduceNeg, Int.reduceToNat, eq_self, ite_self, st_cut]
      rw [show (cur.map oD).set n.toNat (PyData.int e) = (cur.set n.toNat (some e)).map oD from (List.map_set (f := oD) (l := cur) (i := n.toNat) (a := some e)).symm, addV_lst (by simp; omega)]
      simp (disch := (first | assumption | omega | decide | (simp only [List.length_cons, List.length_nil, List.length_map, List.length_append]; omega))) only [bd_ok, bd_exc, bd2_ok, consR_ok, nx_ok, ap1_ok, ap2_ok, ap3_ok, ap4_ok, ap5_ok, un2_tup, un3_tup, onL_list, addV_int, subV_int, ltV_int, leV_int, gtV_int, geV_int, augI_int, negV_int, eqV_int, neV_int, bl_bool, ifR_ok, andR_ok, orR_ok, notR_ok, andV_ok, orV_ok, notV_ok, lenV_list, lenV_tup, List.length_map, List.length_cons, List.length_nil, seqItems_list, seqItems_tup, enumA_list, enumA_tup, zipAA_list, zipAA_tup, revA_tup, revA_list, tupleV_list, tupleV_tup, listV_list, listV_tup, max2V_int, min2V_int, lstR_nil, thenC_next, thenC_ret, Bool.not_true, Bool.not_false, if_true, if_false, Bool.false_eq_true, modV_int, fdivV_a, mulI_a, mulI_b, range1_a, range2_a, lstR_ok, tupR_ok, app1_ok, ix_intsA, ix_intsT, isi_int_int, isi_bool_int, isi_bool_bool, isi_list_list, isi_tup_tup, isNV_int, isNV_none, isNV_list, isNV_tup, notNV_int, notNV_none, notNV_list, notNV_tup, addV_lst, addV_tup, partV_int, slR_list, slR_tup, setL_a, chV_int, Int.zero_add, Int.toNat_natCast, decide_true, decide_false, List.length_append, List.length_singleton, Nat.reduceAdd, Nat.zero_add, Int.cast_ofNat_Int, Int.natCast_zero, Int.natCast_one, Int.reduceLT, Int.reduceLE, Int.reduceEq, Int.reduceNe, Int.reduceAdd, Int.reduceSub, Int.reduceMul, Int.reduceNeg, Int.reduceToNat, eq_self, ite_self]
      rw [show [PyData.list ((cur.set n.toNat (some e)).map oD)] = [cur.set n.toNat (some e)].map rowL from rfl, ← List.map_append]
  by_cases h : 0 ≤ n ∧ n < cur.length
  case neg =>
    rw [if_neg h] at hh hlat
    refine after_same R (w := "place") (by decide +kernel) ?_ hlat
    show doneR (deedR _ l) l = _
    rw [hd, hh]
    unfold doneR
    simp only [w_place]
  rw [if_pos h] at hh hlat
  by_cases h2 : 0 ≤ e ∧ e < p
  case neg =>
    rw [if_neg h2] at hh hlat
    refine after_same R (w := "number") (by decide +kernel) ?_ hlat
    show doneR (deedR _ l) l = _
    rw [hd, hh]
    unfold doneR
    simp only [w_number]
  rw [if_pos h2] at hh hlat
  cases hs : (cur.getD n.toNat none).isSome with
  | true =>
    rw [hs, if_pos rfl] at hh hlat
    refine after_same R (w := "heard") (by decide +kernel) ?_ hlat
    show doneR (deedR _ l) l = _
    rw [hd, hh]
    unfold doneR
    simp only [w_heard]
  | false =>
    rw [hs, if_neg Bool.false_ne_true] at hh hlat
    exact step_put R hl (some e) h.1 h.2 (hd.trans hh) hlat
theorem step_forget (R : Rel (.tuple [.int p, .int k, intT places]) s E U ps cur fs l) (hl : ps.length + fs.length ≤ 1000) (hc : cur.length ≤ 1000) (n : Int) : After p k places s E U ps cur fs l (.tuple [.str "forget", .int n]) := by
  have hd : deedR (.tuple [.str "forget", .int n]) l = forgetG l [.int n] := by
    unfold deedR
    simp only [bd2_ok, ix0, ix1, eq_forget_hear, eq_forget_forget, bd_ok, bl_bool, ifR_ok, if_true, if_false, Bool.false_eq_true, consR_ok]
  have hh : forgetG l [.int n] = if 0 ≤ n ∧ n < cur.length then (if (cur.getD n.toNat none).isNone then .exc "NotHeard" else putL l (.int n) (oD none)) else .exc "NoPlace" := by
    unfold forgetG
    simp only
    rw [need_ok R.row]
    by_cases h : 0 ≤ n ∧ n < cur.length
    case neg => simp only [h, if_false, bd_exc]
    simp only [h, and_self, if_true, bd_ok]
    rw [R.row]
    rw [bd2_ok, ix_oD h.1 h.2]
    simp only [bd2_ok, isN_oD, bd_ok, bl_bool, ifR_ok]
    cases (cur.getD n.toNat none).isNone with
    | true => rfl
    | false =>
      have en : noLs [PyData.int n, .none] = true := rfl
      simp only [Bool.false_eq_true, if_false, bd_ok, consR_ok, en, if_true, putG]
      rw [show oD none = PyData.none from rfl]
      cases putL l (.int n) .none <;> rfl
  have hlat : m_law_later (.tuple [.int p, .int k, intT places]) (stD (ps.reverse ++ cur :: fs)) (.int (ps.length : Int)) (.tuple [.str "forget", .int n]) = if 0 ≤ n ∧ n < cur.length then (if (cur.getD n.toNat none).isNone then .ok (.tuple [stD (ps.reverse ++ cur :: fs), .int (ps.length : Int), .str "not heard"]) else .ok (.tuple [stD (ps.reverse ++ [cur] ++ [cur.set n.toNat none]), .int ((ps.length : Int) + 1), .str ""])) else .ok (.tuple [stD (ps.reverse ++ cur :: fs), .int (ps.length : Int), .str "place"]) := by
    unfold m_law_later
    simp (disch := (first | assumption | omega | decide | (simp only [List.length_cons, List.length_nil, List.length_map, List.length_append]; omega))) only [bd_ok, bd_exc, bd2_ok, consR_ok, nx_ok, ap1_ok, ap2_ok, ap3_ok, ap4_ok, ap5_ok, un2_tup, un3_tup, onL_list, addV_int, subV_int, ltV_int, leV_int, gtV_int, geV_int, augI_int, negV_int, eqV_int, neV_int, bl_bool, ifR_ok, andR_ok, orR_ok, notR_ok, andV_ok, orV_ok, notV_ok, lenV_list, lenV_tup, List.length_map, List.length_cons, List.length_nil, seqItems_list, seqItems_tup, enumA_list, enumA_tup, zipAA_list, zipAA_tup, revA_tup, revA_list, tupleV_list, tupleV_tup, listV_list, listV_tup, max2V_int, min2V_int, lstR_nil, thenC_next, thenC_ret, Bool.not_true, Bool.not_false, if_true, if_false, Bool.false_eq_true, modV_int, fdivV_a, mulI_a, mulI_b, range1_a, range2_a, lstR_ok, tupR_ok, app1_ok, ix_intsA, ix_intsT, isi_int_int, isi_bool_int, isi_bool_bool, isi_list_list, isi_tup_tup, isNV_int, isNV_none, isNV_list, isNV_tup, notNV_int, notNV_none, notNV_list, notNV_tup, addV_lst, addV_tup, partV_int, slR_list, slR_tup, setL_a, chV_int, Int.zero_add, Int.toNat_natCast, decide_true, decide_false, List.length_append, List.length_singleton, Nat.reduceAdd, Nat.zero_add, Int.cast_ofNat_Int, Int.natCast_zero, Int.natCast_one, Int.reduceLT, Int.reduceLE, Int.reduceEq, Int.reduceNe, Int.reduceAdd, Int.reduceSub, Int.reduceMul, Int.reduceNeg, Int.reduceToNat, eq_self, ite_self, st_at, ix0, ix1, in_forget, eq_forget_hear, eq_forget_forget]
    by_cases h0 : 0 ≤ n
    case neg =>
      have : ¬ (0 ≤ n ∧ n < cur.length) := by omega
      rw [if_neg this]
      simp (disch := (first | assumption | omega | decide | (simp only [List.length_cons, List.length_nil, List.length_map, List.length_append]; omega))) only [bd_ok, bd_exc, bd2_ok, consR_ok, nx_ok, ap1_ok, ap2_ok, ap3_ok, ap4_ok, ap5_ok, un2_tup, un3_tup, onL_list, addV_int, subV_int, ltV_int, leV_int, gtV_int, geV_int, augI_int, negV_int, eqV_int, neV_int, bl_bool, ifR_ok, andR_ok, orR_ok, notR_ok, andV_ok, orV_ok, notV_ok, lenV_list, lenV_tup, List.length_map, List.length_cons, List.length_nil, seqItems_list, seqItems_tup, enumA_list, enumA_tup, zipAA_list, zipAA_tup, revA_tup, revA_list, tupleV_list, tupleV_tup, listV_list, listV_tup, max2V_int, min2V_int, lstR_nil, thenC_next, thenC_ret, Bool.not_true, Bool.not_false, if_true, if_false, Bool.false_eq_true, modV_int, fdivV_a, mulI_a, mulI_b, range1_a, range2_a, lstR_ok, tupR_ok, app1_ok, ix_intsA, ix_intsT, isi_int_int, isi_bool_int, isi_bool_bool, isi_list_list, isi_tup_tup, isNV_int, isNV_none, isNV_list, isNV_tup, notNV_int, notNV_none, notNV_list, notNV_tup, addV_lst, addV_tup, partV_int, slR_list, slR_tup, setL_a, chV_int, Int.zero_add, Int.toNat_natCast, decide_true, decide_false, List.length_append, List.length_singleton, Nat.reduceAdd, Nat.zero_add, Int.cast_ofNat_Int, Int.natCast_zero, Int.natCast_one, Int.reduceLT, Int.reduceLE, Int.reduceEq, Int.reduceNe, Int.reduceAdd, Int.reduceSub, Int.reduceMul, Int.reduceNeg, Int.reduceToNat, eq_self, ite_self, h0]
    by_cases h1 : n < (cur.length : Int)
    case neg =>
      have : ¬ (0 ≤ n ∧ n < cur.length) := by omega
      rw [if_neg this]
      simp (disch := (first | assumption | omega | decide | (simp only [List.length_cons, List.length_nil, List.length_map, List.length_append]; omega))) only [bd_ok, bd_exc, bd2_ok, consR_ok, nx_ok, ap1_ok, ap2_ok, ap3_ok, ap4_ok, ap5_ok, un2_tup, un3_tup, onL_list, addV_int, subV_int, ltV_int, leV_int, gtV_int, geV_int, augI_int, negV_int, eqV_int, neV_int, bl_bool, ifR_ok, andR_ok, orR_ok, notR_ok, andV_ok, orV_ok, notV_ok, lenV_list, lenV_tup, List.length_map, List.length_cons, List.length_nil, seqItems_list, seqItems_tup, enumA_list, enumA_tup, zipAA_list, zipAA_tup, revA_tup, revA_list, tupleV_list, tupleV_tup, listV_list, listV_tup, max2V_int, min2V_int, lstR_nil, thenC_next, thenC_ret, Bool.not_true, Bool.not_false, if_true, if_false, Bool.false_eq_true, modV_int, fdivV_a, mulI_a, mulI_b, range1_a, range2_a, lstR_ok, tupR_ok, app1_ok, ix_intsA, ix_intsT, isi_int_int, isi_bool_int, isi_bool_bool, isi_list_list, isi_tup_tup, isNV_int, isNV_none, isNV_list, isNV_tup, notNV_int, notNV_none, notNV_list, notNV_tup, addV_lst, addV_tup, partV_int, slR_list, slR_tup, setL_a, chV_int, Int.zero_add, Int.toNat_natCast, decide_true, decide_false, List.length_append, List.length_singleton, Nat.reduceAdd, Nat.zero_add, Int.cast_ofNat_Int, Int.natCast_zero, Int.natCast_one, Int.reduceLT, Int.reduceLE, Int.reduceEq, Int.reduceNe, Int.reduceAdd, Int.reduceSub, Int.reduceMul, Int.reduceNeg, Int.reduceToNat, eq_self, ite_self, h0, h1]
    simp (disch := (first | assumption | omega | decide | (simp only [List.length_cons, List.length_nil, List.length_map, List.length_append]; omega))) only [bd_ok, bd_exc, bd2_ok, consR_ok, nx_ok, ap1_ok, ap2_ok, ap3_ok, ap4_ok, ap5_ok, un2_tup, un3_tup, onL_list, addV_int, subV_int, ltV_int, leV_int, gtV_int, geV_int, augI_int, negV_int, eqV_int, neV_int, bl_bool, ifR_ok, andR_ok, orR_ok, notR_ok, andV_ok, orV_ok, notV_ok, lenV_list, lenV_tup, List.length_map, List.length_cons, List.length_nil, seqItems_list, seqItems_tup, enumA_list, enumA_tup, zipAA_list, zipAA_tup, revA_tup, revA_list, tupleV_list, tupleV_tup, listV_list, listV_tup, max2V_int, min2V_int, lstR_nil, thenC_next, thenC_ret, Bool.not_true, Bool.not_false, if_true, if_false, Bool.false_eq_true, modV_int, fdivV_a, mulI_a, mulI_b, range1_a, range2_a, lstR_ok, tupR_ok, app1_ok, ix_intsA, ix_intsT, isi_int_int, isi_bool_int, isi_bool_bool, isi_list_list, isi_tup_tup, isNV_int, isNV_none, isNV_list, isNV_tup, notNV_int, notNV_none, notNV_list, notNV_tup, addV_lst, addV_tup, partV_int, slR_list, slR_tup, setL_a, chV_int, Int.zero_add, Int.toNat_natCast, decide_true, decide_false, List.length_append, List.length_singleton, Nat.reduceAdd, Nat.zero_add, Int.cast_ofNat_Int, Int.natCast_zero, Int.natCast_one, Int.reduceLT, Int.reduceLE, Int.reduceEq, Int.reduceNe, Int.reduceAdd, Int.reduceSub, Int.reduceMul, Int.reduceNeg, Int.reduceToNat, eq_self, ite_self, h0, h1, and_self, ix_oD h0 h1, isN_oD]
    cases hs : (cur.getD n.toNat none).isNone with
    | true => simp (disch := (first | assumption | omega | decide | (simp only [List.length_cons, List.length_nil, List.length_map, List.length_append]; omega))) only [bd_ok, bd_exc, bd2_ok, consR_ok, nx_ok, ap1_ok, ap2_ok, ap3_ok, ap4_ok, ap5_ok, un2_tup, un3_tup, onL_list, addV_int, subV_int, ltV_int, leV_int, gtV_int, geV_int, augI_int, negV_int, eqV_int, neV_int, bl_bool, ifR_ok, andR_ok, orR_ok, notR_ok, andV_ok, orV_ok, notV_ok, lenV_list, lenV_tup, List.length_map, List.length_cons, List.length_nil, seqItems_list, seqItems_tup, enumA_list, enumA_tup, zipAA_list, zipAA_tup, revA_tup, revA_list, tupleV_list, tupleV_tup, listV_list, listV_tup, max2V_int, min2V_int, lstR_nil, thenC_next, thenC_ret, Bool.not_true, Bool.not_false, if_true, if_false, Bool.false_eq_true, modV_int, fdivV_a, mulI_a, mulI_b, range1_a, range2_a, lstR_ok, tupR_ok, app1_ok, ix_intsA, ix_intsT, isi_int_int, isi_bool_int, isi_bool_bool, isi_list_list, isi_tup_tup, isNV_int, isNV_none, isNV_list, isNV_tup, notNV_int, notNV_none, notNV_list, notNV_tup, addV_lst, addV_tup, partV_int, slR_list, slR_tup, setL_a, chV_int, Int.zero_add, Int.toNat_natCast, decide_true, decide_false, List.length_append, List.length_singleton, Nat.reduceAdd, Nat.zero_add, Int.cast_ofNat_Int, Int.natCast_zero, Int.natCast_one, Int.reduceLT, Int.reduceLE, Int.reduceEq, Int.reduceNe, Int.reduceAdd, Int.reduceSub, Int.reduceMul, Int.reduceNeg, Int.reduceToNat, eq_self, ite_self]
    | false =>
      simp (disch := (first | assumption | omega | decide | (simp only [List.length_cons, List.length_nil, List.length_map, List.length_append]; omega))) only [bd_ok, bd_exc, bd2_ok, consR_ok, nx_ok, ap1_ok, ap2_ok, ap3_ok, ap4_ok, ap5_ok, un2_tup, un3_tup, onL_list, addV_int, subV_int, ltV_int, leV_int, gtV_int, geV_int, augI_int, negV_int, eqV_int, neV_int, bl_bool, ifR_ok, andR_ok, orR_ok, notR_ok, andV_ok, orV_ok, notV_ok, lenV_list, lenV_tup, List.length_map, List.length_cons, List.length_nil, seqItems_list, seqItems_tup, enumA_list, enumA_tup, zipAA_list, zipAA_tup, revA_tup, revA_list, tupleV_list, tupleV_tup, listV_list, listV_tup, max2V_int, min2V_int, lstR_nil, thenC_next, thenC_ret, Bool.not_true, Bool.not_false, if_true, if_false, Bool.false_eq_true, modV_int, fdivV_a, mulI_a, mulI_b, range1_a, range2_a, lstR_ok, tupR_ok, app1_ok, ix_intsA, ix_intsT, isi_int_int, isi_bool_int, isi_bool_bool, isi_list_list, isi_tup_tup, isNV_int, isNV_none, isNV_list, isNV_tup, notNV_int, notNV_none, notNV_list, notNV_tup, addV_lst, addV_tup, partV_int, slR_list, slR_tup, setL_a, chV_int, Int.zero_add, Int.toNat_natCast, decide_true, decide_false, List.length_append, List.length_singleton, Nat.reduceAdd, Nat.zero_add, Int.cast_ofNat_Int, Int.natCast_zero, Int.natCast_one, Int.reduceLT, Int.reduceLE, Int.reduceEq, Int.reduceNe, Int.reduceAdd, Int.reduceSub, Int.reduceMul, Int.reduceNeg, Int.reduceToNat, eq_self, ite_self, st_cut]
      rw [show (cur.map oD).set n.toNat PyData.none = (cur.set n.toNat none).map oD from (List.map_set (f := oD) (l := cur) (i := n.toNat) (a := none)).symm, addV_lst (by simp; omega)]
      simp (disch := (first | assumption | omega | decide | (simp only [List.length_cons, List.length_nil, List.length_map, List.length_append]; omega))) only [bd_ok, bd_exc, bd2_ok, consR_ok, nx_ok, ap1_ok, ap2_ok, ap3_ok, ap4_ok, ap5_ok, un2_tup, un3_tup, onL_list, addV_int, subV_int, ltV_int, leV_int, gtV_int, geV_int, augI_int, negV_int, eqV_int, neV_int, bl_bool, ifR_ok, andR_ok, orR_ok, notR_ok, andV_ok, orV_ok, notV_ok, lenV_list, lenV_tup, List.length_map, List.length_cons, List.length_nil, seqItems_list, seqItems_tup, enumA_list, enumA_tup, zipAA_list, zipAA_tup, revA_tup, revA_list, tupleV_list, tupleV_tup, listV_list, listV_tup, max2V_int, min2V_int, lstR_nil, thenC_next, thenC_ret, Bool.not_true, Bool.not_false, if_true, if_false, Bool.false_eq_true, modV_int, fdivV_a, mulI_a, mulI_b, range1_a, range2_a, lstR_ok, tupR_ok, app1_ok, ix_intsA, ix_intsT, isi_int_int, isi_bool_int, isi_bool_bool, isi_list_list, isi_tup_tup, isNV_int, isNV_none, isNV_list, isNV_tup, notNV_int, notNV_none, notNV_list, notNV_tup, addV_lst, addV_tup, partV_int, slR_list, slR_tup, setL_a, chV_int, Int.zero_add, Int.toNat_natCast, decide_true, decide_false, List.length_append, List.length_singleton, Nat.reduceAdd, Nat.zero_add, Int.cast_ofNat_Int, Int.natCast_zero, Int.natCast_one, Int.reduceLT, Int.reduceLE, Int.reduceEq, Int.reduceNe, Int.reduceAdd, Int.reduceSub, Int.reduceMul, Int.reduceNeg, Int.reduceToNat, eq_self, ite_self]
      rw [show [PyData.list ((cur.set n.toNat none).map oD)] = [cur.set n.toNat none].map rowL from rfl, ← List.map_append]
  by_cases h : 0 ≤ n ∧ n < cur.length
  case neg =>
    rw [if_neg h] at hh hlat
    refine after_same R (w := "place") (by decide +kernel) ?_ hlat
    show doneR (deedR _ l) l = _
    rw [hd, hh]
    unfold doneR
    simp only [w_place]
  rw [if_pos h] at hh hlat
  cases hs : (cur.getD n.toNat none).isNone with
  | true =>
    rw [hs, if_pos rfl] at hh hlat
    refine after_same R (w := "not heard") (by decide +kernel) ?_ hlat
    show doneR (deedR _ l) l = _
    rw [hd, hh]
    unfold doneR
    simp only [w_not]
  | false =>
    rw [hs, if_neg Bool.false_ne_true] at hh hlat
    exact step_put R hl none h.1 h.2 (hd.trans hh) hlat
theorem step (R : Rel (.tuple [.int p, .int k, intT places]) s E U ps cur fs l) (hl : ps.length + fs.length ≤ 1000) (hc : cur.length ≤ 1000) {deed : D} (hf : DF deed) : After p k places s E U ps cur fs l deed := by
  rcases hf with ⟨n, e, rfl⟩ | ⟨n, rfl⟩ | rfl | rfl
  · exact step_hear R hl hc n e
  · exact step_forget R hl hc n
  · exact step_back R hl
  · exact step_again R hl
end
end SC
namespace SC
open PySem DL
/-! ### deeds by digits -/
theorem four_ix {a b c d : Int} {x : Int} (h0 : 0 ≤ x) (h : x < 4) : ∃ v, ixV (.list [.int a, .int b, .int c, .int d]) (.int x) = .ok (.int v) := by
  obtain ⟨v, _, e⟩ := ix_ints (ns := [a, b, c, d]) h0 (by show x < 4; omega)
  exact ⟨v, e⟩
theorem deed_ok {p k : Int} {places : List Int} (P : Prm p) (hl : 1 ≤ places.length) {draw : Int} (h0 : 0 ≤ draw) : ∃ d, m_law_deed (.int draw) (.tuple [.int p, .int k, intT places]) = .ok d ∧ DF d := by
  unfold m_law_deed
  have hp := P.pos
  have hll : (0 : Int) < (places.length : Int) := by omega
  have t30 : powV (.int 10) (.int 30) = .ok (.int (10 ^ 30)) := powV_ten 30 (by decide) (by decide)
  simp (disch := (first | assumption | omega | decide | (simp only [List.length_cons, List.length_nil, List.length_map, List.length_append]; omega))) only [bd_ok, bd_exc, bd2_ok, consR_ok, nx_ok, ap1_ok, ap2_ok, ap3_ok, ap4_ok, ap5_ok, un2_tup, un3_tup, onL_list, addV_int, subV_int, ltV_int, leV_int, gtV_int, geV_int, augI_int, negV_int, eqV_int, neV_int, bl_bool, ifR_ok, andR_ok, orR_ok, notR_ok, andV_ok, orV_ok, notV_ok, lenV_list, lenV_tup, List.length_map, List.length_cons, List.length_nil, seqItems_list, seqItems_tup, enumA_list, enumA_tup, zipAA_list, zipAA_tup, revA_tup, revA_list, tupleV_list, tupleV_tup, listV_list, listV_tup, max2V_int, min2V_int, lstR_nil, thenC_next, thenC_ret, Bool.not_true, Bool.not_false, if_true, if_false, Bool.false_eq_true, modV_int, fdivV_a, mulI_a, mulI_b, range1_a, range2_a, lstR_ok, tupR_ok, app1_ok, ix_intsA, ix_intsT, isi_int_int, isi_bool_int, isi_bool_bool, isi_list_list, isi_tup_tup, isNV_int, isNV_none, isNV_list, isNV_tup, notNV_int, notNV_none, notNV_list, notNV_tup, addV_lst, addV_tup, partV_int, slR_list, slR_tup, setL_a, chV_int, Int.zero_add, Int.toNat_natCast, decide_true, decide_false, List.length_append, List.length_singleton, Nat.reduceAdd, Nat.zero_add, Int.cast_ofNat_Int, Int.natCast_zero, Int.natCast_one, Int.reduceLT, Int.reduceLE, Int.reduceEq, Int.reduceNe, Int.reduceAdd, Int.reduceSub, Int.reduceMul, Int.reduceNeg, Int.reduceToNat, eq_self, ite_self, un3_tup, t30]
  have e1 : (if draw % 11 - 7 > 0 then draw % 11 - 7 else 0 : Int) < 4 ∧ (0 : Int) ≤ (if draw % 11 - 7 > 0 then draw % 11 - 7 else 0 : Int) := by split <;> omega
  obtain ⟨n, en⟩ := four_ix (a := draw / 13 % (places.length : Int)) (b := -1) (c := (places.length : Int)) (d := 10 ^ 30) e1.2 e1.1
  simp only [en, bd_ok]
  have e2 : (if draw / 11 % 13 - 9 > 0 then draw / 11 % 13 - 9 else 0 : Int) < 4 ∧ (0 : Int) ≤ (if draw / 11 % 13 - 9 > 0 then draw / 11 % 13 - 9 else 0 : Int) := by split <;> omega
  obtain ⟨e, ee⟩ := four_ix (a := draw / 200 % p) (b := -1) (c := p) (d := 10 ^ 30) e2.2 e2.1
  simp only [ee, bd_ok]
  have w0 : 0 ≤ draw / 90 % 7 ∧ draw / 90 % 7 < 7 := by omega
  generalize draw / 90 % 7 = way at w0
  by_cases hw : way < 4
  · simp only [hw, decide_true, if_true]
    exact ⟨_, rfl, .inl ⟨n, e, rfl⟩⟩
  · simp only [hw, decide_false, if_false, Bool.false_eq_true]
    rcases (show way - 4 = 0 ∨ way - 4 = 1 ∨ way - 4 = 2 by omega) with z | z | z <;> rw [z]
    · exact ⟨_, ix_list (by decide) rfl, .inr (.inl ⟨n, rfl⟩)⟩
    · exact ⟨_, ix_list (by decide) rfl, .inr (.inr (.inl rfl))⟩
    · exact ⟨_, ix_list (by decide) rfl, .inr (.inr (.inr rfl))⟩
theorem inT_DF {d : D} (h : DF d) : ∃ b, bd2 (ixV d (PyData.int 0)) (Res.ok (.tuple [.str "back", .str "again"])) inT = .ok (.bool b) := by
  rcases h with ⟨n, x, rfl⟩ | ⟨n, rfl⟩ | rfl | rfl <;> rw [ix0, bd2_ok]
  · exact ⟨_, in_hear⟩
  · exact ⟨_, in_forget⟩
  · exact ⟨_, in_back⟩
  · exact ⟨_, in_again⟩
/-- a test of a deed and of the row behind it -/
theorem noLs_row (r : List (Option Int)) : noLs (r.map oD) = true := noLs_of fun d hd => by
  obtain ⟨o, _, rfl⟩ := List.mem_map.mp hd
  cases o <;> rfl
theorem row_told {l : Li} {cur : List (Option Int)} (h : l.row = cur.map oD) : (onLi l.d fun l => (rowG l []).bd (chT .O)) = .ok (rowL cur) := by
  rw [onLi_d]
  unfold rowG
  simp only [bd_ok, listV_list]
  have : okT .O (.list l.row) = true := by rw [h]; exact noLs_row cur
  unfold chT
  rw [this, if_pos rfl, h]
theorem call_told {l l' : Li} {deed : D} {w : Str} (h : doneG l [deed] = .ok (.str w, l')) : callX doneG l.d (.ok deed) = .ok (.str w, l'.d) := by
  unfold callX
  rw [onLi_d, bd_ok, h]
  rfl
theorem test_told {l l' : Li} {deed : D} {w : Str} {cur : List (Option Int)} (h : doneG l [deed] = .ok (.str w, l')) (hw : w ∈ words6) (hr : l'.row = cur.map oD) {r : Res D} (hx : r = .ok (rowL cur)) :
    orX (tcmpX (callX doneG l.d (.ok deed)) (fun _ : D => Res.ok (.str w)) neV) (fun d : D => (bd2 (onLi d fun l => (rowG l []).bd (chT .O)) r neV).bd bl) = .ok (false, l'.d) := by
  rw [call_told h]
  unfold tcmpX orX
  simp only [bd_ok, neS (words_ok w hw), bl_bool, Bool.false_eq_true, if_false]
  rw [row_told hr, hx, bd2_ok, neV_row]
  rfl
theorem ifX_false {S T : Type} {r : Res (Bool × S)} {ra : S → Res D} {mk : D → T} {r2 : S → Res T} {s : S} (h : r = .ok (false, s)) : ifX r ra mk r2 = r2 s := by
  subst h
  rfl
end SC
namespace SC
open PySem DL
theorem draws_app {xs ys : List Int} (h : xs.length + ys.length ≤ 1000) : addV (intL xs) (intL ys) = .ok (intL (xs ++ ys)) := addV_lists (by omega)
theorem pick1 {many : Int} (hm : many = 1 ∨ many = 5) {j : Nat} (hj : many = 1 → j < 60) {deed : D} (hd : DF deed) :
    ∃ d, ifR (andR ((bd2 (bd2 (fdivV (.int (j : Int)) (.int 10)) (Res.ok (.int 3)) modV) (Res.ok (.int 2)) eqV).bd bl) ((eqV (.int many) (.int 1)).bd bl)) ((bd2 (Res.ok (.list [.tuple [.str "back"], .tuple [.str "again"]])) (fdivV (.int (j : Int)) (.int 30)) ixV).bd fun d => Res.ok d) (Res.ok deed) = .ok d ∧ DF d := by
  simp (disch := (first | assumption | omega | decide | (simp only [List.length_cons, List.length_nil, List.length_map, List.length_append]; omega))) only [bd_ok, bd_exc, bd2_ok, consR_ok, nx_ok, ap1_ok, ap2_ok, ap3_ok, ap4_ok, ap5_ok, un2_tup, un3_tup, onL_list, addV_int, subV_int, ltV_int, leV_int, gtV_int, geV_int, augI_int, negV_int, eqV_int, neV_int, bl_bool, ifR_ok, andR_ok, orR_ok, notR_ok, andV_ok, orV_ok, notV_ok, lenV_list, lenV_tup, List.length_map, List.length_cons, List.length_nil, seqItems_list, seqItems_tup, enumA_list, enumA_tup, zipAA_list, zipAA_tup, revA_tup, revA_list, tupleV_list, tupleV_tup, listV_list, listV_tup, max2V_int, min2V_int, lstR_nil, thenC_next, thenC_ret, Bool.not_true, Bool.not_false, if_true, if_false, Bool.false_eq_true, modV_int, fdivV_a, mulI_a, mulI_b, range1_a, range2_a, lstR_ok, tupR_ok, app1_ok, ix_intsA, ix_intsT, isi_int_int, isi_bool_int, isi_bool_bool, isi_list_list, isi_tup_tup, isNV_int, isNV_none, isNV_list, isNV_tup, notNV_int, notNV_none, notNV_list, notNV_tup, addV_lst, addV_tup, partV_int, slR_list, slR_tup, setL_a, chV_int, Int.zero_add, Int.toNat_natCast, decide_true, decide_false, List.length_append, List.length_singleton, Nat.reduceAdd, Nat.zero_add, Int.cast_ofNat_Int, Int.natCast_zero, Int.natCast_one, Int.reduceLT, Int.reduceLE, Int.reduceEq, Int.reduceNe, Int.reduceAdd, Int.reduceSub, Int.reduceMul, Int.reduceNeg, Int.reduceToNat, eq_self, ite_self]
  by_cases h1 : (j : Int) / 10 % 3 = 2
  · by_cases h2 : many = 1
    · simp only [h1, h2, decide_true, if_true]
      have := hj h2
      rcases (show (j : Int) / 30 = 0 ∨ (j : Int) / 30 = 1 by omega) with z | z <;> rw [z]
      · exact ⟨.tuple [.str "back"], rfl, .inr (.inr (.inl rfl))⟩
      · exact ⟨.tuple [.str "again"], rfl, .inr (.inr (.inr rfl))⟩
    · simp only [h1, h2, decide_true, decide_false, if_true, if_false, Bool.false_eq_true]
      exact ⟨_, rfl, hd⟩
  · simp only [h1, decide_false, if_false, Bool.false_eq_true]
    exact ⟨_, rfl, hd⟩
theorem pick2 {many draw : Int} {deed : D} (hd : DF deed) {ps fs : List (List (Option Int))} {cur : List (Option Int)} (hc : 1 ≤ cur.length) :
    ∃ d, ifR (andR ((gtV (.int many) (.int 1)).bd bl) ((bd2 (ixV deed (.int 0)) (Res.ok (.tuple [.str "back", .str "again"])) inT).bd bl)) ((ixV (stD (ps.reverse ++ cur :: fs)) (.int (ps.length : Int))).bd fun row => (bd2 (fdivV (.int draw) (.int 7)) (lenV row) modV).bd fun number => (ifR ((bd2 (ixV row number) (Res.ok .none) isNV).bd bl) (Res.ok (.tuple [.str "hear", number, .int 1])) (Res.ok (.tuple [.str "forget", number]))).bd fun d => Res.ok d) (Res.ok deed) = .ok d ∧ DF d := by
  obtain ⟨b, eb⟩ := inT_DF hd
  have hp : (0 : Int) < (cur.length : Int) := by omega
  rw [eb]
  simp (disch := (first | assumption | omega | decide | (simp only [List.length_cons, List.length_nil, List.length_map, List.length_append]; omega))) only [bd_ok, bd_exc, bd2_ok, consR_ok, nx_ok, ap1_ok, ap2_ok, ap3_ok, ap4_ok, ap5_ok, un2_tup, un3_tup, onL_list, addV_int, subV_int, ltV_int, leV_int, gtV_int, geV_int, augI_int, negV_int, eqV_int, neV_int, bl_bool, ifR_ok, andR_ok, orR_ok, notR_ok, andV_ok, orV_ok, notV_ok, lenV_list, lenV_tup, List.length_map, List.length_cons, List.length_nil, seqItems_list, seqItems_tup, enumA_list, enumA_tup, zipAA_list, zipAA_tup, revA_tup, revA_list, tupleV_list, tupleV_tup, listV_list, listV_tup, max2V_int, min2V_int, lstR_nil, thenC_next, thenC_ret, Bool.not_true, Bool.not_false, if_true, if_false, Bool.false_eq_true, modV_int, fdivV_a, mulI_a, mulI_b, range1_a, range2_a, lstR_ok, tupR_ok, app1_ok, ix_intsA, ix_intsT, isi_int_int, isi_bool_int, isi_bool_bool, isi_list_list, isi_tup_tup, isNV_int, isNV_none, isNV_list, isNV_tup, notNV_int, notNV_none, notNV_list, notNV_tup, addV_lst, addV_tup, partV_int, slR_list, slR_tup, setL_a, chV_int, Int.zero_add, Int.toNat_natCast, decide_true, decide_false, List.length_append, List.length_singleton, Nat.reduceAdd, Nat.zero_add, Int.cast_ofNat_Int, Int.natCast_zero, Int.natCast_one, Int.reduceLT, Int.reduceLE, Int.reduceEq, Int.reduceNe, Int.reduceAdd, Int.reduceSub, Int.reduceMul, Int.reduceNeg, Int.reduceToNat, eq_self, ite_self, st_at]
  by_cases hm : (1 : Int) < many
  case neg =>
    simp only [hm, decide_false, if_false, Bool.false_eq_true, ifR_ok]
    exact ⟨_, rfl, hd⟩
  simp only [hm, decide_true, if_true]
  cases b with
  | false =>
    simp only [Bool.false_eq_true, if_false, ifR_ok]
    exact ⟨_, rfl, hd⟩
  | true =>
    have n0 := Int.emod_nonneg (draw / 7) (show (cur.length : Int) ≠ 0 by omega)
    have n1 := Int.emod_lt_of_pos (draw / 7) hp
    simp only [if_true, ifR_ok]
    rw [ix_oD n0 n1, bd2_ok, isN_oD]
    simp (disch := (first | assumption | omega | decide | (simp only [List.length_cons, List.length_nil, List.length_map, List.length_append]; omega))) only [bd_ok, bd_exc, bd2_ok, consR_ok, nx_ok, ap1_ok, ap2_ok, ap3_ok, ap4_ok, ap5_ok, un2_tup, un3_tup, onL_list, addV_int, subV_int, ltV_int, leV_int, gtV_int, geV_int, augI_int, negV_int, eqV_int, neV_int, bl_bool, ifR_ok, andR_ok, orR_ok, notR_ok, andV_ok, orV_ok, notV_ok, lenV_list, lenV_tup, List.length_map, List.length_cons, List.length_nil, seqItems_list, seqItems_tup, enumA_list, enumA_tup, zipAA_list, zipAA_tup, revA_tup, revA_list, tupleV_list, tupleV_tup, listV_list, listV_tup, max2V_int, min2V_int, lstR_nil, thenC_next, thenC_ret, Bool.not_true, Bool.not_false, if_true, if_false, Bool.false_eq_true, modV_int, fdivV_a, mulI_a, mulI_b, range1_a, range2_a, lstR_ok, tupR_ok, app1_ok, ix_intsA, ix_intsT, isi_int_int, isi_bool_int, isi_bool_bool, isi_list_list, isi_tup_tup, isNV_int, isNV_none, isNV_list, isNV_tup, notNV_int, notNV_none, notNV_list, notNV_tup, addV_lst, addV_tup, partV_int, slR_list, slR_tup, setL_a, chV_int, Int.zero_add, Int.toNat_natCast, decide_true, decide_false, List.length_append, List.length_singleton, Nat.reduceAdd, Nat.zero_add, Int.cast_ofNat_Int, Int.natCast_zero, Int.natCast_one, Int.reduceLT, Int.reduceLE, Int.reduceEq, Int.reduceNe, Int.reduceAdd, Int.reduceSub, Int.reduceMul, Int.reduceNeg, Int.reduceToNat, eq_self, ite_self]
    cases (cur.getD (draw / 7 % (cur.length : Int)).toNat none).isNone with
    | true => exact ⟨_, rfl, .inl ⟨_, _, rfl⟩⟩
    | false => exact ⟨_, rfl, .inr (.inl ⟨_, rfl⟩)⟩
theorem done_back {c s : D} {E U : List Chg} {q : List (Option Int)} {ps fs : List (List (Option Int))} {cur : List (Option Int)} {l : Li} (R : Rel c s E U (q :: ps) cur fs l) (hl : U.length ≤ 1000000) : ∃ E' U' l', doneG l [.tuple [.str "back"]] = .ok (.str "", l') ∧ Rel c s E' U' ps q (cur :: fs) l' := by
  have hd : deedR (.tuple [.str "back"]) l = turnL true l := by
    unfold deedR
    simp only [bd2_ok, ix0, eq_back_hear, eq_back_forget, eq_back_back, bd_ok, bl_bool, ifR_ok, Bool.false_eq_true, if_false, if_true, backG]
  rcases R.back hl with ⟨_, h, _⟩ | ⟨x, E', p, ps', l', _, h, ht, R'⟩
  · cases h
  · cases h
    refine ⟨_, _, l', ?_, R'⟩
    show doneR (deedR _ l) l = _
    rw [hd, ht]
    rfl
theorem done_back0 {c s : D} {E U : List Chg} {fs : List (List (Option Int))} {cur : List (Option Int)} {l : Li} (R : Rel c s E U [] cur fs l) (hl : U.length ≤ 1000000) : doneG l [.tuple [.str "back"]] = .ok (.str "nothing", l) := by
  have hd : deedR (.tuple [.str "back"]) l = turnL true l := by
    unfold deedR
    simp only [bd2_ok, ix0, eq_back_hear, eq_back_forget, eq_back_back, bd_ok, bl_bool, ifR_ok, Bool.false_eq_true, if_false, if_true, backG]
  rcases R.back hl with ⟨_, _, ht⟩ | ⟨x, E', p, ps', l', _, h, ht, R'⟩
  · show doneR (deedR _ l) l = _
    rw [hd, ht]
    unfold doneR
    simp only [w_nothing]
  · cases h
theorem done_again {c s : D} {E U : List Chg} {q : List (Option Int)} {ps fs : List (List (Option Int))} {cur : List (Option Int)} {l : Li} (R : Rel c s E U ps cur (q :: fs) l) (hl : E.length ≤ 1000000) : ∃ E' U' l', doneG l [.tuple [.str "again"]] = .ok (.str "", l') ∧ Rel c s E' U' (cur :: ps) q fs l' := by
  have hd : deedR (.tuple [.str "again"]) l = turnL false l := by
    unfold deedR
    simp only [bd2_ok, ix0, eq_again_hear, eq_again_forget, eq_again_back, bd_ok, bl_bool, ifR_ok, Bool.false_eq_true, if_false, againG]
  rcases R.again hl with ⟨_, h, _⟩ | ⟨x, E', p, ps', l', _, h, ht, R'⟩
  · cases h
  · cases h
    refine ⟨_, _, l', ?_, R'⟩
    show doneR (deedR _ l) l = _
    rw [hd, ht]
    rfl
theorem done_again0 {c s : D} {E U : List Chg} {ps : List (List (Option Int))} {cur : List (Option Int)} {l : Li} (R : Rel c s E U ps cur [] l) (hl : E.length ≤ 1000000) : doneG l [.tuple [.str "again"]] = .ok (.str "nothing", l) := by
  have hd : deedR (.tuple [.str "again"]) l = turnL false l := by
    unfold deedR
    simp only [bd2_ok, ix0, eq_again_hear, eq_again_forget, eq_again_back, bd_ok, bl_bool, ifR_ok, Bool.false_eq_true, if_false, againG]
  rcases R.again hl with ⟨_, _, ht⟩ | ⟨x, E', p, ps', l', _, h, ht, R'⟩
  · show doneR (deedR _ l) l = _
    rw [hd, ht]
    unfold doneR
    simp only [w_nothing]
  · cases h
theorem none_rep (m : Nat) : (List.replicate m PyData.none) = (List.replicate m (none : Option Int)).map oD := by rw [List.map_replicate]; rfl
theorem flatN (m : Nat) : (List.replicate m [PyData.none]).flatten = List.replicate m PyData.none := by
  induction m with
  | zero => rfl
  | succ m ih => simp only [List.replicate_succ, List.flatten_cons, List.singleton_append, ih]
theorem rep_none {m : Nat} (h : m ≤ 16777216) : repV (.list [PyData.none]) (.int (m : Int)) = .ok (rowL (List.replicate m none)) := by
  have c : (decide (-(2 ^ 63) ≤ (m : Int) ∧ (m : Int) < 2 ^ 63) && fits ([PyData.none].length * ((m : Int)).toNat)) = true := by
    rw [Int.toNat_natCast]
    simp only [Bool.and_eq_true, decide_eq_true_eq, fits, List.length_cons, List.length_nil]
    exact ⟨⟨by omega, by omega⟩, by omega⟩
  unfold repV
  show (if _ then _ else _) = _
  rw [if_pos c, Int.toNat_natCast, flatN, none_rep]
theorem makeR_two (r3 : D → D → Res D) (c s : D) : makeR r3 [c, s] = (initL (r3 c s).nx c s).bd fun l => .ok l.d := rfl
theorem rangeD_ok {i : Int} (h0 : -1000000 ≤ i) (h1 : i < 1000000) : rangeDV (.int i) (.int (-1)) (.int (-1)) = .ok (rangeC i (-1) (i + 1).toNat) := by
  unfold rangeDV
  simp only
  rw [if_pos (decide_eq_true ⟨trivial, h0, h1, by decide, by decide⟩), show i - -1 = i + 1 by omega]
theorem eqS_nothing : eqV (.str "nothing") (.str "nothing") = .ok (.bool true) := by
  rw [eqS (by decide +kernel)]
  congr 2
theorem law_true (ns : List Int) (h : ns.length ≤ 63) : m_law (.list (ns.map .int)) = .ok (.bool true) := by
  unfold m_law
  obtain ⟨p, k, places, e, P, p5, k1, k5, kp, kl, ln, pin, nd⟩ := law_code_ok (ns := ns) (at_ := 0) (mk := 5) (mn := 16) (by omega) (by decide) (by decide) (by decide)
  have l16 : places.length ≤ 16 := by omega
  have l1 : 1 ≤ places.length := by omega
  obtain ⟨r1, hl1, hx1, ed1⟩ := draws_ok (ns := ns) (k := 1) (base := 9) 1 (by omega) (by decide) (by decide) (by decide)
  rw [show (.int ((1 : Nat) : Int) : D) = .int 1 from rfl] at ed1
  obtain ⟨sl, sl0, sl1, esl⟩ := row_at (i := 0) hx1 (by decide) (by omega)
  obtain ⟨r2, hl2, hx2, ed2⟩ := draws_ok (ns := ns) (k := 1) (base := 36) 2 (by omega) (by decide) (by decide) (by decide)
  rw [show (.int ((2 : Nat) : Int) : D) = .int 2 from rfl] at ed2
  obtain ⟨v, v0, v1, ev⟩ := row_at (i := 1) hx2 (by decide) (by omega)
  have i2 : ixV (.tuple [.int p, .int k, intT places]) (.int 2) = .ok (intT places) := ix2
  have rn := rep_none (m := places.length) (by omega)
  have eI : makeR iniR [.tuple [.int p, .int k, intT places], .int sl] = .ok (Li.d ⟨.tuple [.int p, .int k, intT places], .int sl, (List.replicate places.length (none : Option Int)).map oD, [], []⟩) := by
    have er : iniR (.tuple [.int p, .int k, intT places]) (.int sl) = .ok (rowL (List.replicate places.length none)) := by
      unfold iniR
      simp (disch := (first | assumption | omega | decide | (simp only [List.length_cons, List.length_nil, List.length_map, List.length_append]; omega))) only [bd_ok, bd_exc, bd2_ok, consR_ok, nx_ok, ap1_ok, ap2_ok, ap3_ok, ap4_ok, ap5_ok, un2_tup, un3_tup, onL_list, addV_int, subV_int, ltV_int, leV_int, gtV_int, geV_int, augI_int, negV_int, eqV_int, neV_int, bl_bool, ifR_ok, andR_ok, orR_ok, notR_ok, andV_ok, orV_ok, notV_ok, lenV_list, lenV_tup, List.length_map, List.length_cons, List.length_nil, seqItems_list, seqItems_tup, enumA_list, enumA_tup, zipAA_list, zipAA_tup, revA_tup, revA_list, tupleV_list, tupleV_tup, listV_list, listV_tup, max2V_int, min2V_int, lstR_nil, thenC_next, thenC_ret, Bool.not_true, Bool.not_false, if_true, if_false, Bool.false_eq_true, modV_int, fdivV_a, mulI_a, mulI_b, range1_a, range2_a, lstR_ok, tupR_ok, app1_ok, ix_intsA, ix_intsT, isi_int_int, isi_bool_int, isi_bool_bool, isi_list_list, isi_tup_tup, isNV_int, isNV_none, isNV_list, isNV_tup, notNV_int, notNV_none, notNV_list, notNV_tup, addV_lst, addV_tup, partV_int, slR_list, slR_tup, setL_a, chV_int, Int.zero_add, Int.toNat_natCast, decide_true, decide_false, List.length_append, List.length_singleton, Nat.reduceAdd, Nat.zero_add, Int.cast_ofNat_Int, Int.natCast_zero, Int.natCast_one, Int.reduceLT, Int.reduceLE, Int.reduceEq, Int.reduceNe, Int.reduceAdd, Int.reduceSub, Int.reduceMul, Int.reduceNeg, Int.reduceToNat, eq_self, ite_self, i2, rn]
    have e1 : noL (.tuple [.int p, .int k, intT places]) = true := by
      show (noL (.int p) && (noL (.int k) && (noL (intT places) && true))) = true
      have : noLs (places.map PyData.int) = true := noLs_of fun d hd => by
        obtain ⟨i, _, rfl⟩ := List.mem_map.mp hd
        rfl
      show (true && (true && (noLs (places.map PyData.int) && true))) = true
      rw [this]
      rfl
    rw [makeR_two, er]
    unfold initL
    simp only [nx_ok, bd_ok, onL_list, e1, noLs_row, show noL (.int sl) = true from rfl, Bool.and_self, if_true]
  simp (disch := (first | assumption | omega | decide | (simp only [List.length_cons, List.length_nil, List.length_map, List.length_append]; omega))) only [bd_ok, bd_exc, bd2_ok, consR_ok, nx_ok, ap1_ok, ap2_ok, ap3_ok, ap4_ok, ap5_ok, un2_tup, un3_tup, onL_list, addV_int, subV_int, ltV_int, leV_int, gtV_int, geV_int, augI_int, negV_int, eqV_int, neV_int, bl_bool, ifR_ok, andR_ok, orR_ok, notR_ok, andV_ok, orV_ok, notV_ok, lenV_list, lenV_tup, List.length_map, List.length_cons, List.length_nil, seqItems_list, seqItems_tup, enumA_list, enumA_tup, zipAA_list, zipAA_tup, revA_tup, revA_list, tupleV_list, tupleV_tup, listV_list, listV_tup, max2V_int, min2V_int, lstR_nil, thenC_next, thenC_ret, Bool.not_true, Bool.not_false, if_true, if_false, Bool.false_eq_true, modV_int, fdivV_a, mulI_a, mulI_b, range1_a, range2_a, lstR_ok, tupR_ok, app1_ok, ix_intsA, ix_intsT, isi_int_int, isi_bool_int, isi_bool_bool, isi_list_list, isi_tup_tup, isNV_int, isNV_none, isNV_list, isNV_tup, notNV_int, notNV_none, notNV_list, notNV_tup, addV_lst, addV_tup, partV_int, slR_list, slR_tup, setL_a, chV_int, Int.zero_add, Int.toNat_natCast, decide_true, decide_false, List.length_append, List.length_singleton, Nat.reduceAdd, Nat.zero_add, Int.cast_ofNat_Int, Int.natCast_zero, Int.natCast_one, Int.reduceLT, Int.reduceLE, Int.reduceEq, Int.reduceNe, Int.reduceAdd, Int.reduceSub, Int.reduceMul, Int.reduceNeg, Int.reduceToNat, eq_self, ite_self, e, ed1, esl, ed2, ev, i2, rn, eI]
  obtain ⟨many, hm, em⟩ : ∃ many : Int, (many = 1 ∨ many = 5) ∧ ixV (.list [.int 1, .int 1, .int 1, .int 5]) (.int (v % 4)) = .ok (.int many) := by
    rcases (show v % 4 = 0 ∨ v % 4 = 1 ∨ v % 4 = 2 ∨ v % 4 = 3 by omega) with z | z | z | z <;> rw [z]
    · exact ⟨1, .inl rfl, ix_list (by decide) rfl⟩
    · exact ⟨1, .inl rfl, ix_list (by decide) rfl⟩
    · exact ⟨1, .inl rfl, ix_list (by decide) rfl⟩
    · exact ⟨5, .inr rfl, ix_list (by decide) rfl⟩
  simp only [em, bd_ok]
  rw [range1_a (by omega) (by omega)]
  simp only [bd_ok]
  refine forN_range_then (S := D) (T := D) (P := fun r => r = Res.ok (PyData.bool true)) (fun i s => ∃ xs : List Int, s = intL xs ∧ xs.length = 60 * i ∧ ∀ x ∈ xs, 0 ≤ x) ⟨[], rfl, rfl, fun _ z => by cases z⟩ ?_ ?_
  · rintro i _ hi ⟨xs, rfl, lx, nx⟩
    obtain ⟨r3, hl3, hx3, ed3⟩ := draws_ok (ns := ns) (k := 2 + (i : Int)) (base := 768398400) 60 (by omega) (by decide) (by decide) (by decide)
    rw [show (.int ((60 : Nat) : Int) : D) = .int 60 from rfl] at ed3
    simp (disch := (first | assumption | omega | decide | (simp only [List.length_cons, List.length_nil, List.length_map, List.length_append]; omega))) only [bd_ok, bd_exc, bd2_ok, consR_ok, nx_ok, ap1_ok, ap2_ok, ap3_ok, ap4_ok, ap5_ok, un2_tup, un3_tup, onL_list, addV_int, subV_int, ltV_int, leV_int, gtV_int, geV_int, augI_int, negV_int, eqV_int, neV_int, bl_bool, ifR_ok, andR_ok, orR_ok, notR_ok, andV_ok, orV_ok, notV_ok, lenV_list, lenV_tup, List.length_map, List.length_cons, List.length_nil, seqItems_list, seqItems_tup, enumA_list, enumA_tup, zipAA_list, zipAA_tup, revA_tup, revA_list, tupleV_list, tupleV_tup, listV_list, listV_tup, max2V_int, min2V_int, lstR_nil, thenC_next, thenC_ret, Bool.not_true, Bool.not_false, if_true, if_false, Bool.false_eq_true, modV_int, fdivV_a, mulI_a, mulI_b, range1_a, range2_a, lstR_ok, tupR_ok, app1_ok, ix_intsA, ix_intsT, isi_int_int, isi_bool_int, isi_bool_bool, isi_list_list, isi_tup_tup, isNV_int, isNV_none, isNV_list, isNV_tup, notNV_int, notNV_none, notNV_list, notNV_tup, addV_lst, addV_tup, partV_int, slR_list, slR_tup, setL_a, chV_int, Int.zero_add, Int.toNat_natCast, decide_true, decide_false, List.length_append, List.length_singleton, Nat.reduceAdd, Nat.zero_add, Int.cast_ofNat_Int, Int.natCast_zero, Int.natCast_one, Int.reduceLT, Int.reduceLE, Int.reduceEq, Int.reduceNe, Int.reduceAdd, Int.reduceSub, Int.reduceMul, Int.reduceNeg, Int.reduceToNat, eq_self, ite_self, ed3]
    have hi5 : i < 5 := by omega
    rw [← List.map_append]
    refine ⟨_, rfl, xs ++ r3, rfl, by rw [List.length_append]; omega, fun x hx => ?_⟩
    rcases List.mem_append.mp hx with hx | hx
    · exact nx x hx
    · exact (hx3 x hx).1
  rintro _ ⟨xs, rfl, lx, nx⟩
  have lx300 : xs.length ≤ 300 := by omega
  simp only [bd_ok, enumA_list]
  refine forC_then (S := D × D × D) (T := D) (P := fun r => r = Res.ok (PyData.bool true)) (fun i s => ∃ E U ps cur fs l, s = (stD (ps.reverse ++ cur :: fs), .int (ps.length : Int), l.d) ∧ Rel (.tuple [.int p, .int k, intT places]) (.int sl) E U ps cur fs l ∧ ps.length + fs.length ≤ i ∧ cur.length = places.length ∧ (ps.reverse ++ cur :: fs)[0]? = some (List.replicate places.length none))
    ⟨[], [], [], _, [], _, rfl, Rel.init _ _ places.length, by simp, by simp, rfl⟩ ?_ ?_
  · rintro j d _ hd ⟨E, U, ps, cur, fs, l, rfl, R, hn, hc, hf⟩
    obtain ⟨a, ha, rfl⟩ := enum_get hd
    have hj : j < xs.length := (List.getElem?_eq_some_iff.mp ha).1
    obtain ⟨d1, ed1', f1⟩ := deed_ok (k := k) P l1 (nx a (List.mem_of_getElem? ha))
    simp only [un2_tup, consR_ok, bd_ok, ap2_ok, ed1']
    obtain ⟨d2, ed2', f2⟩ := pick1 hm (j := j) (fun z => by omega) f1
    rw [ed2']
    obtain ⟨d3, ed3', f3⟩ := pick2 (many := many) (draw := a) f2 (ps := ps) (fs := fs) (cur := cur) (by omega)
    simp only [bd_ok]
    rw [ed3']
    obtain ⟨w, E', U', ps', cur', fs', l', h1, hw, R', h2, h3, h4, h5⟩ := step R (by omega) (by omega) f3
    simp only [bd_ok, ap4_ok, h2, un3_tup]
    have ht := test_told h1 hw R'.row (r := bd2 (Res.ok (stD (ps'.reverse ++ cur' :: fs'))) (Res.ok (.int (ps'.length : Int))) ixV) (by rw [bd2_ok, st_at])
    refine ⟨_, ifX_false ht, E', U', ps', cur', fs', l', rfl, R', by omega, by rw [h4, hc], by rw [h5, hf]⟩
  · rintro _ ⟨E, U, ps, cur, fs, l, rfl, R, hn, hc, hf⟩
    have hE := R.bE.len
    have hU := R.bU.len
    generalize hS : ps.reverse ++ cur :: fs = S at hf
    have hSl : S.length = ps.length + (fs.length + 1) := by rw [← hS]; exact st_len
    have hen : (enumX (xs.map PyData.int)).length = xs.length := by simp [enumX]
    rw [hen] at hn
    have eD : rangeDR (subV (.int (ps.length : Int)) (.int 1)) (Res.ok (.int (-1))) (Res.ok (.int (-1))) = .ok (rangeC ((ps.length : Int) - 1) (-1) ps.length) := by
      rw [subV_int]
      unfold rangeDR
      simp only [bd_ok]
      rw [rangeD_ok (by omega) (by omega), show ((ps.length : Int) - 1 + 1).toNat = ps.length by omega]
    rw [eD]
    simp only [bd_ok]
    refine forC_then (S := D) (T := D) (P := fun r => r = Res.ok (PyData.bool true)) (fun i s => ∃ E U ps' cur fs l, s = l.d ∧ Rel (.tuple [.int p, .int k, intT places]) (.int sl) E U ps' cur fs l ∧ ps'.reverse ++ cur :: fs = S ∧ ps'.length + i = ps.length) ⟨E, U, ps, cur, fs, l, rfl, R, hS, rfl⟩ ?_ ?_
    · rintro j d _ hd ⟨E, U, ps', cur, fs, l, rfl, R, hS, hj⟩
      unfold rangeC at hd
      rw [List.getElem?_map] at hd
      obtain ⟨t, ht, rfl⟩ := Option.map_eq_some_iff.mp hd
      obtain ⟨hlt, ht⟩ := List.getElem?_eq_some_iff.mp ht
      rw [List.getElem_range] at ht
      subst ht
      rw [List.length_range] at hlt
      have hU := R.bU.len
      match ps', R, hS, hj with
      | [], _, _, hj => simp at hj; omega
      | q :: ps', R, hS, hj =>
        obtain ⟨E', U', l', h1, R'⟩ := done_back R (by rw [hU]; have := congrArg List.length hS; rw [st_len] at this; omega)
        have hS' : ps'.reverse ++ q :: (cur :: fs) = S := by rw [← hS, List.reverse_cons, List.append_assoc]; rfl
        have ht := test_told h1 (by decide +kernel) R'.row (r := bd2 (Res.ok (stD S)) (Res.ok (.int ((ps.length : Int) - 1 + (j : Int) * -1))) ixV) (by
          rw [bd2_ok, ← hS', show (ps.length : Int) - 1 + (j : Int) * -1 = (ps'.length : Int) by simp only [List.length_cons] at hj; omega]
          exact st_at)
        refine ⟨_, ifX_false ht, E', U', ps', q, cur :: fs, l', rfl, R', hS', by simp only [List.length_cons] at hj; omega⟩
    · rintro _ ⟨E, U, ps', cur, fs, l, rfl, R, hS, hj⟩
      have lr : (rangeC ((ps.length : Int) - 1) (-1) ps.length).length = ps.length := by simp [rangeC]
      rw [lr] at hj
      have : ps' = [] := List.eq_nil_of_length_eq_zero (by omega)
      subst this
      have hU := R.bU.len
      have hS : cur :: fs = S := hS
      have hcur : cur = List.replicate places.length none := by
        rw [← hS] at hf
        exact Option.some.inj hf
      have hSl2 : fs.length + 1 = S.length := by rw [← hS]; rfl
      have h1 := done_back0 R (by omega)
      have ht := test_told h1 (by decide +kernel) R.row (r := Res.ok (rowL (List.replicate places.length none))) (by rw [hcur])
      rw [ifX_false ht]
      simp only [partV_int, bd_ok, slR_list, cut_from (show (0 : Int) ≤ 1 by decide), seqItems_list]
      rw [← List.map_drop, ← hS, show List.drop (Int.toNat 1) (cur :: fs) = fs from rfl]
      refine forC_then (S := D) (T := D) (P := fun r => r = Res.ok (PyData.bool true)) (fun i s => ∃ E U ps' cur l, s = l.d ∧ Rel (.tuple [.int p, .int k, intT places]) (.int sl) E U ps' cur (fs.drop i) l ∧ ps'.length ≤ i) ⟨E, U, [], cur, l, rfl, R, Nat.le_refl _⟩ ?_ ?_
      · rintro j d _ hd ⟨E, U, ps', cur, l, rfl, R, hj⟩
        rw [List.getElem?_map] at hd
        obtain ⟨t, ht, rfl⟩ := Option.map_eq_some_iff.mp hd
        obtain ⟨hlt, ht⟩ := List.getElem?_eq_some_iff.mp ht
        have edr : fs.drop j = t :: fs.drop (j + 1) := by rw [← ht]; exact List.drop_eq_getElem_cons hlt
        rw [edr] at R
        have hE := R.bE.len
        obtain ⟨E', U', l', h1, R'⟩ := done_again R (by omega)
        have ht := test_told h1 (by decide +kernel) R'.row (r := Res.ok (rowL t)) rfl
        exact ⟨_, ifX_false ht, E', U', cur :: ps', t, l', rfl, R', by simp only [List.length_cons]; omega⟩
      · rintro _ ⟨E, U, ps', cur, l, rfl, R, hj⟩
        rw [List.length_map] at R hj
        rw [List.drop_length] at R
        have hE := R.bE.len
        have h1 := done_again0 R (by omega)
        unfold retX cmpX
        rw [call_told h1]
        simp only [bd_ok, eqS_nothing, nx_ok]
        rfl
end SC
namespace SC
open PySem L2 DL PySem.Spec PyProof.Rows
def top (i : Nat) : Stmt := PySem.Challenge.pw_slipcurve_k28_whole_listeners_taken_back.main.body.getD i (.Pass ⟨0, 0, 0, 0⟩)
structure Gl0 (K : PySem.W.Frag) (mg : Str → Option Value) : Prop where
  len : mg "len" = none
  list : mg "list" = none
  range : mg "range" = none
  min : mg "min" = none
  tuple : mg "tuple" = none
  max : mg "max" = none
  int : mg "int" = none
  isinstance : mg "isinstance" = none
  enumerate : mg "enumerate" = none
  ValueError : mg "ValueError" = none
  x_NoPlace : ExF K mg "NoPlace"
  x_NoNumber : ExF K mg "NoNumber"
  x_Heard : ExF K mg "Heard"
  x_NotHeard : ExF K mg "NotHeard"
  x_NothingLeft : ExF K mg "NothingLeft"
  word : WordC K mg
section
variable {P : Program} {w : World} {K : PySem.W.Frag} {mg : Str → Option Value} {base : Heap}
abbrev s_law_cell : Stmt := top 16
theorem sc_law_cell : FnScope ["script", "k"] ["script", "k"] (defScope s_law_cell) := ⟨rfl, rfl, rfl, by decide +kernel, rfl, by decide +kernel, by decide +kernel⟩
theorem ok_law_cell (T : Gl0 K mg)  {f : Addr} {fd : FuncData} (F : Fun K "_law_cell" "_law_cell" s_law_cell f fd) : FnOk P w K mg base (L2N.CX P w) 1 f fd ["script", "k"] (spD K mg 2 .V (ap2 m_law_cell)) := by
  refine fn_ok F sc_law_cell rfl fun cdv A outer s H E ds hr hl C => ?_
  match ds, hl with
  | [script, k], _ =>
    show SV _ _ _ [cVal script, cVal k] _ (m_law_cell script k) _
    unfold m_law_cell
    refine sv_ifRetD (tg_cp c_lt ((eg_var 1 rfl).vt) ((eg_cB1 b_len ((eg_var 0 rfl).vt) T.len DL.boot_len).vt)) ?_ ?_
    · exact sv_retD (eg_ix ((eg_var 0 rfl).vt) ((eg_var 1 rfl).vt))
    refine sv_ifRetD (tg_cp c_eq ((eg_cB1 b_len ((eg_var 0 rfl).vt) T.len DL.boot_len).vt) ((eg_int).vt)) ?_ ?_
    · exact sv_retD ((eg_add ((eg_mul ((eg_int).vt) ((eg_var 1 rfl).vt)).vt) ((eg_int).vt)).ov)
    exact sv_retD ((eg_add ((eg_mod ((eg_ix ((eg_var 0 rfl).vt) ((eg_mod ((eg_var 1 rfl).vt) ((eg_cB1 b_len ((eg_var 0 rfl).vt) T.len DL.boot_len).vt)).vt)).vt) ((eg_int).vt)).vt) ((eg_mul ((eg_int).vt) ((eg_var 1 rfl).vt)).vt)).ov)
abbrev s_law_draws : Stmt := top 17
theorem sc_law_draws : FnScope ["script", "k", "many", "base", "primes", "cell", "rest", "row", "j", "mash"] ["script", "k", "many", "base"] (defScope s_law_draws) := ⟨rfl, rfl, rfl, by decide +kernel, rfl, by decide +kernel, by decide +kernel⟩
theorem ok_law_draws (T : Gl0 K mg) (D_law_cell : Def P w K mg base "_law_cell" 1 2 .V (ap2 m_law_cell)) {f : Addr} {fd : FuncData} (F : Fun K "_law_draws" "_law_draws" s_law_draws f fd) : FnOk P w K mg base (L2N.CX P w) 2 f fd ["script", "k", "many", "base"] (spD K mg 4 .O (ap4 m_law_draws)) := by
  refine fn_ok F sc_law_draws rfl fun cdv A outer s H E ds hr hl C => ?_
  match ds, hl with
  | [script, k, many, base], _ =>
    show SV _ _ _ [cVal script, cVal k, cVal many, cVal base, cAny, cAny, cAny, cAny, cAny, cAny] _ (m_law_draws script k many base) _
    unfold m_law_draws
    refine sv_cons (s1_set 4 (eg_tup (ag_cons (eg_int) (ag_cons (eg_int) (ag_cons (eg_int) (ag_cons (eg_int) (ag_cons (eg_int) (ag_cons (eg_int) (ag_cons (eg_int) (ag_cons (eg_int) (ag_nil))))))))))) fun primes => ?_
    refine sv_cons (s1_set 5 (eg_call D_law_cell (hr.mono (by decide)) (ag_cons (eg_var 0 rfl) (ag_cons (eg_var 1 rfl) (ag_nil))))) fun cell => ?_
    refine sv_cons (s1_set 6 (eg_int)) fun rest => ?_
    refine sv_cons (s1_if (T := D) (fin := fun s_ => .nx [cVal script, cVal k, cVal many, cVal base, cVal primes, cVal cell, cVal s_, cAny, cAny, cAny]) (tg_cp c_ge ((eg_var 5 rfl).vt) ((eg_pow ((eg_int).vt) ((eg_int).vt)).vt)) ?_ ?_) fun s_ => ?_
    · refine sv_cons (s1_set 6 (eg_var 5 rfl)) fun rest_1 => ?_
      exact sv_nil rfl
    · exact sv_nil rfl
    refine sv_cons (s1_setO 7 (eg_lst (ag_nil))) fun row => ?_
    refine sv_cons (s1_for1 (out := fun (s__1 : D × D) => [cVal script, cVal k, cVal many, cVal base, cVal primes, cVal cell, cVal s__1.2, cRes s__1.1, cAny, cAny]) 8 (row, s_) (if_range1 ((eg_var 2 rfl).vt) T.range) (Wk.refl _) ⟨rfl, .inl rfl, .inl rfl⟩ ?_) fun s__3 => ?_
    · intro s__1 j
      refine sv_cons (s1_set 9 (eg_mul ((eg_mod ((eg_var 5 rfl).vt) ((eg_ix ((eg_var 4 rfl).vt) ((eg_mod ((eg_var 8 rfl).vt) ((eg_int).vt)).vt)).vt)).vt) ((eg_add ((eg_int).vt) ((eg_mul ((eg_mul ((eg_int).vt) ((eg_var 8 rfl).vt)).vt) ((eg_var 8 rfl).vt)).vt)).ot))) fun mash => ?_
      refine sv_cons (s1_set 9 ((eg_add ((eg_add ((eg_var 9 rfl).vt) ((eg_mul ((eg_mul ((eg_int).vt) ((eg_add ((eg_var 8 rfl).vt) ((eg_int).vt)).ot)).vt) ((eg_add ((eg_var 8 rfl).vt) ((eg_int).vt)).ot)).vt)).ot) ((eg_mul ((eg_int).vt) ((eg_var 1 rfl).vt)).vt)).ov)) fun mash_1 => ?_
      refine sv_cons (s1_set 9 (eg_mod ((eg_var 9 rfl).vt) ((eg_ix ((eg_var 4 rfl).vt) ((eg_mod ((eg_add ((eg_mul ((eg_int).vt) ((eg_var 8 rfl).vt)).vt) ((eg_var 1 rfl).vt)).ot) ((eg_int).vt)).vt)).vt))) fun mash_2 => ?_
      refine sv_cons (s1_set 9 (eg_mod ((eg_mul ((eg_mul ((eg_var 9 rfl).vt) ((eg_var 9 rfl).vt)).vt) ((eg_var 9 rfl).vt)).vt) ((eg_ix ((eg_var 4 rfl).vt) ((eg_mod ((eg_add ((eg_var 8 rfl).vt) ((eg_int).vt)).ot) ((eg_int).vt)).vt)).vt))) fun mash_3 => ?_
      refine sv_cons (s1_if (T := D) (fin := fun s__2 => .nx [cVal script, cVal k, cVal many, cVal base, cVal primes, cVal cell, cVal s__1.2, cRes s__1.1, cVal j, cVal s__2]) (tg_cp c_gt ((eg_var 6 rfl).vt) ((eg_int).vt)) ?_ ?_) fun s__2 => ?_
      · refine sv_cons (s1_set 9 (eg_var 6 rfl)) fun mash_4 => ?_
        exact sv_nil rfl
      · exact sv_nil rfl
      refine sv_cons (s1_append 7 rfl (eg_mod ((eg_var 9 rfl).vt) ((eg_var 3 rfl).vt))) fun row_1 => ?_
      refine sv_cons (s1_set 6 (eg_fdiv ((eg_var 6 rfl).vt) ((eg_var 3 rfl).vt))) fun rest_2 => ?_
      exact sv_wk (Wk.trans (wk_any 8) (wk_any 9)) (sv_nil rfl)
    exact sv_ownD 7 rfl
abbrev s_law_code : Stmt := top 18
theorem sc_law_code : FnScope ["script", "at", "most_k", "most_n", "plan", "primes", "p", "k", "many", "left", "j"] ["script", "at", "most_k", "most_n"] (defScope s_law_code) := ⟨rfl, rfl, rfl, by decide +kernel, rfl, by decide +kernel, by decide +kernel⟩
theorem ok_law_code (T : Gl0 K mg) (D_law_draws : Def P w K mg base "_law_draws" 2 4 .O (ap4 m_law_draws)) {f : Addr} {fd : FuncData} (F : Fun K "_law_code" "_law_code" s_law_code f fd) : FnOk P w K mg base (L2N.CX P w) 3 f fd ["script", "at", "most_k", "most_n"] (spD K mg 4 .V (ap4 m_law_code)) := by
  refine fn_ok F sc_law_code rfl fun cdv A outer s H E ds hr hl C => ?_
  match ds, hl with
  | [script, at_, most_k, most_n], _ =>
    show SV _ _ _ [cVal script, cVal at_, cVal most_k, cVal most_n, cAny, cAny, cAny, cAny, cAny, cAny, cAny] _ (m_law_code script at_ most_k most_n) _
    unfold m_law_code
    refine sv_cons (s1_setO 4 (eg_call D_law_draws (hr.mono (by decide)) (ag_cons (eg_var 0 rfl) (ag_cons (eg_var 1 rfl) (ag_cons (eg_int) (ag_cons (eg_int) (ag_nil))))))) fun plan => ?_
    refine sv_cons (s1_setO 5 (eg_lst (ag_cons (eg_int) (ag_cons (eg_int) (ag_cons (eg_int) (ag_cons (eg_int) (ag_cons (eg_int) (ag_cons (eg_int) (ag_cons (eg_int) (ag_cons (eg_int) (ag_cons (eg_int) (ag_cons (eg_int) (ag_cons (eg_int) (ag_cons (eg_int) (ag_cons (eg_int) (ag_cons (eg_int) (ag_cons (eg_int) (ag_cons (eg_int) (ag_cons (eg_int) (ag_cons (eg_int) (ag_cons (eg_int) (ag_cons (eg_int) (ag_cons (eg_int) (ag_cons (eg_int) (ag_cons (eg_int) (ag_nil)))))))))))))))))))))))))) fun primes => ?_
    refine sv_cons (s1_set 6 (eg_ix ((eg_lst (ag_cons (eg_ix (eg_peek 5 rfl) ((eg_mod ((eg_ix (eg_peek 4 rfl) ((eg_int).vt)).vt) ((eg_int).vt)).vt)) (ag_cons (eg_ix (eg_peek 5 rfl) ((eg_mod ((eg_ix (eg_peek 4 rfl) ((eg_int).vt)).vt) ((eg_int).vt)).vt)) (ag_nil)))).ot) ((eg_mod ((eg_ix (eg_peek 4 rfl) ((eg_int).vt)).vt) ((eg_int).vt)).vt))) fun p => ?_
    refine sv_cons (s1_set 7 ((eg_add ((eg_int).vt) ((eg_mod ((eg_ix (eg_peek 4 rfl) ((eg_int).vt)).vt) ((eg_cB2 b_min2 ((eg_var 2 rfl).vt) ((eg_var 6 rfl).vt) T.min DL.boot_min).vt)).vt)).ov)) fun k => ?_
    refine sv_cons (s1_set 8 ((eg_add ((eg_var 7 rfl).vt) ((eg_mod ((eg_ix (eg_peek 4 rfl) ((eg_int).vt)).vt) ((eg_add ((eg_sub ((eg_cB2 b_min2 ((eg_var 3 rfl).vt) ((eg_var 6 rfl).vt) T.min DL.boot_min).vt) ((eg_var 7 rfl).vt)).vt) ((eg_int).vt)).ot)).vt)).ov)) fun many => ?_
    refine sv_cons (s1_setO 9 (eg_listRange1 ((eg_var 6 rfl).vt) T.list T.range)) fun left => ?_
    exact sv_popRet 10 9 (by decide) (Nat.le_of_ble_eq_true rfl) rfl (eg_var 6 rfl) (eg_var 7 rfl) ((eg_var 8 rfl).vt) (blkOk_by (N := ["script", "at", "most_k", "most_n", "plan", "primes", "p", "k", "many", "left", "j"]) (sc := defScope s_law_code) (own := [("j", 10)]) (by decide +kernel)) (fun _ _ _ _ _ => ⟨rfl, .inl rfl, .inr rfl⟩) (fun s H C cl fp => pe_pop (j := 10) (l := 9) (Nat.le_of_ble_eq_true rfl) rfl (fun j xcur => (eg_mod ((eg_ix (eg_peek 4 rfl) ((eg_add ((eg_int).vt) ((eg_var 10 rfl).vt)).ot)).vt) ((eg_cB1 b_len (eg_peek 9 rfl) T.len DL.boot_len).vt)).vt) (by first | exact Or.inl rfl | exact Or.inr (Or.inl rfl) | exact Or.inr (Or.inr rfl)) (by decide) (by decide) rfl rfl rfl rfl rfl) T.range T.tuple DL.boot_tuple
abbrev s_law_deed : Stmt := top 20
theorem sc_law_deed : FnScope ["draw", "code", "p", "k", "places", "near", "number", "entry", "way"] ["draw", "code"] (defScope s_law_deed) := ⟨rfl, rfl, rfl, by decide +kernel, rfl, by decide +kernel, by decide +kernel⟩
theorem ok_law_deed (T : Gl0 K mg)  {f : Addr} {fd : FuncData} (F : Fun K "_law_deed" "_law_deed" s_law_deed f fd) : FnOk P w K mg base (L2N.CX P w) 1 f fd ["draw", "code"] (spD K mg 2 .V (ap2 m_law_deed)) := by
  refine fn_ok F sc_law_deed rfl fun cdv A outer s H E ds hr hl C => ?_
  match ds, hl with
  | [draw, code], _ =>
    show SV _ _ _ [cVal draw, cVal code, cAny, cAny, cAny, cAny, cAny, cAny, cAny] _ (m_law_deed draw code) _
    unfold m_law_deed
    refine sv_cons (s1_un3 2 3 4 (eg_var 1 rfl) ⟨rfl, .inl rfl, .inl rfl⟩ ⟨rfl, .inl rfl, .inl rfl⟩ ⟨rfl, .inl rfl, .inl rfl⟩ ⟨rfl, rfl, rfl, rfl, rfl⟩) fun s_ => ?_
    refine sv_cons (s1_set 5 (eg_mod ((eg_fdiv ((eg_var 0 rfl).vt) ((eg_int).vt)).vt) ((eg_cB1 b_len ((eg_var 4 rfl).vt) T.len DL.boot_len).vt))) fun near => ?_
    refine sv_cons (s1_set 6 (eg_ix ((eg_lst (ag_cons (eg_var 5 rfl) (ag_cons (eg_neg ((eg_int).vt)) (ag_cons (eg_cB1 b_len ((eg_var 4 rfl).vt) T.len DL.boot_len) (ag_cons (eg_pow ((eg_int).vt) ((eg_int).vt)) (ag_nil)))))).ot) ((eg_cB2 b_max2 ((eg_int).vt) ((eg_sub ((eg_mod ((eg_var 0 rfl).vt) ((eg_int).vt)).vt) ((eg_int).vt)).vt) T.max DL.boot_max).vt))) fun number => ?_
    refine sv_cons (s1_set 5 (eg_mod ((eg_fdiv ((eg_var 0 rfl).vt) ((eg_int).vt)).vt) ((eg_var 2 rfl).vt))) fun near_1 => ?_
    refine sv_cons (s1_set 7 (eg_ix ((eg_lst (ag_cons (eg_var 5 rfl) (ag_cons (eg_neg ((eg_int).vt)) (ag_cons (eg_var 2 rfl) (ag_cons (eg_pow ((eg_int).vt) ((eg_int).vt)) (ag_nil)))))).ot) ((eg_cB2 b_max2 ((eg_int).vt) ((eg_sub ((eg_mod ((eg_fdiv ((eg_var 0 rfl).vt) ((eg_int).vt)).vt) ((eg_int).vt)).vt) ((eg_int).vt)).vt) T.max DL.boot_max).vt))) fun entry => ?_
    refine sv_cons (s1_set 8 (eg_mod ((eg_fdiv ((eg_var 0 rfl).vt) ((eg_int).vt)).vt) ((eg_int).vt))) fun way => ?_
    refine sv_ifRetD (tg_cp c_lt ((eg_var 8 rfl).vt) ((eg_int).vt)) ?_ ?_
    · exact sv_retD (eg_tup (ag_cons (eg_str) (ag_cons (eg_var 6 rfl) (ag_cons (eg_var 7 rfl) (ag_nil)))))
    exact sv_retD (eg_ix ((eg_lst (ag_cons (eg_tup (ag_cons (eg_str) (ag_cons (eg_var 6 rfl) (ag_nil)))) (ag_cons (eg_tup (ag_cons (eg_str) (ag_nil))) (ag_cons (eg_tup (ag_cons (eg_str) (ag_nil))) (ag_nil))))).ot) ((eg_sub ((eg_var 8 rfl).vt) ((eg_int).vt)).vt))
abbrev s_law_later : Stmt := top 22
theorem sc_law_later : FnScope ["code", "states", "at", "deed", "row", "there", "later"] ["code", "states", "at", "deed"] (defScope s_law_later) := ⟨rfl, rfl, rfl, by decide +kernel, rfl, by decide +kernel, by decide +kernel⟩
theorem ok_law_later (T : Gl0 K mg)  {f : Addr} {fd : FuncData} (F : Fun K "_law_later" "_law_later" s_law_later f fd) : FnOk P w K mg base (L2N.CX P w) 1 f fd ["code", "states", "at", "deed"] (spD K mg 4 .V (ap4 m_law_later)) := by
  refine fn_ok F sc_law_later rfl fun cdv A outer s H E ds hr hl C => ?_
  match ds, hl with
  | [code, states, at_, deed], _ =>
    show SV _ _ _ [cVal code, cVal states, cVal at_, cVal deed, cAny, cAny, cAny] _ (m_law_later code states at_ deed) _
    unfold m_law_later
    refine sv_cons (s1_set 4 (eg_ix ((eg_var 1 rfl).vt) ((eg_var 2 rfl).vt))) fun row => ?_
    refine sv_ifRetD (tg_cp c_inT ((eg_ix ((eg_var 3 rfl).vt) ((eg_int).vt)).vt) ((eg_tup (ag_cons (eg_str) (ag_cons (eg_str) (ag_nil)))).vt)) ?_ ?_
    · refine sv_cons (s1_setO 5 (eg_add ((eg_var 2 rfl).vt) ((eg_ix ((eg_lst (ag_cons (eg_neg ((eg_int).vt)) (ag_cons (eg_int) (ag_nil)))).ot) ((eg_cT1 b_int ((eg_cp c_eq ((eg_ix ((eg_var 3 rfl).vt) ((eg_int).vt)).vt) ((eg_str).vt)).vt) T.int DL.boot_int).vt)).vt))) fun there => ?_
      refine sv_wk (wk_fz 5 rfl) ?_
      exact sv_retD (eg_if (tg_chain c_le c_lt ((eg_int).vt) ((eg_var 5 rfl).vt) ((eg_cB1 b_len ((eg_var 1 rfl).vt) T.len DL.boot_len).vt)) (eg_tup (ag_cons (eg_var 1 rfl) (ag_cons (eg_var 5 rfl) (ag_cons (eg_str) (ag_nil))))) (eg_tup (ag_cons (eg_var 1 rfl) (ag_cons (eg_var 2 rfl) (ag_cons (eg_str) (ag_nil))))))
    refine sv_ifRetD (tg_not (tg_chain c_le c_lt ((eg_int).vt) ((eg_ix ((eg_var 3 rfl).vt) ((eg_int).vt)).vt) ((eg_cB1 b_len ((eg_var 4 rfl).vt) T.len DL.boot_len).vt))) ?_ ?_
    · exact sv_retD (eg_tup (ag_cons (eg_var 1 rfl) (ag_cons (eg_var 2 rfl) (ag_cons (eg_str) (ag_nil)))))
    refine sv_ifRetD (tg_w (wg_and (tg_cp c_eq ((eg_ix ((eg_var 3 rfl).vt) ((eg_int).vt)).vt) ((eg_str).vt)) (wg_and1 (tg_not (tg_chain c_le c_lt ((eg_int).vt) ((eg_ix ((eg_var 3 rfl).vt) ((eg_int).vt)).vt) ((eg_ix ((eg_var 0 rfl).vt) ((eg_int).vt)).vt)))))) ?_ ?_
    · exact sv_retD (eg_tup (ag_cons (eg_var 1 rfl) (ag_cons (eg_var 2 rfl) (ag_cons (eg_str) (ag_nil)))))
    refine sv_ifRetD (tg_w (wg_and (tg_cp c_eq ((eg_ix ((eg_var 3 rfl).vt) ((eg_int).vt)).vt) ((eg_str).vt)) (wg_and1 (tg_cp c_notN' ((eg_ix ((eg_var 4 rfl).vt) ((eg_ix ((eg_var 3 rfl).vt) ((eg_int).vt)).vt)).vt) ((eg_non).vt))))) ?_ ?_
    · exact sv_retD (eg_tup (ag_cons (eg_var 1 rfl) (ag_cons (eg_var 2 rfl) (ag_cons (eg_str) (ag_nil)))))
    refine sv_ifRetD (tg_w (wg_and (tg_cp c_eq ((eg_ix ((eg_var 3 rfl).vt) ((eg_int).vt)).vt) ((eg_str).vt)) (wg_and1 (tg_cp c_isN' ((eg_ix ((eg_var 4 rfl).vt) ((eg_ix ((eg_var 3 rfl).vt) ((eg_int).vt)).vt)).vt) ((eg_non).vt))))) ?_ ?_
    · exact sv_retD (eg_tup (ag_cons (eg_var 1 rfl) (ag_cons (eg_var 2 rfl) (ag_cons (eg_str) (ag_nil)))))
    refine sv_cons (s1_setO 6 (eg_cT1 b_list ((eg_var 4 rfl).vt) T.list DL.boot_list)) fun later => ?_
    refine sv_cons (s1_store 6 rfl (eg_if (tg_cp c_eq ((eg_ix ((eg_var 3 rfl).vt) ((eg_int).vt)).vt) ((eg_str).vt)) (eg_ix ((eg_var 3 rfl).vt) ((eg_int).vt)) (eg_non)) ((eg_ix ((eg_var 3 rfl).vt) ((eg_int).vt)).vt)) fun later_1 => ?_
    refine sv_wk (wk_fz 6 rfl) ?_
    exact sv_retD (eg_tup (ag_cons ((eg_add ((eg_slice ((eg_var 1 rfl).vt) (og_none) (og_some ((eg_add ((eg_var 2 rfl).vt) ((eg_int).vt)).ot))).ot) ((eg_lst (ag_cons (eg_var 6 rfl) (ag_nil))).ot)).ov) (ag_cons ((eg_add ((eg_var 2 rfl).vt) ((eg_int).vt)).ov) (ag_cons (eg_str) (ag_nil)))))
abbrev s_law_word : Stmt := top 19
theorem sc_law_word : FnScope ["e", "kinds", "words"] ["e"] (defScope s_law_word) := ⟨rfl, rfl, rfl, by decide +kernel, rfl, by decide +kernel, by decide +kernel⟩
theorem ok_law_word (T : Gl0 K mg) {f : Addr} {fd : FuncData} (F : Fun K "_law_word" "_law_word" s_law_word f fd) : FnW P w K mg base (L2N.CX P w) 1 f fd ["e"] (spW K mg) := by
  refine fnWord F sc_law_word m_word_ok T.word fun q cdv A outer s H E D n G hz hf hI hV C => ?_
  show SV _ _ _ [cIs (.ref q.1), cAny, cAny] _ (m_law_word n) _
  unfold m_law_word
  refine sv_cons (s1_setO 1 (eg_lst (ag_cons (eg_isE 0 rfl List.mem_cons_self G hz hf (hI "TooFew" (by decide)) T.isinstance) (ag_cons (eg_isE 0 rfl List.mem_cons_self G hz hf (hI "NoCurve" (by decide)) T.isinstance) (ag_cons (eg_isE 0 rfl List.mem_cons_self G hz hf (hI "NoPaper" (by decide)) T.isinstance) (ag_cons (eg_isE 0 rfl List.mem_cons_self G hz hf (hI "NoPlace" (by decide)) T.isinstance) (ag_nil))))))) fun kinds => ?_
  refine sv_cons (s1_setO 1 (eg_add (eg_peek 1 rfl) ((eg_lst (ag_cons (eg_isE 0 rfl List.mem_cons_self G hz hf (hI "NoNumber" (by decide)) T.isinstance) (ag_cons (eg_isE 0 rfl List.mem_cons_self G hz hf (hI "Heard" (by decide)) T.isinstance) (ag_cons (eg_isE 0 rfl List.mem_cons_self G hz hf (hI "NotHeard" (by decide)) T.isinstance) (ag_nil))))).ot))) fun kinds_1 => ?_
  refine sv_cons (s1_setO 1 (eg_add (eg_peek 1 rfl) ((eg_lst (ag_cons (eg_isE 0 rfl List.mem_cons_self G hz hf (hI "NothingLeft" (by decide)) T.isinstance) (ag_cons (eg_isE 0 rfl List.mem_cons_self G hz hf (hI "NoText" (by decide)) T.isinstance) (ag_cons (eg_isE 0 rfl List.mem_cons_self G hz hf (hI "NoRow" (by decide)) T.isinstance) (ag_nil))))).ot))) fun kinds_2 => ?_
  refine sv_ifRetD (tg_w (wg_or (tg_cp c_ne ((eg_count (eg_peek 1 rfl) ((eg_bl).vt)).vt) ((eg_int).vt)) (wg_or1 (tg_not (tg_val ((eg_isE 0 rfl List.mem_cons_self G hz hf hV T.isinstance).vt)))))) ?_ ?_
  · exact sv_retD (eg_str)
  refine sv_cons (s1_setO 2 (eg_lst (ag_cons (eg_str) (ag_cons (eg_str) (ag_cons (eg_str) (ag_cons (eg_str) (ag_cons (eg_str) (ag_cons (eg_str) (ag_cons (eg_str) (ag_cons (eg_str) (ag_cons (eg_str) (ag_cons (eg_str) (ag_nil))))))))))))) fun words => ?_
  exact sv_retD (eg_ix (eg_peek 2 rfl) ((eg_index (eg_peek 1 rfl) ((eg_bl).vt)).vt))
abbrev s_L0 : Stmt := inClass (top 14) 0
abbrev s_L1 : Stmt := inClass (top 14) 1
abbrev s_L2 : Stmt := inClass (top 14) 2
abbrev s_L3 : Stmt := inClass (top 14) 3
abbrev s_L4 : Stmt := inClass (top 14) 4
abbrev s_L5 : Stmt := inClass (top 14) 5
abbrev s_L6 : Stmt := inClass (top 14) 6
abbrev s_L7 : Stmt := inClass (top 14) 7
abbrev s_L8 : Stmt := inClass (top 14) 8
theorem sc_L0 : FnScope ["self", "code", "slips"] ["self", "code", "slips"] (defScope s_L0) := ⟨rfl, rfl, rfl, by decide +kernel, rfl, by decide +kernel, by decide +kernel⟩
theorem sc_L1 : FnScope ["self", "number"] ["self", "number"] (defScope s_L1) := ⟨rfl, rfl, rfl, by decide +kernel, rfl, by decide +kernel, by decide +kernel⟩
theorem sc_L2 : FnScope ["self", "number", "entry"] ["self", "number", "entry"] (defScope s_L2) := ⟨rfl, rfl, rfl, by decide +kernel, rfl, by decide +kernel, by decide +kernel⟩
theorem sc_L3 : FnScope ["self", "number", "entry"] ["self", "number", "entry"] (defScope s_L3) := ⟨rfl, rfl, rfl, by decide +kernel, rfl, by decide +kernel, by decide +kernel⟩
theorem sc_L4 : FnScope ["self", "number"] ["self", "number"] (defScope s_L4) := ⟨rfl, rfl, rfl, by decide +kernel, rfl, by decide +kernel, by decide +kernel⟩
theorem sc_L5 : FnScope ["self", "some", "others", "number", "entry"] ["self", "some", "others"] (defScope s_L5) := ⟨rfl, rfl, rfl, by decide +kernel, rfl, by decide +kernel, by decide +kernel⟩
theorem sc_L6 : FnScope ["self"] ["self"] (defScope s_L6) := ⟨rfl, rfl, rfl, by decide +kernel, rfl, by decide +kernel, by decide +kernel⟩
theorem sc_L7 : FnScope ["self"] ["self"] (defScope s_L7) := ⟨rfl, rfl, rfl, by decide +kernel, rfl, by decide +kernel, by decide +kernel⟩
theorem sc_L8 : FnScope ["self"] ["self"] (defScope s_L8) := ⟨rfl, rfl, rfl, by decide +kernel, rfl, by decide +kernel, by decide +kernel⟩
theorem ok_L0 {C : Addr} (T : Gl0 K mg) (TL : LisC K mg C) {f : Addr} {fd : FuncData} (F : Fun K "__init__" "Listener.__init__" s_L0 f fd) : FnOk P w K mg base (L2N.CX P w) 1 f fd ["self", "code", "slips"] (spI K C iniR) := by
  refine fn_init F sc_L0 rfl rfl fun cdv A outer s H E Ct => ?_
  exact im_init TL (fun c s => eg_rep (eg_lst (ag_cons eg_non ag_nil)) ((eg_cB1 b_len ((eg_ix ((eg_var 1 rfl).vt) ((eg_int).vt)).vt) T.len DL.boot_len).vt)) rfl rfl rfl (.inl rfl) (.inl rfl) (.inl rfl)
theorem ok_L1 {C : Addr} (T : Gl0 K mg) (TL : LisC K mg C) (x1 : ExF K mg "NoPlace") {f : Addr} {fd : FuncData} (F : Fun K "need_place" "Listener.need_place" s_L1 f fd) : FnOk P w K mg base (L2N.CX P w) 1 f fd ["self", "number"] (spR K mg C 1 .V needG) := by
  refine fn_okRN (nofun) F sc_L1 rfl rfl fun cdv A outer s H E a ow l ds hr hl Ct => ?_
  match ds, hl with
  | [num], _ =>
    refine ⟨b_need l num, [cFz C a ow l, cVal num], rfl, ?_⟩
    show SV _ _ _ [cFz C a ow l, cVal num] _ (b_need l num) _
    unfold b_need
    refine sv_one (s1_if (tg_w (wg_or (tg_cp c_lt (eg_var 1 rfl).vt eg_int.vt) (wg_or1 (tg_cp c_ge (eg_var 1 rfl).vt (eg_cB1 b_len (eg_fz 0 (fun l => .list l.row) rfl TL.cl TL.nR fz_row).vt T.len DL.boot_len).vt)))) ?_ ?_)
    · exact sv_raise x1
    · exact sv_nil rfl
theorem ok_L2 {C : Addr} (T : Gl0 K mg) (TL : LisC K mg C) {f : Addr} {fd : FuncData} (F : Fun K "put" "Listener.put" s_L2 f fd) : FnOk P w K mg base (L2N.CX P w) 1 f fd ["self", "number", "entry"] (spM K mg C 2 fun l ds => (putG l ds).bd fun l' => .ok (.none, l')) := by
  refine fn_okM F sc_L2 rfl rfl fun cdv A outer s H E a ow l ds hr hl Ct => ?_
  match ds, hl with
  | [num, ent], _ =>
    show SM _ _ C a ow [cFz C a ow l, cVal num, cVal ent] _ (putL l num ent)
    exact sm_put TL rfl rfl rfl rfl rfl rfl (.inl rfl) (.inl rfl) (.inl rfl)
theorem ok_L3 {C : Addr} (T : Gl0 K mg) (TL : LisC K mg C) (x2 : ExF K mg "NoNumber") (x3 : ExF K mg "Heard") (D1 : DefL P w K mg base C "need_place" 1 (spR K mg C 1 .V needG)) (D2 : DefL P w K mg base C "put" 1 (spM K mg C 2 fun l ds => (putG l ds).bd fun l' => .ok (.none, l')))
    {f : Addr} {fd : FuncData} (F : Fun K "hear" "Listener.hear" s_L3 f fd) : FnOk P w K mg base (L2N.CX P w) 2 f fd ["self", "number", "entry"] (spM K mg C 2 fun l ds => (hearG l ds).bd fun l' => .ok (.none, l')) := by
  refine fn_okM F sc_L3 rfl rfl fun cdv A outer s H E a ow l ds hr hl Ct => ?_
  match ds, hl with
  | [num, ent], _ =>
    show SM _ _ C a ow [cFz C a ow l, cVal num, cVal ent] _ (hearG l [num, ent])
    unfold hearG
    refine sm_cons (rk := .V) (out := fun _ => [cFz C a ow l, cVal num, cVal ent]) (s1_expr (eg_methF 0 (nofun) rfl TL (by decide +kernel) D1 hr (ag_cons (eg_var 1 rfl) ag_nil))) fun _ => ?_
    refine sm_cons (rk := .V) (out := fun _ => [cFz C a ow l, cVal num, cVal ent]) (s1_if (tg_w (wg_or (tg_cp c_lt (eg_var 2 rfl).vt eg_int.vt) (wg_or1 (tg_cp c_ge (eg_var 2 rfl).vt (eg_ix (eg_fz 0 (fun l => l.code) rfl TL.cl TL.nC fz_code).vt eg_int.vt).vt)))) (sv_raise x2) (sv_nil rfl)) fun _ => ?_
    refine sm_cons (rk := .V) (out := fun _ => [cFz C a ow l, cVal num, cVal ent]) (s1_if (tg_cp c_notN' (eg_ix (eg_fz 0 (fun l => .list l.row) rfl TL.cl TL.nR fz_row).vt (eg_var 1 rfl).vt).vt eg_non.vt) (sv_raise x3) (sv_nil rfl)) fun _ => ?_
    exact sm_last (g := fun l ds => (putG l ds).bd fun l' => .ok (.none, l')) (f := "put") (n := 2) 0 rfl TL (by decide +kernel) D2 hr (ag_cons (eg_var 1 rfl) (ag_cons (eg_var 2 rfl) ag_nil))
theorem ok_L4 {C : Addr} (T : Gl0 K mg) (TL : LisC K mg C) (x4 : ExF K mg "NotHeard") (D1 : DefL P w K mg base C "need_place" 1 (spR K mg C 1 .V needG)) (D2 : DefL P w K mg base C "put" 1 (spM K mg C 2 fun l ds => (putG l ds).bd fun l' => .ok (.none, l')))
    {f : Addr} {fd : FuncData} (F : Fun K "forget" "Listener.forget" s_L4 f fd) : FnOk P w K mg base (L2N.CX P w) 2 f fd ["self", "number"] (spM K mg C 1 fun l ds => (forgetG l ds).bd fun l' => .ok (.none, l')) := by
  refine fn_okM F sc_L4 rfl rfl fun cdv A outer s H E a ow l ds hr hl Ct => ?_
  match ds, hl with
  | [num], _ =>
    show SM _ _ C a ow [cFz C a ow l, cVal num] _ (forgetG l [num])
    unfold forgetG
    refine sm_cons (rk := .V) (out := fun _ => [cFz C a ow l, cVal num]) (s1_expr (eg_methF 0 (nofun) rfl TL (by decide +kernel) D1 hr (ag_cons (eg_var 1 rfl) ag_nil))) fun _ => ?_
    refine sm_cons (rk := .V) (out := fun _ => [cFz C a ow l, cVal num]) (s1_if (tg_cp c_isN' (eg_ix (eg_fz 0 (fun l => .list l.row) rfl TL.cl TL.nR fz_row).vt (eg_var 1 rfl).vt).vt eg_non.vt) (sv_raise x4) (sv_nil rfl)) fun _ => ?_
    exact sm_last (g := fun l ds => (putG l ds).bd fun l' => .ok (.none, l')) (f := "put") (n := 2) 0 rfl TL (by decide +kernel) D2 hr (ag_cons (eg_var 1 rfl) (ag_cons eg_non ag_nil))
theorem ok_L5 (b : Bool) {C : Addr} (T : Gl0 K mg) (TL : LisC K mg C) (x5 : ExF K mg "NothingLeft") {f : Addr} {fd : FuncData} (F : Fun K "turned" "Listener.turned" s_L5 f fd) : FnOk P w K mg base (L2N.CX P w) 1 f fd ["self", "some", "others"] (spT K mg C b) := by
  refine fn_turned b F sc_L5 rfl rfl fun cdv A outer s H E Ct => ?_
  exact tm_turn b TL x5 rfl rfl rfl rfl rfl (.inl rfl) (.inl rfl) (.inl rfl) (.inl rfl) (.inl rfl) (.inl rfl) (.inl rfl) (.inl rfl) (.inl rfl) rfl
theorem ok_L6 {C : Addr} (T : Gl0 K mg) (TL : LisC K mg C) (D5 : DefL P w K mg base C "turned" 1 (spT K mg C true)) {f : Addr} {fd : FuncData} (F : Fun K "back" "Listener.back" s_L6 f fd) : FnOk P w K mg base (L2N.CX P w) 2 f fd ["self"] (spM K mg C 0 fun l ds => (backG l ds).bd fun l' => .ok (.none, l')) := by
  refine fn_okM F sc_L6 rfl rfl fun cdv A outer s H E a ow l ds hr hl Ct => ?_
  match ds, hl with
  | [], _ =>
    show SM _ _ C a ow [cFz C a ow l] _ (turnL true l)
    exact sm_turned true 0 rfl TL D5 hr rfl
theorem ok_L7 {C : Addr} (T : Gl0 K mg) (TL : LisC K mg C) (D5 : DefL P w K mg base C "turned" 1 (spT K mg C false)) {f : Addr} {fd : FuncData} (F : Fun K "again" "Listener.again" s_L7 f fd) : FnOk P w K mg base (L2N.CX P w) 2 f fd ["self"] (spM K mg C 0 fun l ds => (againG l ds).bd fun l' => .ok (.none, l')) := by
  refine fn_okM F sc_L7 rfl rfl fun cdv A outer s H E a ow l ds hr hl Ct => ?_
  match ds, hl with
  | [], _ =>
    show SM _ _ C a ow [cFz C a ow l] _ (turnL false l)
    exact sm_turned false 0 rfl TL D5 hr rfl
theorem ok_L8 {C : Addr} (T : Gl0 K mg) (TL : LisC K mg C) (hlist : mg "list" = none) {f : Addr} {fd : FuncData} (F : Fun K "row" "Listener.row" s_L8 f fd) : FnOk P w K mg base (L2N.CX P w) 1 f fd ["self"] (spR K mg C 0 .O rowG) := by
  refine fn_okR (nofun) F sc_L8 rfl rfl fun cdv A outer s H E a ow l ds hr hl Ct => ?_
  match ds, hl with
  | [], _ =>
    show SV _ _ _ [cFz C a ow l] _ (rowG l []) _
    unfold rowG
    exact sv_retD (eg_cT1 b_list (eg_fz 0 (fun l => .list l.row) rfl TL.cl TL.nR fz_row).vt hlist DL.boot_list)
abbrev s_law_done : Stmt := top 21
theorem sc_law_done : FnScope ["listener", "deed", "name", "told", "e"] ["listener", "deed"] (defScope s_law_done) := ⟨rfl, rfl, rfl, by decide +kernel, rfl, by decide +kernel, by decide +kernel⟩
theorem ok_law_done {C : Addr} (T : Gl0 K mg) (TL : LisC K mg C) (Dw : DefW P w K mg base "_law_word" 1) (D3 : DefL P w K mg base C "hear" 2 (spM K mg C 2 fun l ds => (hearG l ds).bd fun l' => .ok (.none, l'))) (D4 : DefL P w K mg base C "forget" 2 (spM K mg C 1 fun l ds => (forgetG l ds).bd fun l' => .ok (.none, l')))
    (D6 : DefL P w K mg base C "back" 2 (spM K mg C 0 fun l ds => (backG l ds).bd fun l' => .ok (.none, l'))) (D7 : DefL P w K mg base C "again" 2 (spM K mg C 0 fun l ds => (againG l ds).bd fun l' => .ok (.none, l')))
    {f : Addr} {fd : FuncData} (F : Fun K "_law_done" "_law_done" s_law_done f fd) : FnOk P w K mg base (L2N.CX P w) 3 f fd ["listener", "deed"] (spM K mg C 1 doneG) := by
  refine fn_done F sc_law_done rfl rfl fun cdv A outer s H E hr Ct => ?_
  refine dm_done TL Dw (hr.mono (by decide)) T.word rfl (show ∀ x ∈ (["listener", "deed", "name", "told", "e"] : List Str), (defScope s_law_done).names.lookup x = some .local by decide +kernel) (fun pn xe W' d C' => ?_)
  refine bm_if (tg_cp c_eq (eg_ix (eg_var 1 rfl).vt eg_int.vt).vt eg_str.vt) (bm_meth TL (by decide +kernel) D3 hr (ag_cons (eg_ix (eg_var 1 rfl).vt eg_int.vt) (ag_cons (eg_ix (eg_var 1 rfl).vt eg_int.vt) ag_nil)))
    (bm_if (tg_cp c_eq (eg_ix (eg_var 1 rfl).vt eg_int.vt).vt eg_str.vt) (bm_meth TL (by decide +kernel) D4 hr (ag_cons (eg_ix (eg_var 1 rfl).vt eg_int.vt) ag_nil))
    (bm_if (tg_cp c_eq (eg_ix (eg_var 1 rfl).vt eg_int.vt).vt eg_str.vt) (bm_meth0 TL (by decide +kernel) D6 hr) (bm_meth0 TL (by decide +kernel) D7 hr)))
abbrev s_law : Stmt := top 23
theorem sc_law : FnScope ["script", "code", "listener", "states", "at", "many", "draws", "j", "k", "draw", "deed", "row", "number", "due"] ["script"] (defScope s_law) := ⟨rfl, rfl, rfl, by decide +kernel, rfl, by decide +kernel, by decide +kernel⟩
theorem ok_law (T : Gl0 K mg) {CL : Addr} (TL : LisD P w K mg base CL) (D_law_code : Def P w K mg base "_law_code" 3 4 .V (ap4 m_law_code)) (D_law_draws : Def P w K mg base "_law_draws" 2 4 .O (ap4 m_law_draws)) (D_law_deed : Def P w K mg base "_law_deed" 1 2 .V (ap2 m_law_deed)) (D_law_later : Def P w K mg base "_law_later" 1 4 .V (ap4 m_law_later)) {f : Addr} {fd : FuncData} (F : Fun K "law" "law" s_law f fd) : FnOk P w K mg base (L2N.CX P w) 4 f fd ["script"] (spD K mg 1 .V (ap1 m_law)) := by
  refine fn_ok F sc_law rfl fun cdv A outer s H E ds hr hl C => ?_
  match ds, hl with
  | [script], _ =>
    show SV _ _ _ [cVal script, cAny, cAny, cAny, cAny, cAny, cAny, cAny, cAny, cAny, cAny, cAny, cAny, cAny] _ (m_law script) _
    unfold m_law
    refine sv_cons (s1_set 1 (eg_call D_law_code (hr.mono (by decide)) (ag_cons (eg_var 0 rfl) (ag_cons (eg_int) (ag_cons (eg_int) (ag_cons (eg_int) (ag_nil))))))) fun code => ?_
    refine sv_cons (s1_make (r3 := iniR) 2 TL.cls TL.init (hr.mono (by decide)) (ag_cons (eg_var 1 rfl) (ag_cons (eg_ix ((eg_call D_law_draws (hr.mono (by decide)) (ag_cons (eg_var 0 rfl) (ag_cons (eg_int) (ag_cons (eg_int) (ag_cons (eg_int) (ag_nil)))))).ot) ((eg_int).vt)) (ag_nil)))) fun listener => ?_
    refine sv_cons (s1_setO 3 (eg_lst (ag_cons ((eg_rep (eg_lst (ag_cons (eg_non) (ag_nil))) ((eg_cB1 b_len ((eg_ix ((eg_var 1 rfl).vt) ((eg_int).vt)).vt) T.len DL.boot_len).vt)).ov) (ag_nil)))) fun states => ?_
    refine sv_cons (s1_set 4 (eg_int)) fun at_ => ?_
    refine sv_cons (s1_set 5 (eg_ix ((eg_lst (ag_cons (eg_int) (ag_cons (eg_int) (ag_cons (eg_int) (ag_cons (eg_int) (ag_nil)))))).ot) ((eg_mod ((eg_ix ((eg_call D_law_draws (hr.mono (by decide)) (ag_cons (eg_var 0 rfl) (ag_cons (eg_int) (ag_cons (eg_int) (ag_cons (eg_int) (ag_nil)))))).ot) ((eg_int).vt)).vt) ((eg_int).vt)).vt))) fun many => ?_
    refine sv_cons (s1_setO 6 (eg_lst (ag_nil))) fun draws => ?_
    refine sv_cons (s1_for1 (out := fun (s_ : D) => [cVal script, cVal code, cLi CL listener, cRes states, cVal at_, cVal many, cRes s_, cAny, cAny, cAny, cAny, cAny, cAny, cAny]) 7 draws (if_range1 ((eg_var 5 rfl).vt) T.range) (Wk.refl _) ⟨rfl, .inl rfl, .inl rfl⟩ ?_) fun s__1 => ?_
    · intro s_ j
      refine sv_cons (s1_setO 6 (eg_add (eg_peek 6 rfl) ((eg_call D_law_draws (hr.mono (by decide)) (ag_cons (eg_var 0 rfl) (ag_cons ((eg_add ((eg_int).vt) ((eg_var 7 rfl).vt)).ov) (ag_cons (eg_int) (ag_cons (eg_mul ((eg_int).vt) ((eg_int).vt)) (ag_nil)))))).ot))) fun draws_1 => ?_
      exact sv_wk (wk_any 7) (sv_nil rfl)
    refine sv_wk (wk_fz 6 rfl) ?_
    refine sv_consC (mk := id) (out := fun (s__6 : D × D × D) => [cVal script, cVal code, cLi CL s__6.2.2, cVal s__6.1, cVal s__6.2.1, cVal many, cVal s__1, cAny, cAny, cAny, cAny, cAny, cAny, cAny]) (s1_forC2 (out := fun (s__2 : D × D × D) => [cVal script, cVal code, cLi CL s__2.2.2, cVal s__2.1, cVal s__2.2.1, cVal many, cVal s__1, cAny, cAny, cAny, cAny, cAny, cAny, cAny]) 8 9 (states, at_, listener) (if_enumerateA (eg_var 6 rfl) T.enumerate) (wk_fz 3 rfl) ⟨rfl, .inl rfl, .inl rfl⟩ ⟨rfl, .inl rfl, .inl rfl⟩ ⟨rfl, rfl, rfl, rfl⟩ ?_) (fun _ => rfl) fun s__6 => ?_
    · intro s__2 k draw
      refine sv_cons (s1_set 10 (eg_call D_law_deed (hr.mono (by decide)) (ag_cons (eg_var 9 rfl) (ag_cons (eg_var 1 rfl) (ag_nil))))) fun deed => ?_
      refine sv_cons (s1_if (T := D) (fin := fun s__3 => .nx [cVal script, cVal code, cLi CL s__2.2.2, cVal s__2.1, cVal s__2.2.1, cVal many, cVal s__1, cAny, cVal k, cVal draw, cVal s__3, cAny, cAny, cAny]) (tg_w (wg_and (tg_cp c_eq ((eg_mod ((eg_fdiv ((eg_var 8 rfl).vt) ((eg_int).vt)).vt) ((eg_int).vt)).vt) ((eg_int).vt)) (wg_and1 (tg_cp c_eq ((eg_var 5 rfl).vt) ((eg_int).vt))))) ?_ ?_) fun s__3 => ?_
      · refine sv_cons (s1_set 10 (eg_ix ((eg_lst (ag_cons (eg_tup (ag_cons (eg_str) (ag_nil))) (ag_cons (eg_tup (ag_cons (eg_str) (ag_nil))) (ag_nil)))).ot) ((eg_fdiv ((eg_var 8 rfl).vt) ((eg_int).vt)).vt))) fun deed_1 => ?_
        exact sv_nil rfl
      · exact sv_nil rfl
      refine sv_cons (s1_if (T := D) (fin := fun s__4 => .nx [cVal script, cVal code, cLi CL s__2.2.2, cVal s__2.1, cVal s__2.2.1, cVal many, cVal s__1, cAny, cVal k, cVal draw, cVal s__4, cAny, cAny, cAny]) (tg_w (wg_and (tg_cp c_gt ((eg_var 5 rfl).vt) ((eg_int).vt)) (wg_and1 (tg_cp c_inT ((eg_ix ((eg_var 10 rfl).vt) ((eg_int).vt)).vt) ((eg_tup (ag_cons (eg_str) (ag_cons (eg_str) (ag_nil)))).vt))))) ?_ ?_) fun s__4 => ?_
      · refine sv_cons (s1_set 11 (eg_ix ((eg_var 3 rfl).vt) ((eg_var 4 rfl).vt))) fun row => ?_
        refine sv_cons (s1_set 12 (eg_mod ((eg_fdiv ((eg_var 9 rfl).vt) ((eg_int).vt)).vt) ((eg_cB1 b_len ((eg_var 11 rfl).vt) T.len DL.boot_len).vt))) fun number => ?_
        refine sv_cons (s1_set 10 (eg_if (tg_cp c_isN' ((eg_ix ((eg_var 11 rfl).vt) ((eg_var 12 rfl).vt)).vt) ((eg_non).vt)) (eg_tup (ag_cons (eg_str) (ag_cons (eg_var 12 rfl) (ag_cons (eg_int) (ag_nil))))) (eg_tup (ag_cons (eg_str) (ag_cons (eg_var 12 rfl) (ag_nil)))))) fun deed_2 => ?_
        exact sv_wk (Wk.trans (wk_any 11) (wk_any 12)) (sv_nil rfl)
      · exact sv_nil rfl
      refine sv_cons (s1_un3 3 4 13 (eg_call D_law_later (hr.mono (by decide)) (ag_cons (eg_var 1 rfl) (ag_cons (eg_var 3 rfl) (ag_cons (eg_var 4 rfl) (ag_cons (eg_var 10 rfl) (ag_nil)))))) ⟨rfl, .inl rfl, .inl rfl⟩ ⟨rfl, .inl rfl, .inl rfl⟩ ⟨rfl, .inl rfl, .inl rfl⟩ ⟨rfl, rfl, rfl, rfl, rfl⟩) fun s__5 => ?_
      refine sv_ifX (S := D) (out := fun (listener_1 : D) => [cVal script, cVal code, cLi CL listener_1, cVal s__5.1, cVal s__5.2.1, cVal many, cVal s__1, cAny, cVal k, cVal draw, cVal s__4, cAny, cAny, cVal s__5.2.2]) (mk := Ctl.ret) (tx_or (rb := fun (listener_1 : D) => ((bd2 (onLi listener_1 fun l => (rowG l []).bd (chT .O)) (bd2 (Res.ok s__5.1) (Res.ok s__5.2.1) ixV) neV).bd bl)) (tx_cmp (out := fun (listener_1 : D) => [cVal script, cVal code, cLi CL listener_1, cVal s__5.1, cVal s__5.2.1, cVal many, cVal s__1, cAny, cVal k, cVal draw, cVal s__4, cAny, cAny, cVal s__5.2.2]) (rb := fun (listener_1 : D) => (Res.ok s__5.2.2)) c_ne (ex_call (g := doneG) 2 rfl TL.done (hr.mono (by decide)) (eg_var 10 rfl)) (fun listener_1 => (eg_var 13 rfl).vt)) (fun listener_1 => tg_cp c_ne ((eg_methL0 (g := rowG) 2 rfl TL.cls (by decide +kernel) TL.row (hr.mono (by decide))).ot) ((eg_ix ((eg_var 3 rfl).vt) ((eg_var 4 rfl).vt)).vt))) (fun listener_1 => ?_) (fun _ => rfl) fun listener_1 => ?_
      · exact sv_retD (eg_bl)
      exact sv_wk (Wk.trans (wk_any 8) (Wk.trans (wk_any 9) (Wk.trans (wk_any 10) (wk_any 13)))) (sv_nil rfl)
    refine sv_consC (mk := id) (out := fun (s__8 : D) => [cVal script, cVal code, cLi CL s__8, cVal s__6.1, cVal s__6.2.1, cVal many, cVal s__1, cAny, cAny, cAny, cAny, cAny, cAny, cAny]) (s1_forC1 (out := fun (s__7 : D) => [cVal script, cVal code, cLi CL s__7, cVal s__6.1, cVal s__6.2.1, cVal many, cVal s__1, cAny, cAny, cAny, cAny, cAny, cAny, cAny]) 8 s__6.2.2 (if_rangeD ((eg_sub ((eg_var 4 rfl).vt) ((eg_int).vt)).vt) ((eg_neg ((eg_int).vt)).vt) ((eg_neg ((eg_int).vt)).vt) T.range) (Wk.refl _) ⟨rfl, .inl rfl, .inl rfl⟩ ?_) (fun _ => rfl) fun s__8 => ?_
    · intro s__7 k_1
      refine sv_ifX (S := D) (out := fun (listener_2 : D) => [cVal script, cVal code, cLi CL listener_2, cVal s__6.1, cVal s__6.2.1, cVal many, cVal s__1, cAny, cVal k_1, cAny, cAny, cAny, cAny, cAny]) (mk := Ctl.ret) (tx_or (rb := fun (listener_2 : D) => ((bd2 (onLi listener_2 fun l => (rowG l []).bd (chT .O)) (bd2 (Res.ok s__6.1) (Res.ok k_1) ixV) neV).bd bl)) (tx_cmp (out := fun (listener_2 : D) => [cVal script, cVal code, cLi CL listener_2, cVal s__6.1, cVal s__6.2.1, cVal many, cVal s__1, cAny, cVal k_1, cAny, cAny, cAny, cAny, cAny]) (rb := fun (listener_2 : D) => (Res.ok (PyData.str ""))) c_ne (ex_call (g := doneG) 2 rfl TL.done (hr.mono (by decide)) (eg_tup (ag_cons (eg_str) (ag_nil)))) (fun listener_2 => (eg_str).vt)) (fun listener_2 => tg_cp c_ne ((eg_methL0 (g := rowG) 2 rfl TL.cls (by decide +kernel) TL.row (hr.mono (by decide))).ot) ((eg_ix ((eg_var 3 rfl).vt) ((eg_var 8 rfl).vt)).vt))) (fun listener_2 => ?_) (fun _ => rfl) fun listener_2 => ?_
      · exact sv_retD (eg_bl)
      exact sv_wk (wk_any 8) (sv_nil rfl)
    refine sv_ifX (S := D) (out := fun (listener_3 : D) => [cVal script, cVal code, cLi CL listener_3, cVal s__6.1, cVal s__6.2.1, cVal many, cVal s__1, cAny, cAny, cAny, cAny, cAny, cAny, cAny]) (mk := id) (tx_or (rb := fun (listener_3 : D) => ((bd2 (onLi listener_3 fun l => (rowG l []).bd (chT .O)) (bd2 ((consR (Res.ok PyData.none) (Res.ok ([] : List D))).bd lstR) ((bd2 (Res.ok code) (Res.ok (PyData.int 2)) ixV).bd lenV) repV) neV).bd bl)) (tx_cmp (out := fun (listener_3 : D) => [cVal script, cVal code, cLi CL listener_3, cVal s__6.1, cVal s__6.2.1, cVal many, cVal s__1, cAny, cAny, cAny, cAny, cAny, cAny, cAny]) (rb := fun (listener_3 : D) => (Res.ok (PyData.str "nothing"))) c_ne (ex_call (g := doneG) 2 rfl TL.done (hr.mono (by decide)) (eg_tup (ag_cons (eg_str) (ag_nil)))) (fun listener_3 => (eg_str).vt)) (fun listener_3 => tg_cp c_ne ((eg_methL0 (g := rowG) 2 rfl TL.cls (by decide +kernel) TL.row (hr.mono (by decide))).ot) ((eg_rep (eg_lst (ag_cons (eg_non) (ag_nil))) ((eg_cB1 b_len ((eg_ix ((eg_var 1 rfl).vt) ((eg_int).vt)).vt) T.len DL.boot_len).vt)).ot))) (fun listener_3 => ?_) (fun _ => rfl) fun listener_3 => ?_
    · exact sv_retD (eg_bl)
    refine sv_consC (mk := id) (out := fun (s__10 : D) => [cVal script, cVal code, cLi CL s__10, cVal s__6.1, cVal s__6.2.1, cVal many, cVal s__1, cAny, cAny, cAny, cAny, cAny, cAny, cAny]) (s1_forC1 (out := fun (s__9 : D) => [cVal script, cVal code, cLi CL s__9, cVal s__6.1, cVal s__6.2.1, cVal many, cVal s__1, cAny, cAny, cAny, cAny, cAny, cAny, cAny]) 11 listener_3 (if_seq ((eg_slice ((eg_var 3 rfl).vt) (og_some ((eg_int).vt)) (og_none)).ov)) (Wk.refl _) ⟨rfl, .inl rfl, .inl rfl⟩ ?_) (fun _ => rfl) fun s__10 => ?_
    · intro s__9 row_1
      refine sv_ifX (S := D) (out := fun (listener_4 : D) => [cVal script, cVal code, cLi CL listener_4, cVal s__6.1, cVal s__6.2.1, cVal many, cVal s__1, cAny, cAny, cAny, cAny, cVal row_1, cAny, cAny]) (mk := Ctl.ret) (tx_or (rb := fun (listener_4 : D) => ((bd2 (onLi listener_4 fun l => (rowG l []).bd (chT .O)) (Res.ok row_1) neV).bd bl)) (tx_cmp (out := fun (listener_4 : D) => [cVal script, cVal code, cLi CL listener_4, cVal s__6.1, cVal s__6.2.1, cVal many, cVal s__1, cAny, cAny, cAny, cAny, cVal row_1, cAny, cAny]) (rb := fun (listener_4 : D) => (Res.ok (PyData.str ""))) c_ne (ex_call (g := doneG) 2 rfl TL.done (hr.mono (by decide)) (eg_tup (ag_cons (eg_str) (ag_nil)))) (fun listener_4 => (eg_str).vt)) (fun listener_4 => tg_cp c_ne ((eg_methL0 (g := rowG) 2 rfl TL.cls (by decide +kernel) TL.row (hr.mono (by decide))).ot) ((eg_var 11 rfl).vt))) (fun listener_4 => ?_) (fun _ => rfl) fun listener_4 => ?_
      · exact sv_retD (eg_bl)
      exact sv_wk (wk_any 11) (sv_nil rfl)
    exact sv_retX (S := D) (mk := id) (fin := Fin.rt) (ex_cmp (out := fun (listener_5 : D) => [cVal script, cVal code, cLi CL listener_5, cVal s__6.1, cVal s__6.2.1, cVal many, cVal s__1, cAny, cAny, cAny, cAny, cAny, cAny, cAny]) (rb := fun (listener_5 : D) => (Res.ok (PyData.str "nothing"))) c_eq (ex_call (g := doneG) 2 rfl TL.done (hr.mono (by decide)) (eg_tup (ag_cons (eg_str) (ag_nil)))) (fun listener_5 => (eg_str).vt)) (fun _ => rfl)
end
end SC
/-! The end: a law's def by its mirror. -/
namespace DL
open PySem L2 PySem.Spec PyProof.Rows
/-- a def that lets nothing out -/
theorem fn_cx0 {P : Program} {w : World} {K : PySem.W.Frag} {mg : Str → Option Value} {base : Heap} {k : Nat} {f : Addr} {fd : FuncData} {ps : List Str} {sp : Sp} (F : FnOk P w K mg base (L2N.CX P w) k f fd ps sp) :
    FnOk P w K mg base CX0 k f fd ps (fun vs H Q _ => sp vs H Q E0) :=
  ⟨fun vs H Q E h => F.len vs H Q E0 h, fun A outer s H args us vs Q E hr e b r h => codeAny_mono (F.run A outer s H args us vs Q E0 hr e b r h) fun res s' q => by
    cases res with
    | ok fl => cases fl <;> exact q
    | error e =>
      obtain ⟨_, _, _, _, _, _, _, _, _, _, _, _, z⟩ := q
      exact z⟩
/-- law's: a list of at most 63 ints, True -/
theorem law_sp {K : PySem.W.Frag} {mg : Str → Option Value} {g : D → Res D} (hg : ∀ ns : List Int, ns.length ≤ 63 → g (.list (ns.map .int)) = .ok (.bool true)) (H : Hp) (a : Addr) (ns : List Int) (hl : ns.length ≤ 63) (hS : SqL K H a (ns.map V.int)) :
    spD K mg 1 .V (ap1 g) [.ref a] H (fun v _ => v = .bl true) E0 := by
  refine ⟨H, [.list (ns.map .int)], Same.refl _, .cons (.lst hS ?_) .nil, rfl, ?_, fun d ed v F' H' x s a => ?_, fun n en => ?_⟩
  · clear hl hS hg
    induction ns with
    | nil => exact .nil
    | cons n ns ih => exact .cons (.int n) ih
  · rw [ap1_ok, hg ns hl]; exact ok_ns _
  · rw [ap1_ok, hg ns hl] at ed
    cases ed
    have a : Dp K F' v (.bool true) := a
    cases a
    rfl
  · rw [ap1_ok, hg ns hl] at en; cases en
theorem def_mk {P : Program} {w : World} {K : PySem.W.Frag} {mg : Str → Option Value} {base : Heap} {x : Str} {st : Stmt} {k n : Nat} {rk : Md} {g : List D → Res D} {f : Addr} {fd : FuncData} {ps : List Str} (F : Fun K x x st f fd) (hm : mg x = some (.ref f)) (hb : Binds K fd ps []) (h : FnOk P w K mg base (L2N.CX P w) k f fd ps (spD K mg n rk g)) :
    Def P w K mg base x k n rk g := ⟨f, fd, ps, h, hm, F.kp, hb⟩
/-- a def's datum for the head's Hook -/
abbrev fnD (x : Str) (st : Stmt) : He.FnD := ⟨(x, none), x, x, defArgs st, defBody st, defScope st⟩
theorem fun_of {fa : List He.Fa} {fn : List He.FnD} {K : PySem.W.Frag} (c : He.SaysE fa fn K) (i : Nat) (x : Str) (st : Stmt) (h : fn[i]? = some (fnD x st)) (hk : PySem.W.keepIn K (.ref (He.ga K x)) = true) : ∃ fd, Fun K x x st (He.ga K x) fd := by
  obtain ⟨oc, od, osl, kV, doc, pm, an, cdv, ct, l, c2⟩ := c.def_ i h
  exact ⟨_, fun_mk l c2 hk⟩
/-- a def that goes by another name as well -/
abbrev fnDa (y x : Str) (st : Stmt) : He.FnD := ⟨(y, none), x, x, defArgs st, defBody st, defScope st⟩
theorem fun_ofA {fa : List He.Fa} {fn : List He.FnD} {K : PySem.W.Frag} (c : He.SaysE fa fn K) (i : Nat) (y x : Str) (st : Stmt) (h : fn[i]? = some (fnDa y x st)) (hk : PySem.W.keepIn K (.ref (He.ga K y)) = true) : ∃ fd, Fun K x x st (He.ga K y) fd := by
  obtain ⟨oc, od, osl, kV, doc, pm, an, cdv, ct, l, c2⟩ := c.def_ i h
  exact ⟨_, fun_mk l c2 hk⟩
theorem def_mkA {P : Program} {w : World} {K : PySem.W.Frag} {mg : Str → Option Value} {base : Heap} {x y : Str} {st : Stmt} {k n : Nat} {rk : Md} {g : List D → Res D} {f : Addr} {fd : FuncData} {ps : List Str} (F : Fun K x x st f fd) (hm : mg y = some (.ref f)) (hb : Binds K fd ps []) (h : FnOk P w K mg base (L2N.CX P w) k f fd ps (spD K mg n rk g)) :
    Def P w K mg base y k n rk g := ⟨f, fd, ps, h, hm, F.kp, hb⟩
/-- a method -/
abbrev fnM (C m q : Str) (st : Stmt) : He.FnD := ⟨(C, some m), m, q, defArgs st, defBody st, defScope st⟩
theorem fun_ofM {fa : List He.Fa} {fn : List He.FnD} {K : PySem.W.Frag} (c : He.SaysE fa fn K) (i : Nat) (C m q : Str) (st : Stmt) (h : fn[i]? = some (fnM C m q st)) (hk : PySem.W.keepIn K (.ref (He.ma K (He.ga K C) m)) = true) : ∃ fd, Fun K m q st (He.ma K (He.ga K C) m) fd := by
  obtain ⟨oc, od, osl, kV, doc, pm, an, cdv, ct, l, c2⟩ := c.def_ i h
  exact ⟨_, fun_mk l c2 hk⟩
/-! ### the Hook, with one more question -/
def obsQ (n : Nat) (fa : List He.Fa) (fn : List He.FnD) (ex : PySem.W.Frag → Bool) (g : Addr → Option Obj) : He.Al := ((He.obsG n fa fn g).1 && ex (He.frG g (He.asG g n)), (He.obsG n fa fn g).2)
theorem obsQ_of {n : Nat} {fa : List He.Fa} {fn : List He.FnD} {ex : PySem.W.Frag → Bool} {g : Addr → Option Obj} (e : obsQ n fa fn ex g = He.valE fn) : He.SaysE fa fn (He.frG g (He.asG g n)) ∧ ex (He.frG g (He.asG g n)) = true := by
  have e1 : ((He.obsG n fa fn g).1 && ex (He.frG g (He.asG g n))) = true := congrArg (fun z : He.Al => z.1) e
  have e2 : (He.obsG n fa fn g).2 = fn.map He.FnD.val := congrArg (fun z : He.Al => z.2) e
  rw [Bool.and_eq_true] at e1
  exact ⟨Prod.ext e1.1 e2, e1.2⟩
def hookQ (n : Nat) (fa : List He.Fa) (fn : List He.FnD) (ex : PySem.W.Frag → Bool) : PySem.W.Hook where
  α := He.Al
  obs := fun s => obsQ n fa fn ex s.heap.get?
  val := fun _ => He.valE fn
  says := fun _ h => ∃ K : PySem.W.Frag, K.In h ∧ He.SaysE fa fn K ∧ ex K = true
  of := fun _ _ e => ⟨_, He.frG_in, (obsQ_of e).1, (obsQ_of e).2⟩
  keeps := fun _ _ _ ⟨K, hK, c⟩ k => ⟨K, PySem.W.Frag.In.keeps hK k, c⟩
theorem obsQ_eq {n : Nat} {fa : List He.Fa} {fn : List He.FnD} {ex : PySem.W.Frag → Bool} {g : Addr → Option Obj} {s : Shared} (h : ∀ a, g a = s.heap.get? a) : obsQ n fa fn ex g = (hookQ n fa fn ex).obs s := by
  rw [funext h]
  rfl
theorem exF_of {K : PySem.W.Frag} {mg : Str → Option Value} {x : Str} (h : mg x = some (.ref (He.ga K x))) (c : (He.Fa.exc x).ok K = true) : ExF K mg x := ⟨_, h, He.exc_ok c⟩
/-- what is asked of the classes of exceptions -/
def excCB (K : PySem.W.Frag) (D : Addr) : Bool := He.eqO (PySem.W.findIn K (.ref D) "__getattribute__") (some (some (.builtin "BaseException.__getattribute__"))) && (He.eqO (PySem.W.findIn K (.ref D) "__getattr__") (some none) &&
  (decide (PySem.W.subIn K (.ref D) (.type "BaseException") = some true) && (PySem.W.hasDictIn K D && (He.eqO (PySem.W.findIn K (.ref D) "__class__") (some (some (.builtin "object.__class__"))) &&
  (He.eqO (PySem.W.specialIn K (.builtin "object.__class__") "__get__") (some (some (.builtin "getset_descriptor.__get__"))) && (decide (PySem.W.takesIn K (.builtin "object.__class__") = some true) && decide (PySem.W.mroIn K D (.type "object") = some true)))))))
theorem excC_of {K : PySem.W.Frag} {D : Addr} (h : excCB K D = true) : ExcC K D := by
  simp only [excCB, Bool.and_eq_true] at h
  obtain ⟨h1, h2, h3, h4, h5, h6, h7, h8⟩ := h
  exact ⟨He.eqO_ok h1, He.eqO_ok h2, of_decide_eq_true h3, h4, He.eqO_ok h5, He.eqO_ok h6, of_decide_eq_true h7, of_decide_eq_true h8⟩
def word1 (K : PySem.W.Frag) (n : Str) : Bool := excCB K (He.ga K n) && (decide (PySem.W.exmOne K (.ref (He.ga K n)) (.ref (He.ga K "SlipError")) = some true) &&
  ((slips.all fun m => decide (PySem.W.kitOne K (.ref (He.ga K n)) (.ref (He.ga K m.1)) = some (decide (n = m.1)))) && decide (PySem.W.kitOne K (.ref (He.ga K n)) (.type "ValueError") = some true)))
def wordB (K : PySem.W.Frag) : Bool := slips.all fun n => word1 K n.1
theorem wordC_of {K : PySem.W.Frag} {mg : Str → Option Value} (h1 : mg "TooFew" = some (.ref (He.ga K "TooFew"))) (h2 : mg "NoCurve" = some (.ref (He.ga K "NoCurve"))) (h3 : mg "NoPaper" = some (.ref (He.ga K "NoPaper"))) (h4 : mg "NoPlace" = some (.ref (He.ga K "NoPlace"))) (h5 : mg "NoNumber" = some (.ref (He.ga K "NoNumber")))
    (h6 : mg "Heard" = some (.ref (He.ga K "Heard"))) (h7 : mg "NotHeard" = some (.ref (He.ga K "NotHeard"))) (h8 : mg "NothingLeft" = some (.ref (He.ga K "NothingLeft"))) (h9 : mg "NoText" = some (.ref (He.ga K "NoText"))) (h10 : mg "NoRow" = some (.ref (He.ga K "NoRow"))) (hs : mg "SlipError" = some (.ref (He.ga K "SlipError")))
    (hv : mg "ValueError" = none) (hB : wordB K = true) : WordC K mg := by
  have hm : ∀ n w, (n, w) ∈ slips → mg n = some (.ref (He.ga K n)) := fun n w h => by
    simp only [slips, List.mem_cons, Prod.mk.injEq, List.not_mem_nil, or_false] at h
    rcases h with ⟨rfl, _⟩ | ⟨rfl, _⟩ | ⟨rfl, _⟩ | ⟨rfl, _⟩ | ⟨rfl, _⟩ | ⟨rfl, _⟩ | ⟨rfl, _⟩ | ⟨rfl, _⟩ | ⟨rfl, _⟩ | ⟨rfl, _⟩ <;> assumption
  refine ⟨fun n w h => ?_, hv⟩
  have hn := word_mem h
  have b := List.all_eq_true.mp hB (n, w) hn
  simp only [word1, Bool.and_eq_true] at b
  obtain ⟨b1, b2, b3, b4⟩ := b
  refine ⟨_, _, hm n w hn, excC_of b1, hs, of_decide_eq_true b2, fun m hmm => ?_, of_decide_eq_true b4⟩
  obtain ⟨⟨m1, m2⟩, mm, rfl⟩ := List.mem_map.mp hmm
  exact ⟨_, hm m1 m2 mm, of_decide_eq_true (List.all_eq_true.mp b3 (m1, m2) mm)⟩
/-- each one of them is caught by its own name -/
def selfB (K : PySem.W.Frag) : Bool := slips.all fun n => decide (PySem.W.exmOne K (.ref (He.ga K n.1)) (.ref (He.ga K n.1)) = some true)
theorem and_l {a b : Bool} (h : (a && b) = true) : a = true := (Bool.and_eq_true _ _ ▸ h).1
theorem and_r {a b : Bool} (h : (a && b) = true) : b = true := (Bool.and_eq_true _ _ ▸ h).2
theorem selfC_of {K : PySem.W.Frag} {mg : Str → Option Value} (h1 : mg "TooFew" = some (.ref (He.ga K "TooFew"))) (h2 : mg "NoCurve" = some (.ref (He.ga K "NoCurve"))) (h3 : mg "NoPaper" = some (.ref (He.ga K "NoPaper"))) (h4 : mg "NoPlace" = some (.ref (He.ga K "NoPlace"))) (h5 : mg "NoNumber" = some (.ref (He.ga K "NoNumber")))
    (h6 : mg "Heard" = some (.ref (He.ga K "Heard"))) (h7 : mg "NotHeard" = some (.ref (He.ga K "NotHeard"))) (h8 : mg "NothingLeft" = some (.ref (He.ga K "NothingLeft"))) (h9 : mg "NoText" = some (.ref (He.ga K "NoText"))) (h10 : mg "NoRow" = some (.ref (He.ga K "NoRow"))) (hs : mg "SlipError" = some (.ref (He.ga K "SlipError")))
    (hv : mg "ValueError" = none) (hB : selfB K = true) : SelfC K mg := by
  have hm : ∀ n w, (n, w) ∈ slips → mg n = some (.ref (He.ga K n)) := fun n w h => by
    simp only [slips, List.mem_cons, Prod.mk.injEq, List.not_mem_nil, or_false] at h
    rcases h with ⟨rfl, _⟩ | ⟨rfl, _⟩ | ⟨rfl, _⟩ | ⟨rfl, _⟩ | ⟨rfl, _⟩ | ⟨rfl, _⟩ | ⟨rfl, _⟩ | ⟨rfl, _⟩ | ⟨rfl, _⟩ | ⟨rfl, _⟩ <;> assumption
  refine ⟨fun n w h => ?_⟩
  have hn := word_mem h
  exact ⟨_, hm n w hn, of_decide_eq_true (List.all_eq_true.mp hB (n, w) hn)⟩
end DL
namespace SC
open PySem L2 DL PySem.Spec PyProof.Rows
def fns : List He.FnD := [fnD "_law_cell" s_law_cell, fnD "_law_draws" s_law_draws, fnD "_law_code" s_law_code, fnD "_law_deed" s_law_deed, fnD "_law_later" s_law_later, fnD "_law_word" s_law_word, fnD "law" s_law, fnM "Listener" "__init__" "Listener.__init__" s_L0, fnM "Listener" "need_place" "Listener.need_place" s_L1, fnM "Listener" "put" "Listener.put" s_L2, fnM "Listener" "hear" "Listener.hear" s_L3, fnM "Listener" "forget" "Listener.forget" s_L4, fnM "Listener" "turned" "Listener.turned" s_L5, fnM "Listener" "back" "Listener.back" s_L6, fnM "Listener" "again" "Listener.again" s_L7, fnM "Listener" "row" "Listener.row" s_L8, fnD "_law_done" s_law_done]
def fas : List He.Fa := [.glo "_law_cell", .keep "_law_cell", .glo "_law_draws", .keep "_law_draws", .glo "_law_code", .keep "_law_code", .glo "_law_deed", .keep "_law_deed", .glo "_law_later", .keep "_law_later", .glo "_law_word", .keep "_law_word", .glo "law", .keep "law", .cls "Listener", .noat "Listener" "code", .noat "Listener" "slips", .noat "Listener" "heard_row", .noat "Listener" "earlier", .noat "Listener" "undone", .glo "Listener", .mkr "Listener", .meth "Listener" "__init__", .meth "Listener" "need_place", .meth "Listener" "put", .meth "Listener" "hear", .meth "Listener" "forget", .meth "Listener" "turned", .meth "Listener" "back", .meth "Listener" "again", .meth "Listener" "row", .glo "_law_done", .keep "_law_done", .free "len", .free "list", .free "range", .free "min", .free "tuple", .free "max", .free "int", .free "isinstance", .free "enumerate", .free "ValueError", .glo "NoPlace", .exc "NoPlace", .glo "NoNumber", .exc "NoNumber", .glo "Heard", .exc "Heard", .glo "NotHeard", .exc "NotHeard", .glo "NothingLeft", .exc "NothingLeft", .glo "TooFew", .glo "NoCurve", .glo "NoPaper", .glo "NoPlace", .glo "NoNumber", .glo "Heard", .glo "NotHeard", .glo "NothingLeft", .glo "NoText", .glo "NoRow", .glo "SlipError"]
abbrev hk : PySem.W.Hook := hookQ 5 fas fns wordB
def ob (s : PySem.W.SharedT) : He.Al := obsQ 5 fas fns wordB (HandSHeadRun.getT s)
theorem ob_eq (s : PySem.W.SharedT) : ob s = hk.obs s.abs := obsQ_eq (HandSHeadRun.getT_eq s)
abbrev loose : List PySem.Str := (["_wall", "SlipError", "TooFew", "NoCurve", "NoPaper", "NoPlace", "NoNumber", "Heard", "NotHeard", "NothingLeft", "NoText", "NoRow", "Listener", "_law_cell", "_law_draws", "_law_code", "_law_word", "_law_deed", "_law_done", "_law_later"] : List PySem.Str)
theorem run (w : World) : HandSHeadRun.RunEq (PySem.W.OpenLaw.row PySem.Challenge.rw_slipcurve_k28_whole_listeners_taken_back) (PySem.W.view (PySem.W.OpenLaw.row PySem.Challenge.rw_slipcurve_k28_whole_listeners_taken_back).prog [23]) hk ob 4000 loose w := by
  intro os
  kernel_rfl
theorem facts {P : Program} {w : World} {K : PySem.W.Frag} {h : Heap} {mg : Str → Option Value} {f : Addr} (X : K.In h) (G : h.Ns mainGlobals mg) (hfa : mg ("law" : Str) = some (.ref f)) (c : He.SaysE fas fns K) (cw : wordB K = true) :
    ∃ fd : FuncData, (∀ (s : Shared) (v : Value), BindsTo s fd ⟨[v], []⟩ [("script", v)]) ∧ ∀ base : Heap, K.In base → base.Ns mainGlobals mg → FnOk P w K mg base (L2N.CX P w) 4 f fd ["script"] (spD K mg 1 .V (ap1 m_law)) := by
  have T : Gl0 K mg := ⟨He.free_ok X G (c.fact 33 (f := .free "len") rfl), He.free_ok X G (c.fact 34 (f := .free "list") rfl), He.free_ok X G (c.fact 35 (f := .free "range") rfl), He.free_ok X G (c.fact 36 (f := .free "min") rfl), He.free_ok X G (c.fact 37 (f := .free "tuple") rfl), He.free_ok X G (c.fact 38 (f := .free "max") rfl), He.free_ok X G (c.fact 39 (f := .free "int") rfl), He.free_ok X G (c.fact 40 (f := .free "isinstance") rfl), He.free_ok X G (c.fact 41 (f := .free "enumerate") rfl), He.free_ok X G (c.fact 42 (f := .free "ValueError") rfl), exF_of (He.glo_ok X G (c.fact 43 (f := .glo "NoPlace") rfl)) (c.fact 44 (f := .exc "NoPlace") rfl), exF_of (He.glo_ok X G (c.fact 45 (f := .glo "NoNumber") rfl)) (c.fact 46 (f := .exc "NoNumber") rfl), exF_of (He.glo_ok X G (c.fact 47 (f := .glo "Heard") rfl)) (c.fact 48 (f := .exc "Heard") rfl), exF_of (He.glo_ok X G (c.fact 49 (f := .glo "NotHeard") rfl)) (c.fact 50 (f := .exc "NotHeard") rfl), exF_of (He.glo_ok X G (c.fact 51 (f := .glo "NothingLeft") rfl)) (c.fact 52 (f := .exc "NothingLeft") rfl), wordC_of (He.glo_ok X G (c.fact 53 (f := .glo "TooFew") rfl)) (He.glo_ok X G (c.fact 54 (f := .glo "NoCurve") rfl)) (He.glo_ok X G (c.fact 55 (f := .glo "NoPaper") rfl)) (He.glo_ok X G (c.fact 56 (f := .glo "NoPlace") rfl)) (He.glo_ok X G (c.fact 57 (f := .glo "NoNumber") rfl)) (He.glo_ok X G (c.fact 58 (f := .glo "Heard") rfl)) (He.glo_ok X G (c.fact 59 (f := .glo "NotHeard") rfl)) (He.glo_ok X G (c.fact 60 (f := .glo "NothingLeft") rfl)) (He.glo_ok X G (c.fact 61 (f := .glo "NoText") rfl)) (He.glo_ok X G (c.fact 62 (f := .glo "NoRow") rfl)) (He.glo_ok X G (c.fact 63 (f := .glo "SlipError") rfl)) (He.free_ok X G (c.fact 42 (f := .free "ValueError") rfl)) cw⟩
  obtain ⟨fd_law_cell, F_law_cell⟩ := fun_of c 0 "_law_cell" s_law_cell rfl (He.keep_ok (c.fact 1 (f := .keep "_law_cell") rfl))
  have g_law_cell : mg "_law_cell" = some (.ref (He.ga K "_law_cell")) := He.glo_ok X G (c.fact 0 (f := .glo "_law_cell") rfl)
  have b_law_cell := F_law_cell.binds (ps := ["script", "k"]) fun _ _ _ _ _ _ us hl => match us, hl with | [_, _], _ => rfl
  obtain ⟨fd_law_draws, F_law_draws⟩ := fun_of c 1 "_law_draws" s_law_draws rfl (He.keep_ok (c.fact 3 (f := .keep "_law_draws") rfl))
  have g_law_draws : mg "_law_draws" = some (.ref (He.ga K "_law_draws")) := He.glo_ok X G (c.fact 2 (f := .glo "_law_draws") rfl)
  have b_law_draws := F_law_draws.binds (ps := ["script", "k", "many", "base"]) fun _ _ _ _ _ _ us hl => match us, hl with | [_, _, _, _], _ => rfl
  obtain ⟨fd_law_code, F_law_code⟩ := fun_of c 2 "_law_code" s_law_code rfl (He.keep_ok (c.fact 5 (f := .keep "_law_code") rfl))
  have g_law_code : mg "_law_code" = some (.ref (He.ga K "_law_code")) := He.glo_ok X G (c.fact 4 (f := .glo "_law_code") rfl)
  have b_law_code := F_law_code.binds (ps := ["script", "at", "most_k", "most_n"]) fun _ _ _ _ _ _ us hl => match us, hl with | [_, _, _, _], _ => rfl
  obtain ⟨fd_law_deed, F_law_deed⟩ := fun_of c 3 "_law_deed" s_law_deed rfl (He.keep_ok (c.fact 7 (f := .keep "_law_deed") rfl))
  have g_law_deed : mg "_law_deed" = some (.ref (He.ga K "_law_deed")) := He.glo_ok X G (c.fact 6 (f := .glo "_law_deed") rfl)
  have b_law_deed := F_law_deed.binds (ps := ["draw", "code"]) fun _ _ _ _ _ _ us hl => match us, hl with | [_, _], _ => rfl
  obtain ⟨fd_law_later, F_law_later⟩ := fun_of c 4 "_law_later" s_law_later rfl (He.keep_ok (c.fact 9 (f := .keep "_law_later") rfl))
  have g_law_later : mg "_law_later" = some (.ref (He.ga K "_law_later")) := He.glo_ok X G (c.fact 8 (f := .glo "_law_later") rfl)
  have b_law_later := F_law_later.binds (ps := ["code", "states", "at", "deed"]) fun _ _ _ _ _ _ us hl => match us, hl with | [_, _, _, _], _ => rfl
  obtain ⟨fd_law_word, F_law_word⟩ := fun_of c 5 "_law_word" s_law_word rfl (He.keep_ok (c.fact 11 (f := .keep "_law_word") rfl))
  have g_law_word : mg "_law_word" = some (.ref (He.ga K "_law_word")) := He.glo_ok X G (c.fact 10 (f := .glo "_law_word") rfl)
  have b_law_word := F_law_word.binds (ps := ["e"]) fun _ _ _ _ _ _ us hl => match us, hl with | [_], _ => rfl
  obtain ⟨fd_law, F_law⟩ := fun_of c 6 "law" s_law rfl (He.keep_ok (c.fact 13 (f := .keep "law") rfl))
  have g_law : mg "law" = some (.ref (He.ga K "law")) := He.glo_ok X G (c.fact 12 (f := .glo "law") rfl)
  have e := hfa.symm.trans g_law
  cases e
  refine ⟨fd_law, fun s v => ?_, fun base _ _ => ?_⟩
  · obtain ⟨oc, od, kV, doc, pm, an, cdv, ct, osl, rfl, lk, hcd⟩ := F_law.ex
    exact .of_eq rfl
  have D_law_cell : Def P w K mg base "_law_cell" 1 2 .V (ap2 m_law_cell) := def_mk F_law_cell g_law_cell b_law_cell (ok_law_cell T  F_law_cell)
  have D_law_draws : Def P w K mg base "_law_draws" 2 4 .O (ap4 m_law_draws) := def_mk F_law_draws g_law_draws b_law_draws (ok_law_draws T D_law_cell F_law_draws)
  have D_law_code : Def P w K mg base "_law_code" 3 4 .V (ap4 m_law_code) := def_mk F_law_code g_law_code b_law_code (ok_law_code T D_law_draws F_law_code)
  have D_law_deed : Def P w K mg base "_law_deed" 1 2 .V (ap2 m_law_deed) := def_mk F_law_deed g_law_deed b_law_deed (ok_law_deed T  F_law_deed)
  have D_law_later : Def P w K mg base "_law_later" 1 4 .V (ap4 m_law_later) := def_mk F_law_later g_law_later b_law_later (ok_law_later T  F_law_later)
  have D_law_word : DefW P w K mg base "_law_word" 1 := defW_mk F_law_word g_law_word b_law_word (ok_law_word T F_law_word)
  have TLC : LisC K mg (He.ga K "Listener") := ⟨He.cls_ok (c.fact 14 (f := .cls "Listener") rfl), He.noat_ok (c.fact 15 (f := .noat "Listener" "code") rfl), He.noat_ok (c.fact 16 (f := .noat "Listener" "slips") rfl), He.noat_ok (c.fact 17 (f := .noat "Listener" "heard_row") rfl), He.noat_ok (c.fact 18 (f := .noat "Listener" "earlier") rfl), He.noat_ok (c.fact 19 (f := .noat "Listener" "undone") rfl), He.glo_ok X G (c.fact 20 (f := .glo "Listener") rfl)⟩
  have m_L0 := He.meth_ok (c.fact 22 (f := .meth "Listener" "__init__") rfl)
  obtain ⟨fd_L0, F_L0⟩ := fun_ofM c 7 "Listener" "__init__" "Listener.__init__" s_L0 rfl m_L0.kp
  have b_L0 := F_L0.binds (ps := ["self", "code", "slips"]) fun _ _ _ _ _ _ us hl => match us, hl with | [_, _, _], _ => rfl
  have m_L1 := He.meth_ok (c.fact 23 (f := .meth "Listener" "need_place") rfl)
  obtain ⟨fd_L1, F_L1⟩ := fun_ofM c 8 "Listener" "need_place" "Listener.need_place" s_L1 rfl m_L1.kp
  have b_L1 := F_L1.binds (ps := ["self", "number"]) fun _ _ _ _ _ _ us hl => match us, hl with | [_, _], _ => rfl
  have m_L2 := He.meth_ok (c.fact 24 (f := .meth "Listener" "put") rfl)
  obtain ⟨fd_L2, F_L2⟩ := fun_ofM c 9 "Listener" "put" "Listener.put" s_L2 rfl m_L2.kp
  have b_L2 := F_L2.binds (ps := ["self", "number", "entry"]) fun _ _ _ _ _ _ us hl => match us, hl with | [_, _, _], _ => rfl
  have m_L3 := He.meth_ok (c.fact 25 (f := .meth "Listener" "hear") rfl)
  obtain ⟨fd_L3, F_L3⟩ := fun_ofM c 10 "Listener" "hear" "Listener.hear" s_L3 rfl m_L3.kp
  have b_L3 := F_L3.binds (ps := ["self", "number", "entry"]) fun _ _ _ _ _ _ us hl => match us, hl with | [_, _, _], _ => rfl
  have m_L4 := He.meth_ok (c.fact 26 (f := .meth "Listener" "forget") rfl)
  obtain ⟨fd_L4, F_L4⟩ := fun_ofM c 11 "Listener" "forget" "Listener.forget" s_L4 rfl m_L4.kp
  have b_L4 := F_L4.binds (ps := ["self", "number"]) fun _ _ _ _ _ _ us hl => match us, hl with | [_, _], _ => rfl
  have m_L5 := He.meth_ok (c.fact 27 (f := .meth "Listener" "turned") rfl)
  obtain ⟨fd_L5, F_L5⟩ := fun_ofM c 12 "Listener" "turned" "Listener.turned" s_L5 rfl m_L5.kp
  have b_L5 := F_L5.binds (ps := ["self", "some", "others"]) fun _ _ _ _ _ _ us hl => match us, hl with | [_, _, _], _ => rfl
  have m_L6 := He.meth_ok (c.fact 28 (f := .meth "Listener" "back") rfl)
  obtain ⟨fd_L6, F_L6⟩ := fun_ofM c 13 "Listener" "back" "Listener.back" s_L6 rfl m_L6.kp
  have b_L6 := F_L6.binds (ps := ["self"]) fun _ _ _ _ _ _ us hl => match us, hl with | [_], _ => rfl
  have m_L7 := He.meth_ok (c.fact 29 (f := .meth "Listener" "again") rfl)
  obtain ⟨fd_L7, F_L7⟩ := fun_ofM c 14 "Listener" "again" "Listener.again" s_L7 rfl m_L7.kp
  have b_L7 := F_L7.binds (ps := ["self"]) fun _ _ _ _ _ _ us hl => match us, hl with | [_], _ => rfl
  have m_L8 := He.meth_ok (c.fact 30 (f := .meth "Listener" "row") rfl)
  obtain ⟨fd_L8, F_L8⟩ := fun_ofM c 15 "Listener" "row" "Listener.row" s_L8 rfl m_L8.kp
  have b_L8 := F_L8.binds (ps := ["self"]) fun _ _ _ _ _ _ us hl => match us, hl with | [_], _ => rfl
  obtain ⟨fd_law_done, F_law_done⟩ := fun_of c 16 "_law_done" s_law_done rfl (He.keep_ok (c.fact 32 (f := .keep "_law_done") rfl))
  have b_law_done := F_law_done.binds (ps := ["listener", "deed"]) fun _ _ _ _ _ _ us hl => match us, hl with | [_, _], _ => rfl
  have D_L1 : DefL P w K mg base _ "need_place" 1 _ := ⟨⟨_, fd_L1, _, ok_L1 T TLC T.x_NoPlace F_L1, m_L1, b_L1⟩⟩
  have D_L2 : DefL P w K mg base _ "put" 1 _ := ⟨⟨_, fd_L2, _, ok_L2 T TLC F_L2, m_L2, b_L2⟩⟩
  have D_L3 : DefL P w K mg base _ "hear" 2 _ := ⟨⟨_, fd_L3, _, ok_L3 T TLC T.x_NoNumber T.x_Heard D_L1 D_L2 F_L3, m_L3, b_L3⟩⟩
  have D_L4 : DefL P w K mg base _ "forget" 2 _ := ⟨⟨_, fd_L4, _, ok_L4 T TLC T.x_NotHeard D_L1 D_L2 F_L4, m_L4, b_L4⟩⟩
  have D_L5 : DefL P w K mg base _ "turned" 1 _ := ⟨⟨_, fd_L5, _, ok_L5 true T TLC T.x_NothingLeft F_L5, m_L5, b_L5⟩⟩
  have D_L5f : DefL P w K mg base _ "turned" 1 _ := ⟨⟨_, fd_L5, _, ok_L5 false T TLC T.x_NothingLeft F_L5, m_L5, b_L5⟩⟩
  have D_L6 : DefL P w K mg base _ "back" 2 _ := ⟨⟨_, fd_L6, _, ok_L6 T TLC D_L5 F_L6, m_L6, b_L6⟩⟩
  have D_L7 : DefL P w K mg base _ "again" 2 _ := ⟨⟨_, fd_L7, _, ok_L7 T TLC D_L5f F_L7, m_L7, b_L7⟩⟩
  have D_L8 : DefL P w K mg base _ "row" 1 _ := ⟨⟨_, fd_L8, _, ok_L8 T TLC T.list F_L8, m_L8, b_L8⟩⟩
  have TL : LisD P w K mg base (He.ga K "Listener") := ⟨TLC, ⟨⟨_, fd_L0, _, ok_L0 T TLC F_L0, He.mkr_ok (c.fact 21 (f := .mkr "Listener") rfl), b_L0⟩⟩, D_L8, ⟨⟨_, fd_law_done, _, ok_law_done T TLC D_law_word D_L3 D_L4 D_L6 D_L7 F_law_done, He.glo_ok X G (c.fact 31 (f := .glo "_law_done") rfl), F_law_done.kp, b_law_done⟩⟩⟩
  exact ok_law T TL D_law_code D_law_draws D_law_deed D_law_later F_law
end SC
open PySem PySem.W PySem.Calls PyProof.Rows
theorem PySem.Challenge.cw_slipcurve_k28_whole_listeners_taken_back_holds : PySem.Challenge.rw_slipcurve_k28_whole_listeners_taken_back.Holds := by
  w_on; o_law
  refine HandSHeadRun.head_any (r := OpenLaw.row PySem.Challenge.rw_slipcurve_k28_whole_listeners_taken_back) (q := view (OpenLaw.row PySem.Challenge.rw_slipcurve_k28_whole_listeners_taken_back).prog [23]) (H := SC.hk) (ob := SC.ob) (M := 4000) (loose := SC.loose) (d := HandSHeadRun.topDef (OpenLaw.row PySem.Challenge.rw_slipcurve_k28_whole_listeners_taken_back).prog 23) (kwd := []) SC.ob_eq
    (by kernel_rfl) (fun s => by kernel_rfl) SC.run (by kernel_rfl) (by kernel_rfl) (by kernel_rfl) (by rfl) (by first | assumption | decide +kernel) (by decide +kernel) ⟨rfl, rfl, rfl, rfl, rfl, by decide +kernel⟩ ?hw ?hc
  case hw => w_witness2
  case hc =>
    refine L2.walk_ofE (l := PySem.Challenge.rw_slipcurve_k28_whole_listeners_taken_back) (n := 63) (k := 4) (x := "script") (CX := L2.CX0) rfl (by decide) (by kernel_rfl) ⟨rfl, by decide, by decide⟩ ?F (fun _ _ _ _ z => z)
    intro w mg fa h Y G hmg0
    obtain ⟨K, KX, c, cw⟩ := Y
    have hmg : mg ("law" : PySem.Str) = some (.ref fa) := by
      have e : (HandSHeadRun.topDef (OpenLaw.row PySem.Challenge.rw_slipcurve_k28_whole_listeners_taken_back).prog 23).name = ("law" : PySem.Str) := by kernel_rfl
      rw [← e]
      exact hmg0
    obtain ⟨fd, hb, hF⟩ := SC.facts (P := (PySem.Challenge.rw_slipcurve_k28_whole_listeners_taken_back).prog) (w := w) KX G hmg c cw
    exact ⟨K, fd, fun vs H Q _ => DL.spD K mg 1 .V (DL.ap1 SC.m_law) vs H Q L2.E0, KX, hb, fun H a ns hl _ hS => DL.law_sp SC.law_true H a ns hl hS, fun base h1 h2 => DL.fn_cx0 (hF base h1 h2)⟩
