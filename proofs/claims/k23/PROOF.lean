import PyProof.Rows.All
import Wide.All
import OpenK.AllK
import Wide.FinOn
import HandS.ForMost
import HandS.ForExc
import HandS.HotCalls
import HandS.ExcIs
import HandS.TupAny
import HandS.Deep
import HandS.Flow
import HandS.TupMul
import HandS.IsInst
import HandS.Conv
import HandS.Style
import PyProof.ListRange
import PyProof.Rows.Range3
import KE.GoesEnum
import HandS.Zip
import KE.GoesZip
import KE.GoesMore
import HandS.SortInts
import HandS.SetFor
import KE.SortData
import KE.KDictSum
import KE.KDictCopyH
import HandS.HeadHook1
import KE.KIsAll
import KE.KDictKeyed
import KE.KeyNested
import HandS.Dict
import HandS.Iter
import PyProof.WalksMore
import PyProof.AutoSeq1
import HandS.TupSets
import PyProof.WalkInts
import HandS.DictSubView
import HandS.SortKw
import HandS.More
import KE.DataMinMax
import HandS.Wide
import HandS.Text
import HandS.TryOnly
import HandS.Call
import HandS.HeadHook3
import HandS.Codes
import PySem.Challenge.RW_slipcurve_k23_rows_that_have_many
import KE.KStateDown
import HandS.Words
import HandS.WordsExc
import HandS.Defaults
import HandS.Head0
import HandS.Head1
import HandS.Head2
import HandS.HeadEnd
set_option Elab.async false
set_option linter.all false
set_option maxRecDepth 100000
set_option maxHeartbeats 0
/-! What a program of plain data does, as a function of data: results, operations, loops. -/
namespace DL
open PySem
abbrev D := PyData
inductive Res (α : Type) where
  | ok (a : α) | exc (n : Str) | stuck
def Res.bd {α β : Type} : Res α → (α → Res β) → Res β
  | .ok a, f => f a
  | .exc n, _ => .exc n
  | .stuck, _ => .stuck
@[simp] theorem bd_ok {α β : Type} (a : α) (f : α → Res β) : (Res.ok a).bd f = f a := id rfl
@[simp] theorem bd_exc {α β : Type} (n : Str) (f : α → Res β) : (Res.exc n).bd f = .exc n := id rfl
@[simp] theorem bd_stuck {α β : Type} (f : α → Res β) : (Res.stuck).bd f = .stuck := id rfl
theorem bd_bd {α β γ : Type} (r : Res α) (f : α → Res β) (g : β → Res γ) : (r.bd f).bd g = r.bd fun a => (f a).bd g := by cases r <;> rfl
@[simp] theorem bd_ret {α : Type} (r : Res α) : (r.bd fun a => .ok a) = r := by cases r <;> rfl
inductive Ctl (S : Type) where
  | next (s : S) | ret (d : D)
/-- what follows behind a loop that may return -/
def Res.thenC {S T : Type} (r : Res (Ctl S)) (mk : D → T) (f : S → Res T) : Res T := r.bd fun | .next s => f s | .ret d => .ok (mk d)
@[simp] theorem thenC_next {S T : Type} (s : S) (mk : D → T) (f : S → Res T) : (Res.ok (Ctl.next s)).thenC mk f = f s := id rfl
@[simp] theorem thenC_ret {S T : Type} (d : D) (mk : D → T) (f : S → Res T) : (Res.ok (Ctl.ret d : Ctl S)).thenC mk f = .ok (mk d) := id rfl
/-! ### loops -/
def forN {S : Type} (body : D → S → Res S) : List D → S → Res S
  | [], s => .ok s
  | d :: ds, s => (body d s).bd fun s' => forN body ds s'
def forC {S : Type} (body : D → S → Res (Ctl S)) : List D → S → Res (Ctl S)
  | [], s => .ok (.next s)
  | d :: ds, s => (body d s).bd fun | .next s' => forC body ds s' | .ret r => .ok (.ret r)
/-! ### operations -/
def bd2 {α β γ : Type} (a : Res α) (b : Res β) (f : α → β → Res γ) : Res γ := a.bd fun x => b.bd fun y => f x y
@[simp] theorem bd2_ok {α β γ : Type} (a : α) (b : β) (f : α → β → Res γ) : bd2 (.ok a) (.ok b) f = f a b := id rfl
def fits (n : Nat) : Bool := decide (n ≤ 16777216)
def addV : D → D → Res D
  | .int i, .int j => .ok (.int (i + j))
  | .str x, .str y => if fits (x.length + y.length) then .ok (.str (x ++ y)) else .stuck
  | .tuple xs, .tuple ys => if fits (xs.length + ys.length) then .ok (.tuple (xs ++ ys)) else .stuck
  | .list xs, .list ys => if fits (xs.length + ys.length) then .ok (.list (xs ++ ys)) else .stuck
  | _, _ => .stuck
def subV : D → D → Res D
  | .int i, .int j => .ok (.int (i - j))
  | _, _ => .stuck
def small (i : Int) : Bool := decide (-(2 ^ 64) < i ∧ i < 2 ^ 64)
def fdivV : D → D → Res D
  | .int i, .int j => if decide (0 < j ∧ j < 1073741824) then .ok (.int (i / j)) else .stuck
  | _, _ => .stuck
def modV : D → D → Res D
  | .int i, .int j => if decide (0 < j) then .ok (.int (i % j)) else .stuck
  | _, _ => .stuck
def powV : D → D → Res D
  | .int i, .int j => if decide (0 ≤ j ∧ j ≤ 1000000) && small i then .ok (.int (i ^ j.toNat)) else .stuck
  | _, _ => .stuck
def negV : D → Res D
  | .int i => .ok (.int (-i))
  | _ => .stuck
def ltV : D → D → Res D
  | .int i, .int j => .ok (.bool (decide (i < j)))
  | _, _ => .stuck
def leV : D → D → Res D
  | .int i, .int j => .ok (.bool (decide (i ≤ j)))
  | _, _ => .stuck
def gtV : D → D → Res D
  | .int i, .int j => .ok (.bool (decide (j < i)))
  | _, _ => .stuck
def geV : D → D → Res D
  | .int i, .int j => .ok (.bool (decide (j ≤ i)))
  | _, _ => .stuck
def eqV (d e : D) : Res D := if SeqAt.shaped d && SeqAt.shaped e then .ok (.bool (PyData.eqv d e)) else .stuck
def neV (d e : D) : Res D := if SeqAt.shaped d && SeqAt.shaped e then .ok (.bool (!PyData.eqv d e)) else .stuck
def inV : D → D → Res D
  | d, .list ds => if SeqAt.shaped d && SeqAt.shaped (.list ds) then .ok (.bool (ds.any fun z => PyData.eqv z d)) else .stuck
  | _, _ => .stuck
def notInV : D → D → Res D
  | d, .list ds => if SeqAt.shaped d && SeqAt.shaped (.list ds) then .ok (.bool (!ds.any fun z => PyData.eqv z d)) else .stuck
  | _, _ => .stuck
def isN : D → Bool
  | .none => true
  | _ => false
def isNoneV (d : D) : Res D := .ok (.bool (isN d))
def notNoneV (d : D) : Res D := .ok (.bool (!isN d))
/-- as a test -/
def bl : D → Res Bool
  | .bool b => .ok b
  | _ => .stuck
@[simp] theorem bl_bool (b : Bool) : bl (.bool b) = .ok b := id rfl
def ixV : D → D → Res D
  | .list xs, .int i => match L2.atI xs i with | some d => .ok d | none => .stuck
  | .tuple xs, .int i => match L2.atI xs i with | some d => .ok d | none => .stuck
  | .str z, .int i => if fits z.length then (match L2.atI z.cps.toList i with | some c => .ok (.str ⟨#[c]⟩) | none => .stuck) else .stuck
  | _, _ => .stuck
def lenV : D → Res D
  | .list xs => .ok (.int xs.length)
  | .tuple xs => .ok (.int xs.length)
  | .str z => if fits z.length then .ok (.int z.length) else .stuck
  | _ => .stuck
def tupR (xs : List D) : Res D := if fits xs.length then .ok (.tuple xs) else .stuck
def lstR (xs : List D) : Res D := if fits xs.length then .ok (.list xs) else .stuck
/-- an argument list, from the left -/
def consR (a : Res D) (r : Res (List D)) : Res (List D) := a.bd fun x => r.bd fun xs => .ok (x :: xs)
@[simp] theorem consR_ok (x : D) (xs : List D) : consR (.ok x) (.ok xs) = .ok (x :: xs) := id rfl
def rangeL (a : Int) (n : Nat) : List D := (List.range n).map fun (i : Nat) => .int (a + i)
def in62 (i : Int) : Bool := decide (-(2 ^ 62) ≤ i ∧ i < 2 ^ 62)
def range1 : D → Res (List D)
  | .int n => if in62 n then .ok (rangeL 0 n.toNat) else .stuck
  | _ => .stuck
def range2 : D → D → Res (List D)
  | .int a, .int b => if in62 a && in62 b then .ok (rangeL a (b - a).toNat) else .stuck
  | _, _ => .stuck
/-- what raises within a comprehension is not told -/
def Res.nx {α : Type} : Res α → Res α
  | .ok a => .ok a
  | _ => .stuck
@[simp] theorem nx_ok {α : Type} (a : α) : (Res.ok a).nx = .ok a := id rfl
theorem nx_ns {α : Type} {r : Res α} (h : r.nx ≠ .stuck) : ∃ a, r = .ok a := by
  cases r with
  | ok a => exact ⟨a, rfl⟩
  | exc n => exact absurd rfl h
  | stuck => exact absurd rfl h
/-- a comprehension -/
def lcR (cond : D → Res Bool) (elt : D → Res D) : List D → Res (List D)
  | [] => .ok []
  | d :: ds => (cond d).nx.bd fun b => if b then consR (elt d).nx (lcR cond elt ds) else lcR cond elt ds
/-- a pair, a triple -/
def un2 {α : Type} (d : D) (f : D → D → Res α) : Res α := match d with
  | .tuple [a, b] => f a b
  | _ => .stuck
def un3 {α : Type} (d : D) (f : D → D → D → Res α) : Res α := match d with
  | .tuple [a, b, c] => f a b c
  | _ => .stuck
@[simp] theorem un2_tup {α : Type} (a b : D) (f : D → D → Res α) : un2 (.tuple [a, b]) f = f a b := id rfl
@[simp] theorem un3_tup {α : Type} (a b c : D) (f : D → D → D → Res α) : un3 (.tuple [a, b, c]) f = f a b c := id rfl
def isListV : D → Bool
  | .list _ => true
  | _ => false
def isTupV : D → Bool
  | .tuple _ => true
  | _ => false
end DL
/-! Judgements over the hand layer: what stands frozen (F) in the heap (H), slots, expressions, statements. -/
namespace DL
open PySem L2
end DL
namespace L2
open PySem
open DL (D)
/-! ### frozen parts -/
structure Ex (F H F' H' : Hp) : Prop where
  ff : Same F F'
  hh : Same H H'
  eq : ∀ a, H a ≠ none → F' a = F a
theorem Ex.refl (F H : Hp) : Ex F H F H := ⟨Same.refl _, Same.refl _, fun _ _ => rfl⟩
theorem Ex.trans {F H F1 H1 F2 H2 : Hp} (a : Ex F H F1 H1) (b : Ex F1 H1 F2 H2) : Ex F H F2 H2 := by
  refine ⟨a.ff.trans b.ff, a.hh.trans b.hh, fun p hp => ?_⟩
  have h1 : H1 p ≠ none := fun z => by
    cases q : H p with
    | none => exact hp q
    | some o => rw [a.hh p o q] at z; cases z
  rw [b.eq p h1, a.eq p hp]
theorem Same.ne {H H' : Hp} (s : Same H H') {a : Addr} (h : H a ≠ none) : H' a = H a := by
  cases q : H a with
  | none => exact absurd q h
  | some o => rw [s a o q]
theorem Same.ne' {H H' : Hp} (s : Same H H') {a : Addr} (h : H a ≠ none) : H' a ≠ none := by rw [Same.ne s h]; exact h
theorem same_upd {H : Hp} {p : Addr} {o : HO} (h : H p = none) : Same H (upd H p o) := fun a u e => by rw [upd_ne (ne_of_none e h)]; exact e
/-- a new object, frozen at once -/
theorem Ex.new {F H : Hp} {p : Addr} {o : HO} (fh : Same F H) (h : H p = none) : Ex F H (upd F p o) (upd H p o) := by
  have hf : F p = none := Same.free fh h
  refine ⟨same_upd hf, same_upd h, fun a ha => ?_⟩
  have : a ≠ p := fun z => ha (z ▸ h)
  rw [upd_ne this]
/-- .. not frozen -/
theorem Ex.newO {F H : Hp} {p : Addr} {o : HO} (h : H p = none) : Ex F H F (upd H p o) := ⟨Same.refl _, same_upd h, fun _ _ => rfl⟩
theorem same_both {F H : Hp} {p : Addr} {o : HO} (fh : Same F H) : Same (upd F p o) (upd H p o) := fun a u e => by
  by_cases ha : a = p
  · subst ha; rw [upd_same] at e ⊢; exact e
  · rw [upd_ne ha] at e ⊢; exact fh a u e
theorem Same.updO {F H : Hp} {p : Addr} {o : HO} (fh : Same F H) (h : F p = none) : Same F (upd H p o) := fun a u e => by
  rw [upd_ne (ne_of_none e h)]; exact fh a u e
theorem Same.rd {H H' : Hp} (e : Same H H') {a : Addr} {u : HO} (h : Rd H a u) : Rd H' a u := by
  rcases h with h | ⟨o, h⟩
  · exact .inl (e a _ h)
  · exact .inr ⟨o, e a _ h⟩
theorem Same.tup {K : PySem.W.Frag} {H H' : Hp} {a : Addr} {xs : List V} (e : Same H H') (h : SqT K H a xs) : SqT K H' a xs := by
  rcases h with h | h
  · exact .inl (Same.rd e h)
  · exact .inr h
mutual
theorem Dp.mono {K : PySem.W.Frag} {F F' : Hp} (s : Same F F') : ∀ (d : PyData) (v : V), Dp K F v d → Dp K F' v d
  | .none, _, h => by cases h; exact .non
  | .bool b, _, h => by cases h; exact .bl b
  | .int i, _, h => by cases h; exact .int i
  | .str x, _, h => by cases h; exact .str x
  | .list ds, _, h => by cases h with | lst a b => exact .lst (Same.seq s a) (DpAll.mono s ds _ b)
  | .tuple ds, _, h => by cases h with | tup a b => exact .tup (Same.tup s a) (DpAll.mono s ds _ b)
  | .dict _, _, h => by cases h
theorem DpAll.mono {K : PySem.W.Frag} {F F' : Hp} (s : Same F F') : ∀ (ds : List PyData) (vs : List V), DpAll K F vs ds → DpAll K F' vs ds
  | [], _, h => by cases h; exact .nil
  | d :: ds, _, h => by cases h with | cons a b => exact .cons (Dp.mono s d _ a) (DpAll.mono s ds _ b)
end
theorem DpAll.length {K : PySem.W.Frag} {F : Hp} : ∀ {vs : List V} {ds : List PyData}, DpAll K F vs ds → vs.length = ds.length
  | _, _, .nil => rfl
  | _, _, .cons _ t => by simp [DpAll.length t]
theorem DpAll.append {K : PySem.W.Frag} {F : Hp} : ∀ {vs ws : List V} {ds es : List PyData}, DpAll K F vs ds → DpAll K F ws es → DpAll K F (vs ++ ws) (ds ++ es)
  | _, _, _, _, .nil, h => h
  | _, _, _, _, .cons a t, h => .cons a (DpAll.append t h)
theorem DpAll.get {K : PySem.W.Frag} {F : Hp} : ∀ {vs : List V} {ds : List PyData} {i : Nat} {d : PyData}, DpAll K F vs ds → ds[i]? = some d → ∃ v, vs[i]? = some v ∧ Dp K F v d
  | _, _, _, _, .nil, e => by simp at e
  | _, _, 0, _, .cons a _, e => by simp at e; subst e; exact ⟨_, by simp, a⟩
  | _, _, i + 1, d, .cons _ t, e => by
    obtain ⟨v, h1, h2⟩ := DpAll.get (i := i) (d := d) t (by simpa using e)
    exact ⟨v, by simpa using h1, h2⟩
theorem DpAll.take {K : PySem.W.Frag} {F : Hp} : ∀ {vs : List V} {ds : List PyData} (n : Nat), DpAll K F vs ds → DpAll K F (vs.take n) (ds.take n)
  | _, _, 0, _ => by simpa using DpAll.nil
  | _, _, n + 1, .nil => by simpa using DpAll.nil
  | _, _, n + 1, .cons a t => by simpa using DpAll.cons a (DpAll.take n t)
theorem DpAll.drop {K : PySem.W.Frag} {F : Hp} : ∀ {vs : List V} {ds : List PyData} (n : Nat), DpAll K F vs ds → DpAll K F (vs.drop n) (ds.drop n)
  | _, _, 0, h => by simpa using h
  | _, _, n + 1, .nil => by simpa using DpAll.nil
  | _, _, n + 1, .cons _ t => by simpa using DpAll.drop n t
theorem DpAll.reverse {K : PySem.W.Frag} {F : Hp} : ∀ {vs : List V} {ds : List PyData}, DpAll K F vs ds → DpAll K F vs.reverse ds.reverse
  | _, _, .nil => by simpa using DpAll.nil
  | _, _, .cons a t => by simpa using DpAll.append (DpAll.reverse t) (.cons a .nil)
theorem DpAll.set {K : PySem.W.Frag} {F : Hp} {v : V} {d : PyData} (h : Dp K F v d) : ∀ {vs : List V} {ds : List PyData} (i : Nat), DpAll K F vs ds → DpAll K F (vs.set i v) (ds.set i d)
  | _, _, _, .nil => by simpa using DpAll.nil
  | _, _, 0, .cons _ t => by simpa using DpAll.cons h t
  | _, _, i + 1, .cons a t => by simpa using DpAll.cons a (DpAll.set h i t)
theorem DpAll.rep {K : PySem.W.Frag} {F : Hp} {vs : List V} {ds : List PyData} (h : DpAll K F vs ds) : ∀ n : Nat, DpAll K F (List.replicate n vs).flatten (List.replicate n ds).flatten
  | 0 => by simpa using DpAll.nil
  | n + 1 => by simpa [List.replicate_succ] using DpAll.append h (DpAll.rep h n)
theorem DpAll.atI {K : PySem.W.Frag} {F : Hp} {vs : List V} {ds : List PyData} {i : Int} {d : PyData} (h : DpAll K F vs ds) (e : L2.atI ds i = some d) : ∃ v, L2.atI vs i = some v ∧ Dp K F v d := by
  unfold L2.atI at e ⊢
  rw [h.length]
  cases q : ixN ds.length i with
  | none => rw [q] at e; cases e
  | some j => rw [q] at e; exact h.get e
end L2
namespace DL
open PySem L2
/-! ### slots -/
structure Cell (K : PySem.W.Frag) where
  P : Hp → Hp → Option V → List Addr → Prop
  mono : ∀ {F F' H H' : Hp} {v : Option V} {as : List Addr}, Same F F' → (∀ a ∈ as, H' a = H a) → P F H v as → P F' H' v as
  there : ∀ {F H : Hp} {v : Option V} {as : List Addr}, P F H v as → ∀ a ∈ as, H a ≠ none
def cAny {K : PySem.W.Frag} : Cell K := ⟨fun _ _ _ as => as = [], fun _ _ h => h, fun h a ha => by subst h; cases ha⟩
def cVal {K : PySem.W.Frag} (d : D) : Cell K := ⟨fun F _ v as => as = [] ∧ ∃ x, v = some x ∧ Dp K F x d, fun s _ ⟨h, x, e, p⟩ => ⟨h, x, e, Dp.mono s _ _ p⟩, fun ⟨h, _⟩ a ha => by subst h; cases ha⟩
/-- a list of one's own -/
def Own (K : PySem.W.Frag) (F H : Hp) (x : V) (as : List Addr) (ds : List D) : Prop := ∃ a xs, x = .ref a ∧ as = [a] ∧ H a = some (.lst xs) ∧ DpAll K F xs ds
theorem Own.mono {K : PySem.W.Frag} {F F' H H' : Hp} {x : V} {as : List Addr} {ds : List D} (s : Same F F') (e : ∀ a ∈ as, H' a = H a) (h : Own K F H x as ds) : Own K F' H' x as ds := by
  obtain ⟨a, xs, rfl, rfl, h1, h2⟩ := h
  exact ⟨a, xs, rfl, rfl, by rw [e a (by simp)]; exact h1, DpAll.mono s _ _ h2⟩
/-- a value; if it is a list, one's own -/
def Res1 (K : PySem.W.Frag) (F H : Hp) (x : V) (as : List Addr) (d : D) : Prop := (∃ ds, d = .list ds ∧ Own K F H x as ds) ∨ (isListV d = false ∧ as = [] ∧ Dp K F x d)
theorem Res1.mono {K : PySem.W.Frag} {F F' H H' : Hp} {x : V} {as : List Addr} {d : D} (s : Same F F') (e : ∀ a ∈ as, H' a = H a) (h : Res1 K F H x as d) : Res1 K F' H' x as d := by
  rcases h with ⟨ds, h1, h2⟩ | ⟨h1, h2, h3⟩
  · exact .inl ⟨ds, h1, h2.mono s e⟩
  · exact .inr ⟨h1, h2, Dp.mono s _ _ h3⟩
theorem Res1.there {K : PySem.W.Frag} {F H : Hp} {x : V} {as : List Addr} {d : D} (h : Res1 K F H x as d) : ∀ a ∈ as, H a ≠ none := fun a ha => by
  rcases h with ⟨ds, _, p, xs, _, h2, h3, _⟩ | ⟨_, h2, _⟩
  · subst h2
    rw [List.mem_singleton.mp ha, h3]
    exact fun z => nomatch z
  · subst h2; cases ha
def cRes {K : PySem.W.Frag} (d : D) : Cell K := ⟨fun F H v as => ∃ x, v = some x ∧ Res1 K F H x as d, fun s e ⟨x, h1, h2⟩ => ⟨x, h1, h2.mono s e⟩, fun ⟨x, _, h2⟩ => h2.there⟩
abbrev Env (K : PySem.W.Frag) := List (Cell K)
def Slots {K : PySem.W.Frag} (F H : Hp) : Env K → St → List (List Addr) → Prop
  | [], [], [] => True
  | c :: ρ, v :: σ, as :: ass => c.P F H v as ∧ Slots F H ρ σ ass
  | _, _, _ => False
structure Good {K : PySem.W.Frag} (B H0 F H : Hp) (ρ : Env K) (σ : St) : Prop where
  ex : Ex B H0 F H
  fh : Same F H
  sl : ∃ ass, Slots F H ρ σ ass ∧ ass.flatten.Nodup ∧ ∀ a ∈ ass.flatten, F a = none ∧ H0 a = none
section
variable {K : PySem.W.Frag} {B H0 F H F' H' : Hp} {ρ : Env K} {σ : St}
theorem Slots.mono : ∀ {ρ : Env K} {σ : St} {ass : List (List Addr)}, Same F F' → (∀ a ∈ ass.flatten, H' a = H a) → Slots F H ρ σ ass → Slots F' H' ρ σ ass
  | [], [], [], _, _, _ => trivial
  | c :: ρ, v :: σ, as :: ass, s, e, h => ⟨c.mono s (fun a ha => e a (by simp [ha])) h.1, Slots.mono s (fun a ha => e a (by
      rw [List.flatten_cons]; exact List.mem_append_right _ ha)) h.2⟩
  | [], _ :: _, _, _, _, h => by cases h
  | [], [], _ :: _, _, _, h => by cases h
  | _ :: _, [], _, _, _, h => by cases h
  | _ :: _, _ :: _, [], _, _, h => by cases h
theorem Slots.there : ∀ {ρ : Env K} {σ : St} {ass : List (List Addr)}, Slots F H ρ σ ass → ∀ a ∈ ass.flatten, H a ≠ none
  | [], [], [], _, a, ha => by cases ha
  | c :: ρ, v :: σ, as :: ass, h, a, ha => by
    rw [List.flatten_cons] at ha
    rcases List.mem_append.mp ha with ha | ha
    · exact c.there h.1 a ha
    · exact Slots.there h.2 a ha
  | [], _ :: _, _, h, _, _ => by cases h
  | [], [], _ :: _, h, _, _ => by cases h
  | _ :: _, [], _, h, _, _ => by cases h
  | _ :: _, _ :: _, [], h, _, _ => by cases h
theorem Slots.len : ∀ {ρ : Env K} {σ : St} {ass : List (List Addr)}, Slots F H ρ σ ass → ρ.length = σ.length ∧ σ.length = ass.length
  | [], [], [], _ => ⟨rfl, rfl⟩
  | c :: ρ, v :: σ, as :: ass, h => by
    obtain ⟨h1, h2⟩ := Slots.len h.2
    exact ⟨by simp [h1], by simp [h2]⟩
  | [], _ :: _, _, h => by cases h
  | [], [], _ :: _, h => by cases h
  | _ :: _, [], _, h => by cases h
  | _ :: _, _ :: _, [], h => by cases h
theorem Slots.get : ∀ {ρ : Env K} {σ : St} {ass : List (List Addr)} {i : Nat} {c : Cell K}, Slots F H ρ σ ass → ρ[i]? = some c → ∃ v as, σ[i]? = some v ∧ ass[i]? = some as ∧ c.P F H v as
  | c :: ρ, v :: σ, as :: ass, 0, d, h, e => by simp at e; subst e; exact ⟨v, as, rfl, rfl, h.1⟩
  | c :: ρ, v :: σ, as :: ass, i + 1, d, h, e => by
    obtain ⟨v', as', h1, h2, h3⟩ := Slots.get (i := i) (c := d) h.2 (by simpa using e)
    exact ⟨v', as', by simpa using h1, by simpa using h2, h3⟩
  | [], [], [], _, _, _, e => by simp at e
  | [], _ :: _, _, _, _, h, _ => by cases h
  | [], [], _ :: _, _, _, h, _ => by cases h
  | _ :: _, [], _, _, _, h, _ => by cases h
  | _ :: _, _ :: _, [], _, _, h, _ => by cases h
theorem Slots.set {c : Cell K} {v : Option V} {as : List Addr} : ∀ {ρ : Env K} {σ : St} {ass : List (List Addr)} {i : Nat}, Slots F H ρ σ ass → c.P F H v as → Slots F H (ρ.set i c) (σ.set i v) (ass.set i as)
  | d :: ρ, w :: σ, bs :: ass, 0, h, q => ⟨q, h.2⟩
  | d :: ρ, w :: σ, bs :: ass, i + 1, h, q => ⟨h.1, Slots.set h.2 q⟩
  | [], [], [], _, _, _ => trivial
  | [], _ :: _, _, _, h, _ => by cases h
  | [], [], _ :: _, _, h, _ => by cases h
  | _ :: _, [], _, _, h, _ => by cases h
  | _ :: _, _ :: _, [], _, h, _ => by cases h
theorem mem_flatten_set {a : Addr} : ∀ {ass : List (List Addr)} {i : Nat} {bs : List Addr}, a ∈ (ass.set i bs).flatten → a ∈ ass.flatten ∨ a ∈ bs
  | [], _, _, h => .inl h
  | cs :: ass, 0, bs, h => by
    simp only [List.set_cons_zero, List.flatten_cons, List.mem_append] at h ⊢
    rcases h with h | h
    · exact .inr h
    · exact .inl (.inr h)
  | cs :: ass, i + 1, bs, h => by
    simp only [List.set_cons_succ, List.flatten_cons, List.mem_append] at h ⊢
    rcases h with h | h
    · exact .inl (.inl h)
    · rcases mem_flatten_set h with h | h
      · exact .inl (.inr h)
      · exact .inr h
theorem nodup_flatten_set : ∀ {ass : List (List Addr)} {i : Nat} {bs : List Addr}, ass.flatten.Nodup → bs.Nodup → (∀ b ∈ bs, b ∉ ass.flatten) → (ass.set i bs).flatten.Nodup
  | [], _, _, h, _, _ => h
  | cs :: ass, 0, bs, h, hb, hn => by
    simp only [List.set_cons_zero, List.flatten_cons] at h hn ⊢
    refine List.nodup_append.mpr ⟨hb, (List.nodup_append.mp h).2.1, fun a ha b hb' e => ?_⟩
    subst e
    exact hn a ha (List.mem_append_right _ hb')
  | cs :: ass, i + 1, bs, h, hb, hn => by
    simp only [List.set_cons_succ, List.flatten_cons] at h hn ⊢
    obtain ⟨h1, h2, h3⟩ := List.nodup_append.mp h
    refine List.nodup_append.mpr ⟨h1, nodup_flatten_set h2 hb fun b hb' hm => hn b hb' (List.mem_append_right _ hm), fun a ha b hb' e => ?_⟩
    subst e
    rcases mem_flatten_set hb' with z | z
    · exact h3 a ha a z rfl
    · exact hn a z (List.mem_append_left _ ha)
/-- smaller: what slot i owned is let go -/
theorem nodup_flatten_set' : ∀ {ass : List (List Addr)} {i : Nat} {cs bs : List Addr}, ass.flatten.Nodup → ass[i]? = some cs → bs.Nodup → (∀ b ∈ bs, b ∈ cs ∨ b ∉ ass.flatten) → (ass.set i bs).flatten.Nodup
  | [], _, _, _, _, e, _, _ => by simp at e
  | cs :: ass, 0, cs', bs, h, e, hb, hn => by
    simp only [List.set_cons_zero, List.flatten_cons] at h hn ⊢
    simp at e; subst e
    refine List.nodup_append.mpr ⟨hb, (List.nodup_append.mp h).2.1, fun a ha b hb' e => ?_⟩
    subst e
    rcases hn a ha with z | z
    · exact (List.nodup_append.mp h).2.2 a z a hb' rfl
    · exact z (List.mem_append_right _ hb')
  | cs :: ass, i + 1, cs', bs, h, e, hb, hn => by
    simp only [List.set_cons_succ, List.flatten_cons] at h hn ⊢
    obtain ⟨h1, h2, h3⟩ := List.nodup_append.mp h
    have e' : ass[i]? = some cs' := by simpa using e
    refine List.nodup_append.mpr ⟨h1, nodup_flatten_set' h2 e' hb fun b hb' => ?_, fun a ha b hb' e => ?_⟩
    · rcases hn b hb' with z | z
      · exact .inl z
      · exact .inr fun hm => z (List.mem_append_right _ hm)
    · subst e
      rcases mem_flatten_set hb' with z | z
      · exact h3 a ha a z rfl
      · rcases hn a z with z | z
        · exact h3 a ha a (List.mem_flatten.mpr ⟨cs', List.mem_of_getElem? e', z⟩) rfl
        · exact z (List.mem_append_left _ ha)
/-- .. and what it owned is owned by no other slot -/
theorem not_in_set : ∀ {ass : List (List Addr)} {i : Nat} {cs bs : List Addr} {a : Addr}, ass.flatten.Nodup → ass[i]? = some cs → a ∈ cs → a ∉ bs → a ∉ (ass.set i bs).flatten
  | [], _, _, _, _, _, e, _, _ => by simp at e
  | cs :: ass, 0, cs', bs, a, h, e, ha, hb => by
    simp only [List.set_cons_zero, List.flatten_cons] at h ⊢
    simp at e; subst e
    intro hm
    rcases List.mem_append.mp hm with z | z
    · exact hb z
    · exact (List.nodup_append.mp h).2.2 a ha a z rfl
  | cs :: ass, i + 1, cs', bs, a, h, e, ha, hb => by
    simp only [List.set_cons_succ, List.flatten_cons] at h ⊢
    obtain ⟨h1, h2, h3⟩ := List.nodup_append.mp h
    have e' : ass[i]? = some cs' := by simpa using e
    intro hm
    rcases List.mem_append.mp hm with z | z
    · exact h3 a z a (List.mem_flatten.mpr ⟨cs', List.mem_of_getElem? e', ha⟩) rfl
    · exact not_in_set h2 e' ha hb z
theorem Good.go (g : Good B H0 F H ρ σ) (e : Ex F H F' H') (fh : Same F' H') : Good B H0 F' H' ρ σ := by
  obtain ⟨x, f, ass, h1, h2, h3⟩ := g
  have th := h1.there
  refine ⟨x.trans e, fh, ass, h1.mono e.ff fun a ha => Same.ne e.hh (th a ha), h2, fun a ha => ⟨?_, (h3 a ha).2⟩⟩
  rw [e.eq a (th a ha)]; exact (h3 a ha).1
/-- the same slots from another base -/
theorem Good.base (g : Good B H0 F H ρ σ) {B' H0' : Hp} (e : Ex B' H0' F H) (hn : ∀ a, H0' a ≠ none → H0 a ≠ none ∨ F a ≠ none) : Good B' H0' F H ρ σ := by
  obtain ⟨x, f, ass, h1, h2, h3⟩ := g
  refine ⟨e, f, ass, h1, h2, fun a ha => ⟨(h3 a ha).1, ?_⟩⟩
  cases q : H0' a with
  | none => rfl
  | some o =>
    rcases hn a (by rw [q]; exact fun z => nomatch z) with z | z
    · exact absurd (h3 a ha).2 z
    · exact absurd (h3 a ha).1 z
/-- slot i gets a value -/
theorem Good.set (g : Good B H0 F H ρ σ) {c : Cell K} {x : V} {as : List Addr} {i : Nat} (h : c.P F H (some x) as) (hn : as.Nodup) (ho : ∀ a ∈ as, F a = none ∧ H0 a = none ∧ ∀ ass, Slots F H ρ σ ass → a ∉ ass.flatten) : Good B H0 F H (ρ.set i c) (σ.set i (some x)) := by
  obtain ⟨e, f, ass, h1, h2, h3⟩ := g
  refine ⟨e, f, ass.set i as, h1.set h, nodup_flatten_set h2 hn fun b hb => (ho b hb).2.2 ass h1, fun a ha => ?_⟩
  rcases mem_flatten_set ha with z | z
  · exact h3 a z
  · exact ⟨(ho a z).1, (ho a z).2.1⟩
theorem Good.setV (g : Good B H0 F H ρ σ) {d : D} {x : V} {i : Nat} (h : Dp K F x d) : Good B H0 F H (ρ.set i (cVal d)) (σ.set i (some x)) :=
  g.set (as := []) (c := cVal d) ⟨rfl, x, rfl, h⟩ List.nodup_nil fun _ ha => nomatch ha
end
end DL
/-! Judgements: what an expression, a test, an argument list, a block gives, in data. -/
namespace DL
open PySem L2
/-- what every block's context keeps (calm or within an except suite) -/
class CtxB (X : Cx) (W : outParam WX) : Prop where
  tk : L2N.Takes X W
  po : PassesOwn (model X.prog X.w) X.A X.env X.xe
  nd : X.N.Nodup
  hu : X.A.units + 90 < cLine
class Ctx (X : Cx) (W : outParam WX) : Prop extends CtxB X W where
  calm : X.calm = true
/-! ### how a value stands for data -/
inductive Md where
  | V | T | O | P
class Md.NP (m : Md) : Prop where
  np : m ≠ .P
instance : Md.NP .V := ⟨nofun⟩
instance : Md.NP .T := ⟨nofun⟩
instance : Md.NP .O := ⟨nofun⟩
/-- a pair whose second one is a list -/
def isPair : D → Bool
  | .tuple [_, .list _] => true
  | _ => false
/-- a pair whose second one is a list of one's own; or another thing -/
def TupL (K : PySem.W.Frag) (F H : Hp) (x : V) (as : List Addr) (d : D) : Prop :=
  (∃ a b v1 d1 ys ds, d = .tuple [d1, .list ds] ∧ x = .ref a ∧ as = [a, b] ∧ a ≠ b ∧ H a = some (.tup [v1, .ref b]) ∧ Dp K F v1 d1 ∧ H b = some (.lst ys) ∧ DpAll K F ys ds) ∨ (isPair d = false ∧ as = [] ∧ Dp K F x d)
/-- a list's spine in H, all else frozen -/
def Tp (K : PySem.W.Frag) (F H : Hp) (v : V) (d : D) : Prop :=
  (∃ ds a xs, d = .list ds ∧ v = .ref a ∧ SqL K H a xs ∧ DpAll K F xs ds) ∨ (isListV d = false ∧ Dp K F v d)
def Acc (K : PySem.W.Frag) (m : Md) (H F' H' : Hp) (d : D) (v : V) : Prop := match m with
  | .V => Dp K F' v d
  | .T => Tp K F' H' v d
  | .O => ∃ as, Res1 K F' H' v as d ∧ ∀ a ∈ as, H a = none ∧ F' a = none
  | .P => ∃ as, TupL K F' H' v as d ∧ ∀ a ∈ as, H a = none ∧ F' a = none
section
variable {K : PySem.W.Frag} {H H1 F F' H' : Hp} {v : V} {d : D}
theorem Acc.base {m : Md} (s : Same H H1) (h : Acc K m H1 F' H' d v) : Acc K m H F' H' d v := by
  cases m with
  | V => exact h
  | T => exact h
  | O => obtain ⟨as, h1, h2⟩ := h; exact ⟨as, h1, fun a ha => ⟨Same.free s (h2 a ha).1, (h2 a ha).2⟩⟩
  | P => obtain ⟨as, h1, h2⟩ := h; exact ⟨as, h1, fun a ha => ⟨Same.free s (h2 a ha).1, (h2 a ha).2⟩⟩
theorem Dp.tp (s : Same F H) (h : Dp K F v d) : Tp K F H v d := by
  cases h with
  | lst a b => exact .inl ⟨_, _, _, rfl, rfl, Same.seq s a, b⟩
  | tup a b => exact .inr ⟨rfl, .tup a b⟩
  | non => exact .inr ⟨rfl, .non⟩
  | bl b => exact .inr ⟨rfl, .bl b⟩
  | int i => exact .inr ⟨rfl, .int i⟩
  | str x => exact .inr ⟨rfl, .str x⟩
theorem Tp.dp (s : Same F H) (h : Tp K F H v d) : Dp K H v d := by
  rcases h with ⟨ds, a, xs, rfl, rfl, h1, h2⟩ | ⟨_, h⟩
  · exact .lst h1 (DpAll.mono s _ _ h2)
  · exact Dp.mono s _ _ h
theorem Tp.go (e : Ex F H F' H') (h : Tp K F H v d) : Tp K F' H' v d := by
  rcases h with ⟨ds, a, xs, rfl, rfl, h1, h2⟩ | ⟨h0, h⟩
  · exact .inl ⟨ds, a, xs, rfl, rfl, Same.seq e.hh h1, DpAll.mono e.ff _ _ h2⟩
  · exact .inr ⟨h0, Dp.mono e.ff _ _ h⟩
theorem Res1.tp {as : List Addr} (h : Res1 K F H v as d) : Tp K F H v d := by
  rcases h with ⟨ds, rfl, a, xs, rfl, _, h1, h2⟩ | ⟨h0, _, h⟩
  · exact .inl ⟨ds, a, xs, rfl, rfl, SqL.of h1, h2⟩
  · exact .inr ⟨h0, h⟩
/-- what is owned is frozen -/
def fz (as : List Addr) (F H : Hp) : Hp := fun b => if b ∈ as then H b else F b
theorem fz_in {as : List Addr} {a : Addr} (h : a ∈ as) : fz as F H a = H a := by unfold fz; rw [if_pos h]
theorem fz_out {as : List Addr} {a : Addr} (h : a ∉ as) : fz as F H a = F a := by unfold fz; rw [if_neg h]
theorem fz_ff {as : List Addr} (hn : ∀ a ∈ as, F a = none) : Same F (fz as F H) := fun b o e => by
  rw [fz_out fun hb => by rw [hn b hb] at e; cases e]; exact e
theorem fz_fh {as : List Addr} (fh : Same F H) : Same (fz as F H) H := fun b o e => by
  by_cases hb : b ∈ as
  · rwa [fz_in hb] at e
  · rw [fz_out hb] at e; exact fh b o e
theorem Res1.fz {as : List Addr} (hn : ∀ a ∈ as, F a = none) (h : Res1 K F H v as d) : Dp K (fz as F H) v d := by
  rcases h with ⟨ds, rfl, a, xs, rfl, rfl, h1, h2⟩ | ⟨h0, rfl, h⟩
  · exact .lst (SqL.of (by rw [fz_in (by simp)]; exact h1)) (DpAll.mono (fz_ff hn) _ _ h2)
  · exact Dp.mono (fz_ff hn) _ _ h
end
/-! ### what is known behind an evaluation -/
structure Kn {α β : Type} (X : Cx) (W : WX) (F H : Hp) (σ : St) (r : Res α) (A : Hp → Hp → Hp → α → β → Prop) (Q : β → Hp → Prop) : Prop where
  ns : r ≠ .stuck
  ok : ∀ a, r = .ok a → ∀ b F' H', Ex F H F' H' → Same F' H' → A H F' H' a b → Q b H'
  xc : ∀ n, r = .exc n → ∀ H' C, X.mg n = some C → Same H H' → W C none σ H'
section
variable {X : Cx} {W : WX} {F H : Hp} {σ : St} {α β α' β' : Type}
theorem Kn.bd {r : Res α'} {f : α' → Res α} {A : Hp → Hp → Hp → α → β → Prop} {Q : β → Hp → Prop} {A1 : Hp → Hp → Hp → α' → β' → Prop} {Q1 : β' → Hp → Prop} (h : Kn X W F H σ (r.bd f) A Q)
    (hA : ∀ H H1 F' H' a b, Same H H1 → A H1 F' H' a b → A H F' H' a b)
    (hk : ∀ a b F1 H1, r = .ok a → Ex F H F1 H1 → Same F1 H1 → A1 H F1 H1 a b → Kn X W F1 H1 σ (f a) A Q → Q1 b H1) : Kn X W F H σ r A1 Q1 := by
  refine ⟨fun z => h.ns (by rw [z]; rfl), fun a e b F1 H1 x s q => hk a b F1 H1 e x s q ?_, fun n e => h.xc n (by rw [e]; rfl)⟩
  subst e
  exact ⟨h.ns, fun c e d F2 H2 y s2 q2 => h.ok c e d F2 H2 (x.trans y) s2 (hA _ _ _ _ _ _ x.hh q2), fun n e H2 C m s2 => h.xc n e H2 C m (x.hh.trans s2)⟩
theorem Kn.ret {a : α} {A : Hp → Hp → Hp → α → β → Prop} {Q : β → Hp → Prop} {b : β} {F' H' : Hp} (h : Kn X W F H σ (.ok a) A Q) (e : Ex F H F' H') (s : Same F' H') (q : A H F' H' a b) : Q b H' := h.ok a rfl b F' H' e s q
theorem Kn.of_eq {r r' : Res α} {A : Hp → Hp → Hp → α → β → Prop} {Q : β → Hp → Prop} (h : Kn X W F H σ r A Q) (e : r = r') : Kn X W F H σ r' A Q := e ▸ h
end
def aB : Hp → Hp → Hp → Bool → Bool → Prop := fun _ _ _ a b => a = b
def aL (K : PySem.W.Frag) : Hp → Hp → Hp → List D → List V → Prop := fun _ F _ ds vs => DpAll K F vs ds
structure EG (X : Cx) (W : WX) (ρ : Env X.K) (m : Md) (e : Expr) (r : Res D) : Prop where
  ex : ∃ t, PE X e t ∧ ∀ B H0 F H σ Q, Good B H0 F H ρ σ → Kn X W F H σ r (Acc X.K m) Q → t σ H Q
structure TG' (X : Cx) (W : WX) (ρ : Env X.K) (e : Expr) (r : Res Bool) : Prop where
  ex : ∃ t, PT X e t ∧ ∀ B H0 F H σ Q, Good B H0 F H ρ σ → Kn X W F H σ r aB Q → t σ H Q
structure AG (X : Cx) (W : WX) (ρ : Env X.K) (es : List Expr) (r : Res (List D)) : Prop where
  len : ∀ ds, r = .ok ds → ds.length = es.length
  ex : ∃ t, PA X es t ∧ ∀ B H0 F H σ Q, Good B H0 F H ρ σ → Kn X W F H σ r (aL X.K) Q → t σ H Q
section
variable {X : Cx} {W : WX} {ρ : Env X.K} {m : Md} {e a b : Expr} {r ra rb : Res D} {pos : Pos}
theorem aB_base (H H1 F' H' : Hp) (x y : Bool) (_ : Same H H1) (h : aB H1 F' H' x y) : aB H F' H' x y := h
theorem aL_base {K : PySem.W.Frag} (H H1 F' H' : Hp) (x : List D) (y : List V) (_ : Same H H1) (h : aL K H1 F' H' x y) : aL K H F' H' x y := h
theorem acc_base {K : PySem.W.Frag} {m : Md} (H H1 F' H' : Hp) (x : D) (y : V) (s : Same H H1) (h : Acc K m H1 F' H' x y) : Acc K m H F' H' x y := h.base s
/-! ### from one way of standing to another -/
theorem EG.vt (h : EG X W ρ .V e r) : EG X W ρ .T e r := by
  obtain ⟨t, h1, h2⟩ := h
  exact ⟨t, h1, fun B H0 F H σ Q g k => h2 B H0 F H σ Q g ⟨k.ns, fun d ed v F' H' x s q => k.ok d ed v F' H' x s (Dp.tp s q), k.xc⟩⟩
theorem EG.ot (h : EG X W ρ .O e r) : EG X W ρ .T e r := by
  obtain ⟨t, h1, h2⟩ := h
  exact ⟨t, h1, fun B H0 F H σ Q g k => h2 B H0 F H σ Q g ⟨k.ns, fun d ed v F' H' x s ⟨as, q, _⟩ => k.ok d ed v F' H' x s q.tp, k.xc⟩⟩
theorem EG.ov (h : EG X W ρ .O e r) : EG X W ρ .V e r := by
  obtain ⟨t, h1, h2⟩ := h
  refine ⟨t, h1, fun B H0 F H σ Q g k => h2 B H0 F H σ Q g ⟨k.ns, fun d ed v F' H' x s ⟨as, q, hn⟩ => ?_, k.xc⟩⟩
  have hf : ∀ a ∈ as, F' a = none := fun a ha => (hn a ha).2
  refine k.ok d ed v (fz as F' H') H' ⟨x.ff.trans (fz_ff hf), x.hh, fun a ha => ?_⟩ (fz_fh s) (q.fz hf)
  rw [fz_out fun z => ha (hn a z).1, x.eq a ha]
/-! ### names, constants -/
theorem eg_var (i : Nat) {x : Str} {pos : Pos} {d : D} (hρ : ρ[i]? = some (cVal d)) (hN : X.N[i]? = some x := by rfl) (hv : Vis X.env.scope x := by first | exact Or.inl rfl | exact Or.inr (Or.inl rfl) | exact Or.inr (Or.inr rfl)) (hd : (x == ("__debug__" : Str)) = false := by decide)
    (hcd : (x == ("__classdict__" : Str)) = false := by decide) : EG X W ρ .V (.Name x pos) (.ok d) := by
  refine ⟨_, pe_var hN hv hd hcd, fun B H0 F H σ Q g k => ?_⟩
  obtain ⟨_, fh, ass, sl, _⟩ := g
  obtain ⟨v, as, h1, _, _, y, h3, h4⟩ := sl.get hρ
  subst h3
  exact ⟨y, h1, k.ret (Ex.refl _ _) fh h4⟩
/-- a slot that owns its list, looked at -/
theorem eg_peek (i : Nat) {x : Str} {pos : Pos} {d : D} (hρ : ρ[i]? = some (cRes d)) (hN : X.N[i]? = some x := by rfl) (hv : Vis X.env.scope x := by first | exact Or.inl rfl | exact Or.inr (Or.inl rfl) | exact Or.inr (Or.inr rfl)) (hd : (x == ("__debug__" : Str)) = false := by decide)
    (hcd : (x == ("__classdict__" : Str)) = false := by decide) : EG X W ρ .T (.Name x pos) (.ok d) := by
  refine ⟨_, pe_var hN hv hd hcd, fun B H0 F H σ Q g k => ?_⟩
  obtain ⟨_, fh, ass, sl, _⟩ := g
  obtain ⟨v, as, h1, _, y, h3, h4⟩ := sl.get hρ
  subst h3
  exact ⟨y, h1, k.ret (Ex.refl _ _) fh h4.tp⟩
theorem eg_const {v : V} {d : D} (h : PE X e (tC v)) (hd : ∀ F, Dp X.K F v d) : EG X W ρ .V e (.ok d) := by
  refine ⟨_, h, fun B H0 F H σ Q g k => ?_⟩
  obtain ⟨_, fh, _⟩ := g
  exact k.ret (Ex.refl _ _) fh (hd _)
theorem eg_int {i j pos} : EG X W ρ .V (.Constant (.int i) j pos) (.ok (.int i)) := eg_const pe_int fun _ => .int i
theorem eg_bl {i j pos} : EG X W ρ .V (.Constant (.bool i) j pos) (.ok (.bool i)) := eg_const pe_bl fun _ => .bl i
theorem eg_non {j pos} : EG X W ρ .V (.Constant .none j pos) (.ok .none) := eg_const pe_non fun _ => .non
theorem eg_str {i j pos} : EG X W ρ .V (.Constant (.str i) j pos) (.ok (.str i)) := eg_const pe_str fun _ => .str i
/-! ### two operands -/
/-- an operation by values against one on data -/
def OpD (X : Cx) (W : WX) (m : Md) (rr : R2) (g : D → D → Res D) : Prop := ∀ F H σ x y d1 d2 Q, Same F H → Tp X.K F H x d1 → Tp X.K F H y d2 → Kn X W F H σ (g d1 d2) (Acc X.K m) Q → rr x y H Q
theorem two_eval {g : D → D → Res D} {rr : R2} {ta tb : TE} (hg : OpD X W m rr g)
    (ha : ∀ B H0 F H σ Q, Good B H0 F H ρ σ → Kn X W F H σ ra (Acc X.K .T) Q → ta σ H Q) (hb : ∀ B H0 F H σ Q, Good B H0 F H ρ σ → Kn X W F H σ rb (Acc X.K .T) Q → tb σ H Q) :
    ∀ B H0 F H σ Q, Good B H0 F H ρ σ → Kn X W F H σ (bd2 ra rb g) (Acc X.K m) Q → tOp rr ta tb σ H Q := fun B H0 F H σ Q gd k =>
  ha B H0 F H σ _ gd (Kn.bd k acc_base fun d1 x F1 H1 _ e1 s1 q1 k1 => hb B H0 F1 H1 σ _ (gd.go e1 s1) (Kn.bd k1 acc_base fun d2 y F2 H2 _ e2 s2 q2 k2 => hg F2 H2 σ x y d1 d2 Q s2 (Tp.go e2 q1) q2 k2))
theorem eg_op {op : Operator} {rr : R2} {g : D → D → Res D} (ho : OpR X (binaryOp op) rr) (hg : OpD X W m rr g) (ha : EG X W ρ .T a ra) (hb : EG X W ρ .T b rb) : EG X W ρ m (.BinOp a op b pos) (bd2 ra rb g) := by
  obtain ⟨ta, a1, a2⟩ := ha
  obtain ⟨tb, b1, b2⟩ := hb
  exact ⟨_, pe_op ho a1 b1, two_eval hg a2 b2⟩
theorem eg_cmp {op : CmpOp} {rr : R2} {g : D → D → Res D} (ho : OpR X (compareOp op) rr) (hg : OpD X W m rr g) (ha : EG X W ρ .T a ra) (hb : EG X W ρ .T b rb) (hm : behindInMarks op b = false) : EG X W ρ m (.Compare a [op] [b] pos) (bd2 ra rb g) := by
  obtain ⟨ta, a1, a2⟩ := ha
  obtain ⟨tb, b1, b2⟩ := hb
  exact ⟨_, pe_cmpR ho a1 b1 hm, two_eval hg a2 b2⟩
theorem tg_cmp {op : CmpOp} {rr : R2} {g : D → D → Res D} (ho : OpR X (compareOp op) rr) (hg : OpD X W .V rr g) (ha : EG X W ρ .T a ra) (hb : EG X W ρ .T b rb) (hm : behindInMarks op b = false) : TG' X W ρ (.Compare a [op] [b] pos) ((bd2 ra rb g).bd bl) := by
  obtain ⟨ta, a1, a2⟩ := ha
  obtain ⟨tb, b1, b2⟩ := hb
  refine ⟨_, pt_cmpR ho a1 b1 hm, fun B H0 F H σ Q gd k => ?_⟩
  refine two_eval hg a2 b2 B H0 F H σ _ gd (Kn.bd k aB_base fun d x F1 H1 _ e1 s1 q1 k1 => ?_)
  cases d with
  | bool c => cases q1; exact ⟨c, rfl, k1.ret (Ex.refl _ _) s1 rfl⟩
  | _ => exact absurd rfl k1.ns
/-- int, int -/
theorem opI0 {g : D → D → Res D} {f : Int → Int → V} {fd : Int → Int → D} (h1 : ∀ i j, g (.int i) (.int j) = .ok (fd i j)) (h2 : ∀ d e, (∀ i j, ¬ (d = .int i ∧ e = .int j)) → g d e = .stuck) (h3 : ∀ F i j, Dp X.K F (f i j) (fd i j)) : OpD X W .V (rI0 f) g := by
  intro F H σ x y d1 d2 Q s a b k
  cases d1 with
  | int i =>
    cases d2 with
    | int j =>
      rcases a with ⟨_, _, _, z, _⟩ | ⟨_, a⟩; cases z
      rcases b with ⟨_, _, _, z, _⟩ | ⟨_, b⟩; cases z
      cases a; cases b
      exact ⟨i, j, rfl, rfl, (k.of_eq (h1 i j)).ret (Ex.refl _ _) s (h3 _ i j)⟩
    | _ => exact absurd (h2 _ _ (by rintro i j ⟨_, z⟩; cases z)) k.ns
  | _ => exact absurd (h2 _ _ (by rintro i j ⟨z, _⟩; cases z)) k.ns
theorem opIC {C : Int → Int → Prop} {c : Int → Int → Bool} {g : D → D → Res D} {f : Int → Int → V} {fd : Int → Int → D} (hc : ∀ i j, c i j = true → C i j) (h1 : ∀ i j, g (.int i) (.int j) = if c i j then .ok (fd i j) else .stuck) (h2 : ∀ d e, (∀ i j, ¬ (d = .int i ∧ e = .int j)) → g d e = .stuck) (h3 : ∀ F i j, Dp X.K F (f i j) (fd i j)) : OpD X W .V (rI C f) g := by
  intro F H σ x y d1 d2 Q s a b k
  cases d1 with
  | int i =>
    cases d2 with
    | int j =>
      rcases a with ⟨_, _, _, z, _⟩ | ⟨_, a⟩; cases z
      rcases b with ⟨_, _, _, z, _⟩ | ⟨_, b⟩; cases z
      cases a; cases b
      cases e : c i j with
      | true => exact ⟨i, j, rfl, rfl, hc i j e, (k.of_eq ((h1 i j).trans (by rw [e]; rfl))).ret (Ex.refl _ _) s (h3 _ i j)⟩
      | false => exact absurd ((h1 i j).trans (by rw [e]; rfl)) k.ns
    | _ => exact absurd (h2 _ _ (by rintro i j ⟨_, z⟩; cases z)) k.ns
  | _ => exact absurd (h2 _ _ (by rintro i j ⟨z, _⟩; cases z)) k.ns
theorem od_sub : OpD X W .V (rI0 fun i j => .int (i - j)) subV := opI0 (fun _ _ => rfl) (fun d e h => by cases d <;> first | rfl | (cases e <;> first | rfl | exact absurd ⟨rfl, rfl⟩ (h _ _))) fun _ _ _ => .int _
theorem od_lt : OpD X W .V (rI0 fun i j => .bl (decide (i < j))) ltV := opI0 (fun _ _ => rfl) (fun d e h => by cases d <;> first | rfl | (cases e <;> first | rfl | exact absurd ⟨rfl, rfl⟩ (h _ _))) fun _ _ _ => .bl _
theorem od_le : OpD X W .V (rI0 fun i j => .bl (decide (i ≤ j))) leV := opI0 (fun _ _ => rfl) (fun d e h => by cases d <;> first | rfl | (cases e <;> first | rfl | exact absurd ⟨rfl, rfl⟩ (h _ _))) fun _ _ _ => .bl _
theorem od_gt : OpD X W .V (rI0 fun i j => .bl (decide (j < i))) gtV := opI0 (fun _ _ => rfl) (fun d e h => by cases d <;> first | rfl | (cases e <;> first | rfl | exact absurd ⟨rfl, rfl⟩ (h _ _))) fun _ _ _ => .bl _
theorem od_ge : OpD X W .V (rI0 fun i j => .bl (decide (j ≤ i))) geV := opI0 (fun _ _ => rfl) (fun d e h => by cases d <;> first | rfl | (cases e <;> first | rfl | exact absurd ⟨rfl, rfl⟩ (h _ _))) fun _ _ _ => .bl _
theorem od_fdiv : OpD X W .V (rI CDiv fun i j => .int (i / j)) fdivV := opIC (c := fun _ j => decide (0 < j ∧ j < 1073741824)) (fun _ _ h => by unfold CDiv; exact of_decide_eq_true h) (fun _ _ => rfl) (fun d e h => by cases d <;> first | rfl | (cases e <;> first | rfl | exact absurd ⟨rfl, rfl⟩ (h _ _))) fun _ _ _ => .int _
theorem od_mod : OpD X W .V (rI (fun _ j => 0 < j) fun i j => .int (i % j)) modV := opIC (c := fun _ j => decide (0 < j)) (fun _ _ h => of_decide_eq_true h) (fun _ _ => rfl) (fun d e h => by cases d <;> first | rfl | (cases e <;> first | rfl | exact absurd ⟨rfl, rfl⟩ (h _ _))) fun _ _ _ => .int _
theorem od_pow : OpD X W .V (rI CPow fun i j => .int (i ^ j.toNat)) powV := opIC (c := fun i j => decide (0 ≤ j ∧ j ≤ 1000000) && small i) (fun i j h => by
    simp only [Bool.and_eq_true, decide_eq_true_eq, small] at h
    refine ⟨h.1.1, h.1.2, ?_⟩
    have h2 := h.2
    have e : ((2 ^ 64 : Nat) : Int) = 2 ^ 64 := by decide
    omega) (fun _ _ => rfl) (fun d e h => by cases d <;> first | rfl | (cases e <;> first | rfl | exact absurd ⟨rfl, rfl⟩ (h _ _))) fun _ _ _ => .int _
end
end DL
/-! Rules: operators, displays, items, calls of built-ins, tests. -/
namespace DL
open PySem L2
section
variable {X : Cx} {W : WX} {ρ : Env X.K} {m : Md} {e a b c : Expr} {r ra rb rc : Res D} {pos : Pos}
theorem fits_le {n : Nat} (h : fits n = true) : n ≤ sizeLine := by rw [PySem.sizeLine_eq]; exact of_decide_eq_true h
/-- two lists -/
def rCatL (K : PySem.W.Frag) : R2 := fun x y H Q => ∃ a b xs ys, x = .ref a ∧ y = .ref b ∧ SqL K H a xs ∧ SqL K H b ys ∧ xs.length + ys.length ≤ sizeLine ∧ ∀ p, H p = none → Q (.ref p) (upd H p (.lst (xs ++ ys)))
theorem op_catL : OpR X (binaryOp .Add) (rCatL X.K) := by
  intro pins s σ H x y v u Q I rx ry h
  obtain ⟨l, r, xs, ys, rfl, rfl, hx, hy, hz, q⟩ := h
  cases rx
  cases ry
  obtain ⟨us, r1, p1, _⟩ := I.list hx
  obtain ⟨ws, r2, p2, _⟩ := I.list hy
  obtain ⟨⟨c1, d1, t1, s1⟩, o1, k1, n1, g1⟩ := p1.isList
  obtain ⟨⟨c2, d2, t2, s2⟩, o2, k2, n2, g2⟩ := p2.isList
  simp only at k1 g1 k2 g2
  subst k1 g1 k2 g2
  have hz' : us.toArray.size + ws.toArray.size ≤ sizeLine := by
    rw [List.size_toArray, List.size_toArray, ← r1.length, ← r2.length]; exact hz
  have new : us.toArray ++ ws.toArray = (us ++ ws).toArray := by simp
  have meet := PyProof.Rows.list_addW l r us.toArray ws.toArray n1 n2 d1 d2 s1 s2 hz'
  rw [new] at meet
  exact concat_meets ⟨_, o1, rfl⟩ ⟨_, o2, rfl⟩ noFill_list_add seq_list_add
    PySem.F.slot_list_add PySem.F.entry_list_add (PySem.F.args_list_add_2 _ _) meet
    ⟨o1, o2, ⟨.ref _, _, I.lnew (t' := s.toks) (r1.append r2) (by rw [List.length_append]; exact hz), rfl, q _ I.fresh⟩⟩
theorem tp_list {K : PySem.W.Frag} {F H : Hp} {x : V} {ds : List D} (h : Tp K F H x (.list ds)) : ∃ a xs, x = .ref a ∧ SqL K H a xs ∧ DpAll K F xs ds := by
  rcases h with ⟨ds', a, xs, e, h1, h2, h3⟩ | ⟨h0, _⟩
  · cases e; exact ⟨a, xs, h1, h2, h3⟩
  · cases h0
theorem tp_tup {K : PySem.W.Frag} {F H : Hp} {x : V} {ds : List D} (h : Tp K F H x (.tuple ds)) : ∃ a xs, x = .ref a ∧ SqT K F a xs ∧ DpAll K F xs ds := by
  rcases h with ⟨ds', a, xs, e, h1, h2, h3⟩ | ⟨_, h⟩
  · cases e
  · cases h with | tup h1 h2 => exact ⟨_, _, rfl, h1, h2⟩
theorem tp_int {K : PySem.W.Frag} {F H : Hp} {x : V} {i : Int} (h : Tp K F H x (.int i)) : x = .int i := by
  rcases h with ⟨ds', a, xs, e, _⟩ | ⟨_, h⟩
  · cases e
  · cases h; rfl
theorem tp_str {K : PySem.W.Frag} {F H : Hp} {x : V} {i : Str} (h : Tp K F H x (.str i)) : x = .str i := by
  rcases h with ⟨ds', a, xs, e, _⟩ | ⟨_, h⟩
  · cases e
  · cases h; rfl
theorem tp_bool {K : PySem.W.Frag} {F H : Hp} {x : V} {i : Bool} (h : Tp K F H x (.bool i)) : x = .bl i := by
  rcases h with ⟨ds', a, xs, e, _⟩ | ⟨_, h⟩
  · cases e
  · cases h; rfl
theorem tp_none {K : PySem.W.Frag} {F H : Hp} {x : V} (h : Tp K F H x .none) : x = .non := by
  rcases h with ⟨ds', a, xs, e, _⟩ | ⟨_, h⟩
  · cases e
  · cases h; rfl
theorem tp_dict {K : PySem.W.Frag} {F H : Hp} {x : V} {kvs} (h : Tp K F H x (.dict kvs)) : False := by
  rcases h with ⟨ds', a, xs, e, _⟩ | ⟨_, h⟩
  · cases e
  · cases h
/-- a new list made is one's own -/
theorem acc_newL {K : PySem.W.Frag} {F H : Hp} {p : Addr} {xs : List V} {ds : List D} (s : Same F H) (h : H p = none) (q : DpAll K F xs ds) : Acc K .O H F (upd H p (.lst xs)) (.list ds) (.ref p) :=
  ⟨[p], .inl ⟨ds, rfl, p, xs, rfl, rfl, upd_same, q⟩, fun a ha => by rw [List.mem_singleton.mp ha]; exact ⟨h, Same.free s h⟩⟩
theorem kn_newL {F H : Hp} {σ : St} {ds : List D} {Q : V → Hp → Prop} {p : Addr} {xs : List V} (k : Kn X W F H σ (.ok (.list ds)) (Acc X.K .O) Q) (s : Same F H) (h : H p = none) (q : DpAll X.K F xs ds) : Q (.ref p) (upd H p (.lst xs)) :=
  k.ret (Ex.newO h) (Same.updO s (Same.free s h)) (acc_newL s h q)
theorem kn_newT [N : m.NP] {F H : Hp} {σ : St} {ds : List D} {Q : V → Hp → Prop} {p : Addr} {xs : List V} (k : Kn X W F H σ (.ok (.tuple ds)) (Acc X.K m) Q) (s : Same F H) (h : H p = none) (q : DpAll X.K F xs ds) : Q (.ref p) (upd H p (.tup xs)) := by
  have d : Dp X.K (upd F p (.tup xs)) (.ref p) (.tuple ds) := .tup (SqT.of upd_same) (DpAll.mono (same_upd (Same.free s h)) _ _ q)
  refine k.ret (Ex.new s h) (same_both s) ?_
  cases m with
  | V => exact d
  | T => exact .inr ⟨rfl, d⟩
  | O => exact ⟨[], .inr ⟨rfl, rfl, d⟩, fun _ z => nomatch z⟩
  | P => exact absurd rfl N.np
/-- a value that is no list -/
theorem acc_flat [N : m.NP] {K : PySem.W.Frag} {H F' H' : Hp} {d : D} {v : V} (h : isListV d = false) (q : Dp K F' v d) : Acc K m H F' H' d v := by
  cases m with
  | V => exact q
  | T => exact .inr ⟨h, q⟩
  | O => exact ⟨[], .inr ⟨h, rfl, q⟩, fun _ z => nomatch z⟩
  | P => exact absurd rfl N.np
theorem acc_flat' {K : PySem.W.Frag} {H F' H' : Hp} {d : D} {v : V} (h : isListV d = false) (hp : isPair d = false) (q : Dp K F' v d) : Acc K m H F' H' d v := by
  cases m with
  | V => exact q
  | T => exact .inr ⟨h, q⟩
  | O => exact ⟨[], .inr ⟨h, rfl, q⟩, fun _ z => nomatch z⟩
  | P => exact ⟨[], .inr ⟨hp, rfl, q⟩, fun _ z => nomatch z⟩
theorem kn_flat [N : m.NP] {F H : Hp} {σ : St} {d : D} {Q : V → Hp → Prop} {v : V} (k : Kn X W F H σ (.ok d) (Acc X.K m) Q) (s : Same F H) (h : isListV d = false) (q : Dp X.K F v d) : Q v H := k.ret (Ex.refl _ _) s (acc_flat h q)
theorem od_add : OpD X W .O (fun x y H Q => rI0 (fun i j => .int (i + j)) x y H Q ∨ (∃ i j, x = .str i ∧ y = .str j ∧ i.length + j.length ≤ sizeLine ∧ Q (.str (i ++ j)) H) ∨ rCatA X.K x y H Q ∨ rCatL X.K x y H Q) addV := by
  intro F H σ x y d1 d2 Q s h1 h2 k
  cases d1 <;> cases d2 <;> first | exact absurd rfl k.ns | skip
  · cases tp_int h1; cases tp_int h2
    exact .inl ⟨_, _, rfl, rfl, kn_flat k s rfl (.int _)⟩
  · cases tp_str h1; cases tp_str h2
    rename_i i j
    cases e : fits (i.length + j.length) with
    | false => exact absurd (by simp [addV, e]) k.ns
    | true => exact .inr (.inl ⟨_, _, rfl, rfl, fits_le e, kn_flat (k.of_eq (r' := .ok (.str (i ++ j))) (by simp [addV, e])) s rfl (.str _)⟩)
  · rename_i ds es
    obtain ⟨a, xs, rfl, q1, q2⟩ := tp_list h1
    obtain ⟨b, ys, rfl, q3, q4⟩ := tp_list h2
    cases e : fits (ds.length + es.length) with
    | false => exact absurd (by simp [addV, e]) k.ns
    | true => exact .inr (.inr (.inr ⟨_, _, _, _, rfl, rfl, q1, q3, by rw [DpAll.length q2, DpAll.length q4]; exact fits_le e, fun p hp => kn_newL (k.of_eq (r' := .ok (.list (ds ++ es))) (by simp [addV, e])) s hp (DpAll.append q2 q4)⟩))
  · rename_i ds es
    obtain ⟨a, xs, rfl, q1, q2⟩ := tp_tup h1
    obtain ⟨b, ys, rfl, q3, q4⟩ := tp_tup h2
    cases e : fits (ds.length + es.length) with
    | false => exact absurd (by simp [addV, e]) k.ns
    | true =>
      have k' := k.of_eq (r' := .ok (.tuple (ds ++ es))) (by simp [addV, e])
      have l1 := DpAll.length q2
      have l2 := DpAll.length q4
      refine .inr (.inr (.inl ⟨_, _, _, _, rfl, rfl, Same.tup s q1, Same.tup s q3, by rw [l1, l2]; exact fits_le e, fun z => ?_, fun _ z => ?_, fun _ _ p hp => kn_newT k' s hp (DpAll.append q2 q4)⟩))
      · subst z
        have : ds = [] := List.eq_nil_of_length_eq_zero l1.symm
        subst this
        exact kn_flat k' s rfl (.tup q3 q4)
      · subst z
        have : es = [] := List.eq_nil_of_length_eq_zero l2.symm
        subst this
        rw [List.append_nil] at k'
        exact kn_flat k' s rfl (.tup q1 q2)
theorem op_addAll : OpR X (binaryOp .Add) (fun x y H Q => rI0 (fun i j => .int (i + j)) x y H Q ∨ (∃ i j, x = .str i ∧ y = .str j ∧ i.length + j.length ≤ sizeLine ∧ Q (.str (i ++ j)) H) ∨ rCatA X.K x y H Q ∨ rCatL X.K x y H Q) := op_add.or (op_add_str.or (op_catA.or op_catL))
theorem eg_add (ha : EG X W ρ .T a ra) (hb : EG X W ρ .T b rb) : EG X W ρ .O (.BinOp a .Add b pos) (bd2 ra rb addV) := eg_op op_addAll od_add ha hb
theorem eg_sub (ha : EG X W ρ .T a ra) (hb : EG X W ρ .T b rb) : EG X W ρ .V (.BinOp a .Sub b pos) (bd2 ra rb subV) := eg_op op_sub od_sub ha hb
def mulI : D → D → Res D
  | .int i, .int j => if small i || small j then .ok (.int (i * j)) else .stuck
  | _, _ => .stuck
theorem od_mulI' : OpD X W .V (rI CMul fun i j => .int (i * j)) mulI := opIC (c := fun i j => small i || small j) (fun i j h => by
    rcases Bool.or_eq_true _ _ ▸ h with h | h
    · exact .inl (of_decide_eq_true h)
    · exact .inr (of_decide_eq_true h)) (fun _ _ => rfl) (fun d e h => by cases d <;> first | rfl | (cases e <;> first | rfl | exact absurd ⟨rfl, rfl⟩ (h _ _))) fun _ _ _ => .int _
theorem eg_mul (ha : EG X W ρ .T a ra) (hb : EG X W ρ .T b rb) : EG X W ρ .V (.BinOp a .Mult b pos) (bd2 ra rb mulI) := eg_op op_mul od_mulI' ha hb
theorem eg_fdiv (ha : EG X W ρ .T a ra) (hb : EG X W ρ .T b rb) : EG X W ρ .V (.BinOp a .FloorDiv b pos) (bd2 ra rb fdivV) := eg_op op_fdiv od_fdiv ha hb
theorem eg_mod (ha : EG X W ρ .T a ra) (hb : EG X W ρ .T b rb) : EG X W ρ .V (.BinOp a .Mod b pos) (bd2 ra rb modV) := eg_op op_mod od_mod ha hb
theorem eg_pow (ha : EG X W ρ .T a ra) (hb : EG X W ρ .T b rb) : EG X W ρ .V (.BinOp a .Pow b pos) (bd2 ra rb powV) := eg_op op_pow od_pow ha hb
theorem eg_neg (ha : EG X W ρ .T a ra) : EG X W ρ .V (.UnaryOp .USub a pos) (ra.bd negV) := by
  obtain ⟨ta, a1, a2⟩ := ha
  refine ⟨_, pe_un un_neg a1, fun B H0 F H σ Q gd k => a2 B H0 F H σ _ gd (Kn.bd k acc_base fun d x F1 H1 _ e1 s1 q1 k1 => ?_)⟩
  cases d <;> first | exact absurd rfl k1.ns | skip
  cases tp_int q1
  exact ⟨_, rfl, kn_flat k1 s1 rfl (.int _)⟩
/-- a list display times a number -/
def repV : D → D → Res D
  | .list xs, .int k => if decide (-(2 ^ 63) ≤ k ∧ k < 2 ^ 63) && fits (xs.length * k.toNat) then .ok (.list (List.replicate k.toNat xs).flatten) else .stuck
  | _, _ => .stuck
theorem eg_rep (ha : EG X W ρ .O a ra) (hb : EG X W ρ .T b rb) : EG X W ρ .O (.BinOp a .Mult b pos) (bd2 ra rb repV) := by
  obtain ⟨ta, a1, a2⟩ := ha
  obtain ⟨tb, b1, b2⟩ := hb
  refine ⟨_, pe_op op_rep a1 b1, fun B H0 F H σ Q gd k => a2 B H0 F H σ _ gd (Kn.bd k acc_base fun d1 x F1 H1 z1 e1 s1 q1 k1 => b2 B H0 F1 H1 σ _ (gd.go e1 s1) (Kn.bd k1 acc_base fun d2 y F2 H2 z2 e2 s2 q2 k2 => ?_))⟩
  clear z1 z2
  cases d1 <;> first | exact absurd rfl k2.ns | skip
  cases d2 <;> first | exact absurd rfl k2.ns | skip
  rename_i ds n
  cases tp_int q2
  obtain ⟨as, h1, h2⟩ := q1
  rcases h1 with ⟨_, z, p, xs, rfl, rfl, h3, h4⟩ | ⟨z, _⟩
  · cases z
    cases c : (decide (-(2 ^ 63) ≤ n ∧ n < 2 ^ 63) && fits (ds.length * n.toNat)) with
    | false => exact absurd (by simp only [repV]; rw [c]; rfl) k2.ns
    | true =>
      have k3 := k2.of_eq (r' := .ok (.list (List.replicate n.toNat ds).flatten)) (by simp only [repV]; rw [c]; rfl)
      simp only [Bool.and_eq_true, decide_eq_true_eq] at c
      refine ⟨p, n, xs, rfl, rfl, e2.hh _ _ h3, c.1.1, c.1.2, by rw [DpAll.length h4]; exact fits_le c.2, fun q hq => kn_newL k3 s2 hq (DpAll.rep (DpAll.mono e2.ff _ _ h4) _)⟩
  · cases z
/-! ### comparisons -/
theorem op_eqT [C : CtxB X W] : OpR X (compareOp .Eq) (rEqD X.K) := op_eqD (by have := C.hu; omega)
theorem od_eq : OpD X W .V (rEqD X.K) eqV := by
  intro F H σ x y d1 d2 Q s h1 h2 k
  cases c : (SeqAt.shaped d1 && SeqAt.shaped d2) with
  | false => exact absurd (by unfold eqV; rw [c]; rfl) k.ns
  | true =>
    have k3 := k.of_eq (r' := .ok (.bool (PyData.eqv d1 d2))) (by unfold eqV; rw [c]; rfl)
    rw [Bool.and_eq_true] at c
    exact ⟨d1, d2, Tp.dp s h1, Tp.dp s h2, c.1, c.2, kn_flat k3 s rfl (.bl _)⟩
theorem od_ne : OpD X W .V (rNeD X.K) neV := by
  intro F H σ x y d1 d2 Q s h1 h2 k
  cases c : (SeqAt.shaped d1 && SeqAt.shaped d2) with
  | false => exact absurd (by unfold neV; rw [c]; rfl) k.ns
  | true =>
    have k3 := k.of_eq (r' := .ok (.bool (!PyData.eqv d1 d2))) (by unfold neV; rw [c]; rfl)
    rw [Bool.and_eq_true] at c
    exact ⟨d1, d2, Tp.dp s h1, Tp.dp s h2, c.1, c.2, kn_flat k3 s rfl (.bl _)⟩
theorem op_neT [C : CtxB X W] : OpR X (compareOp .NotEq) (rNeD X.K) := op_neD (by have := C.hu; omega)
theorem op_inT [C : CtxB X W] : OpR X (compareOp .In) (rInD X.K) := op_inD (by have := C.hu; omega)
theorem od_in : OpD X W .V (rInD X.K) inV := by
  intro F H σ x y d1 d2 Q s h1 h2 k
  have nl : isListV d2 = false → False := fun z => k.ns (by cases d2 <;> first | cases z; done | (cases d1 <;> rfl))
  cases d2 <;> first | exact (nl rfl).elim | skip
  rename_i ds
  cases c : (SeqAt.shaped d1 && SeqAt.shaped (.list ds)) with
  | false => exact absurd (by unfold inV; cases d1 <;> (simp only; rw [c]; rfl)) k.ns
  | true =>
    have k3 := k.of_eq (r' := .ok (.bool (ds.any fun z => PyData.eqv z d1))) (by unfold inV; cases d1 <;> (simp only; rw [c]; rfl))
    rw [Bool.and_eq_true] at c
    exact ⟨d1, ds, Tp.dp s h1, Tp.dp s h2, c.1, c.2, kn_flat k3 s rfl (.bl _)⟩
theorem od_notN {y0 : D} (hy : y0 = .none) : OpD X W .V (fun x y H Q => y = .non ∧ Q (.bl (!decide (x = .non))) H) (fun d e => if isN e then notNoneV d else .stuck) := by
  intro F H σ x y d1 d2 Q s h1 h2 k
  cases d2 <;> first | exact absurd rfl k.ns | skip
  refine ⟨tp_none h2, kn_flat k s rfl ?_⟩
  have : decide (x = .non) = isN d1 := by
    cases d1 <;> first
      | (cases tp_none h1; rfl) | (cases tp_bool h1; rfl) | (cases tp_int h1; rfl) | (cases tp_str h1; rfl)
      | (obtain ⟨_, _, rfl, _⟩ := tp_list h1; rfl) | (obtain ⟨_, _, rfl, _⟩ := tp_tup h1; rfl) | exact (tp_dict h1).elim
  rw [this]; exact .bl _
/-- which comparison, by its sign: all in one -/
structure CmpD (X : Cx) (W : WX) (op : CmpOp) (g : D → D → Res D) : Prop where
  ex : ∃ rr, OpR X (compareOp op) rr ∧ OpD X W .V rr g
theorem c_lt : CmpD X W .Lt ltV := ⟨_, op_lt, od_lt⟩
theorem c_le : CmpD X W .LtE leV := ⟨_, op_le, od_le⟩
theorem c_gt : CmpD X W .Gt gtV := ⟨_, op_gt, od_gt⟩
theorem c_ge : CmpD X W .GtE geV := ⟨_, op_ge, od_ge⟩
theorem c_eq [CtxB X W] : CmpD X W .Eq eqV := ⟨_, op_eqT, od_eq⟩
theorem c_ne [CtxB X W] : CmpD X W .NotEq neV := ⟨_, op_neT, od_ne⟩
theorem c_in [CtxB X W] : CmpD X W .In inV := ⟨_, op_inT, od_in⟩
theorem c_notN : CmpD X W .IsNot (fun d e => if isN e then notNoneV d else .stuck) := ⟨_, op_notN, od_notN rfl⟩
theorem eg_cp {op : CmpOp} {g : D → D → Res D} (h : CmpD X W op g) (ha : EG X W ρ .T a ra) (hb : EG X W ρ .T b rb) (hm : behindInMarks op b = false := by rfl) : EG X W ρ .V (.Compare a [op] [b] pos) (bd2 ra rb g) := by
  obtain ⟨rr, h1, h2⟩ := h
  exact eg_cmp h1 h2 ha hb hm
theorem tg_cp {op : CmpOp} {g : D → D → Res D} (h : CmpD X W op g) (ha : EG X W ρ .T a ra) (hb : EG X W ρ .T b rb) (hm : behindInMarks op b = false := by rfl) : TG' X W ρ (.Compare a [op] [b] pos) ((bd2 ra rb g).bd bl) := by
  obtain ⟨rr, h1, h2⟩ := h
  exact tg_cmp h1 h2 ha hb hm
/-- a op b op' c -/
def chV (g g' : D → D → Res D) (ra rb rc : Res D) : Res D := ra.bd fun x => rb.bd fun y => (g x y).bd fun z => (bl z).bd fun k => if k then rc.bd fun w => g' y w else .ok (.bool false)
theorem chain_eval {op op' : CmpOp} {rr rr' : R2} {g g' : D → D → Res D} {ta tb tc : TE} (h2 : OpD X W .V rr g) (h2' : OpD X W .V rr' g')
    (ha : ∀ B H0 F H σ Q, Good B H0 F H ρ σ → Kn X W F H σ ra (Acc X.K .T) Q → ta σ H Q) (hb : ∀ B H0 F H σ Q, Good B H0 F H ρ σ → Kn X W F H σ rb (Acc X.K .T) Q → tb σ H Q)
    (hc : ∀ B H0 F H σ Q, Good B H0 F H ρ σ → Kn X W F H σ rc (Acc X.K .T) Q → tc σ H Q) : ∀ B H0 F H σ Q, Good B H0 F H ρ σ → Kn X W F H σ (chV g g' ra rb rc) (Acc X.K .V) Q → tChain rr rr' ta tb tc σ H Q := fun B H0 F H σ Q gd k => by
  refine ha B H0 F H σ _ gd (Kn.bd k acc_base fun d1 x F1 H1 _ e1 s1 q1 k1 => hb B H0 F1 H1 σ _ (gd.go e1 s1) (Kn.bd k1 acc_base fun d2 y F2 H2 _ e2 s2 q2 k2 => ?_))
  refine h2 F2 H2 σ x y d1 d2 _ s2 (Tp.go e2 q1) q2 (Kn.bd k2 acc_base fun z v F3 H3 _ e3 s3 q3 k3 => ?_)
  cases z with
  | bool c =>
    cases q3
    refine ⟨c, rfl, ?_⟩
    have k4 := k3.of_eq (r' := if c then rc.bd fun w => g' d2 w else .ok (.bool false)) rfl
    cases c with
    | true =>
      rw [if_pos rfl] at k4 ⊢
      refine hc B H0 F3 H3 σ _ ((gd.go e1 s1).go (e2.trans e3) s3) (Kn.bd k4 acc_base fun d3 w F4 H4 _ e4 s4 q4 k5 => h2' F4 H4 σ y w d2 d3 _ s4 (Tp.go (e3.trans e4) q2) q4 k5)
    | false =>
      rw [if_neg Bool.false_ne_true] at k4 ⊢
      exact kn_flat k4 s3 rfl (.bl _)
  | _ => exact absurd rfl k3.ns
theorem eg_chain {op op' : CmpOp} {g g' : D → D → Res D} (h : CmpD X W op g) (h' : CmpD X W op' g') (ha : EG X W ρ .T a ra) (hb : EG X W ρ .T b rb) (hc : EG X W ρ .T c rc) (hm : lastMarks [op, op'] [b, c] = false := by with_unfolding_all rfl) :
    EG X W ρ .V (.Compare a [op, op'] [b, c] pos) (chV g g' ra rb rc) := by
  obtain ⟨rr, h1, h2⟩ := h
  obtain ⟨rr', h1', h2'⟩ := h'
  obtain ⟨ta, a1, a2⟩ := ha
  obtain ⟨tb, b1, b2⟩ := hb
  obtain ⟨tc, c1, c2⟩ := hc
  exact ⟨_, pe_chain h1 h1' a1 b1 c1 hm, chain_eval (op := op) (op' := op') h2 h2' a2 b2 c2⟩
end
end DL
/-! Rules: arguments, displays, items, calls, truth, what is walked, comprehensions. -/
namespace DL
open PySem L2
section
variable {X : Cx} {W : WX} {ρ : Env X.K} {m : Md} {e a b c : Expr} {es : List Expr} {r ra rb rc : Res D} {rs : Res (List D)} {pos p : Pos}
/-! ### arguments, displays -/
theorem ag_nil : AG X W ρ [] (.ok []) := ⟨(fun ds e => by cases e; rfl), _, pa_nil, fun B H0 F H σ Q g k => k.ret (Ex.refl _ _) g.fh .nil⟩
theorem ag_cons (ha : EG X W ρ .V e r) (hr : AG X W ρ es rs) (hs : starEach (e :: es) X.env = (false, eval e X.env) :: starEach es X.env := by rfl) : AG X W ρ (e :: es) (consR r rs) := by
  obtain ⟨ta, a1, a2⟩ := ha
  obtain ⟨bl, tb, b1, b2⟩ := hr
  refine ⟨(fun ds e => by
    cases r with
    | ok x =>
      cases rs with
      | ok xs => cases e; simp [bl xs rfl]
      | exc n => cases e
      | stuck => cases e
    | exc n => cases e
    | stuck => cases e), _, pa_cons a1 b1 hs, fun B H0 F H σ Q gd k => a2 B H0 F H σ _ gd (Kn.bd k aL_base fun d1 x F1 H1 _ e1 s1 q1 k1 => b2 B H0 F1 H1 σ _ (gd.go e1 s1) (Kn.bd k1 aL_base fun d2 y F2 H2 _ e2 s2 q2 k2 => ?_))⟩
  exact k2.ret (Ex.refl _ _) s2 (.cons (Dp.mono e2.ff _ _ q1) q2)
theorem eg_tup [N : m.NP] {x1} (h : AG X W ρ es rs) : EG X W ρ m (.Tuple es x1 pos) (rs.bd tupR) := by
  obtain ⟨_, ta, a1, a2⟩ := h
  refine ⟨_, pe_tup a1, fun B H0 F H σ Q gd k => a2 B H0 F H σ _ gd (Kn.bd k acc_base fun ds vs F1 H1 _ e1 s1 q1 k1 => ?_)⟩
  cases c : fits ds.length with
  | false => exact absurd (by simp [tupR, c]) k1.ns
  | true =>
    have k2 := k1.of_eq (r' := .ok (.tuple ds)) (by simp [tupR, c])
    exact ⟨by rw [DpAll.length q1]; exact fits_le c, fun q hq => kn_newT k2 s1 hq q1⟩
theorem eg_lst (h : AG X W ρ es rs) : EG X W ρ .O (.List es pos) (rs.bd lstR) := by
  obtain ⟨_, ta, a1, a2⟩ := h
  refine ⟨_, pe_lst a1, fun B H0 F H σ Q gd k => a2 B H0 F H σ _ gd (Kn.bd k acc_base fun ds vs F1 H1 _ e1 s1 q1 k1 => ?_)⟩
  cases c : fits ds.length with
  | false => exact absurd (by simp [lstR, c]) k1.ns
  | true =>
    have k2 := k1.of_eq (r' := .ok (.list ds)) (by simp [lstR, c])
    exact ⟨by rw [DpAll.length q1]; exact fits_le c, fun q hq => kn_newL k2 s1 hq q1⟩
/-! ### items -/
theorem eg_ix (ha : EG X W ρ .T a ra) (hb : EG X W ρ .T b rb) (hs : PlainIx b := by exact fun _ _ => rfl) : EG X W ρ .V (.Subscript a b pos) (bd2 ra rb ixV) := by
  obtain ⟨ta, a1, a2⟩ := ha
  obtain ⟨tb, b1, b2⟩ := hb
  refine ⟨_, pe_ix ix_seq a1 b1 hs, two_eval (m := .V) ?_ a2 b2⟩
  intro F H σ x y d1 d2 Q s h1 h2 k
  cases d1 <;> cases d2 <;> first | exact absurd rfl k.ns | skip
  · cases tp_str h1; cases tp_int h2
    rename_i z i
    cases c : fits z.length with
    | false => exact absurd (by simp [ixV, c]) k.ns
    | true =>
      cases c2 : L2.atI z.cps.toList i with
      | none => exact absurd (by simp [ixV, c, c2]) k.ns
      | some ch => exact .inr (.inr ⟨_, _, ch, rfl, rfl, fits_le c, c2, kn_flat (k.of_eq (r' := .ok (.str ⟨#[ch]⟩)) (by simp [ixV, c, c2])) s rfl (.str _)⟩)
  · rename_i ds i
    obtain ⟨a, xs, rfl, q1, q2⟩ := tp_list h1
    cases tp_int h2
    cases c2 : L2.atI ds i with
    | none => exact absurd (by simp [ixV, c2]) k.ns
    | some d =>
      obtain ⟨v, h3, h4⟩ := DpAll.atI q2 c2
      exact .inl ⟨_, _, _, v, rfl, rfl, q1, h3, (k.of_eq (r' := .ok d) (by simp [ixV, c2])).ret (Ex.refl _ _) s h4⟩
  · rename_i ds i
    obtain ⟨a, xs, rfl, q1, q2⟩ := tp_tup h1
    cases tp_int h2
    cases c2 : L2.atI ds i with
    | none => exact absurd (by simp [ixV, c2]) k.ns
    | some d =>
      obtain ⟨v, h3, h4⟩ := DpAll.atI q2 c2
      exact .inr (.inl ⟨_, _, _, v, rfl, rfl, Same.tup s q1, h3, (k.of_eq (r' := .ok d) (by simp [ixV, c2])).ret (Ex.refl _ _) s h4⟩)
/-! ### calls of built-ins -/
/-- one argument, by values against data -/
structure C1D (X : Cx) (W : WX) (f : Value) (m : Md) (g : D → Res D) : Prop where
  ex : ∃ r, CallR X f r ∧ ∀ F H σ x d Q, Same F H → Tp X.K F H x d → Kn X W F H σ (g d) (Acc X.K m) Q → r [x] H Q
theorem eg_cB1 {x : Str} {id : String} {g : D → Res D} (h : C1D X W (.builtin id) m g) (ha : EG X W ρ .T a ra) (hm : X.mg x = none) (hv : bootBuiltins x = some (.builtin id)) (hg : Gl X x := by rfl) (hn : x ≠ "__name__" := by decide) (hdb : (x == ("__debug__" : Str)) = false := by decide)
    (he : starEach [a] X.env = (false, eval a X.env) :: starEach [] X.env := by rfl) (hpl : (backTo pos (starEach [] X.env)).any (·.1) = false := by rfl) : EG X W ρ m (.Call (.Name x p) [a] [] pos) (ra.bd g) := by
  obtain ⟨rr, h1, h2⟩ := h
  obtain ⟨ta, a1, a2⟩ := ha
  exact ⟨_, pe_callB h1 hg hm hv (pa_cons a1 pa_nil he) hn hdb he hpl, fun B H0 F H σ Q gd k => a2 B H0 F H σ _ gd (Kn.bd k acc_base fun d v F1 H1 _ e1 s1 q1 k1 => h2 F1 H1 σ v d Q s1 q1 k1)⟩
theorem eg_cT1 {x : Str} {id : String} {g : D → Res D} (h : C1D X W (.type id) m g) (ha : EG X W ρ .T a ra) (hm : X.mg x = none) (hv : bootBuiltins x = some (.type id)) (hg : Gl X x := by rfl) (hn : x ≠ "__name__" := by decide) (hdb : (x == ("__debug__" : Str)) = false := by decide)
    (he : starEach [a] X.env = (false, eval a X.env) :: starEach [] X.env := by rfl) (hpl : (backTo pos (starEach [] X.env)).any (·.1) = false := by rfl) : EG X W ρ m (.Call (.Name x p) [a] [] pos) (ra.bd g) := by
  obtain ⟨rr, h1, h2⟩ := h
  obtain ⟨ta, a1, a2⟩ := ha
  exact ⟨_, pe_callTy h1 hg hm hv (pa_cons a1 pa_nil he) hn hdb he hpl, fun B H0 F H σ Q gd k => a2 B H0 F H σ _ gd (Kn.bd k acc_base fun d v F1 H1 _ e1 s1 q1 k1 => h2 F1 H1 σ v d Q s1 q1 k1)⟩
/-- two arguments -/
structure C2D (X : Cx) (W : WX) (f : Value) (m : Md) (g : D → D → Res D) : Prop where
  ex : ∃ r, CallR X f r ∧ ∀ F H σ x y d e Q, Same F H → Tp X.K F H x d → Tp X.K F H y e → Kn X W F H σ (g d e) (Acc X.K m) Q → r [x, y] H Q
theorem eg_cB2 {x : Str} {id : String} {g : D → D → Res D} (h : C2D X W (.builtin id) m g) (ha : EG X W ρ .T a ra) (hb : EG X W ρ .T b rb) (hm : X.mg x = none) (hv : bootBuiltins x = some (.builtin id)) (hg : Gl X x := by rfl) (hn : x ≠ "__name__" := by decide) (hdb : (x == ("__debug__" : Str)) = false := by decide)
    (he : starEach [a, b] X.env = (false, eval a X.env) :: starEach [b] X.env := by rfl) (he2 : starEach [b] X.env = (false, eval b X.env) :: starEach [] X.env := by rfl) (hpl : (backTo pos (starEach [b] X.env)).any (·.1) = false := by rfl) : EG X W ρ m (.Call (.Name x p) [a, b] [] pos) (bd2 ra rb g) := by
  obtain ⟨rr, h1, h2⟩ := h
  obtain ⟨ta, a1, a2⟩ := ha
  obtain ⟨tb, b1, b2⟩ := hb
  exact ⟨_, pe_callB h1 hg hm hv (pa_cons a1 (pa_cons b1 pa_nil he2) he) hn hdb he hpl, fun B H0 F H σ Q gd k => a2 B H0 F H σ _ gd (Kn.bd k acc_base fun d v F1 H1 _ e1 s1 q1 k1 => b2 B H0 F1 H1 σ _ (gd.go e1 s1) (Kn.bd k1 acc_base fun d2 y F2 H2 _ e2 s2 q2 k2 => h2 F2 H2 σ v y d d2 Q s2 (Tp.go e2 q1) q2 k2))⟩
theorem b_len : C1D X W (.builtin "len") .V lenV := by
  refine ⟨_, call_len_seq.or call_len_str, fun F H σ x d Q s h k => ?_⟩
  cases d <;> first | exact absurd rfl k.ns | skip
  · cases tp_str h
    rename_i z
    cases c : fits z.length with
    | false => exact absurd (by simp [lenV, c]) k.ns
    | true => exact .inr ⟨z, rfl, fits_le c, kn_flat (k.of_eq (r' := .ok (.int z.length)) (by simp [lenV, c])) s rfl (.int _)⟩
  · obtain ⟨a, xs, rfl, q1, q2⟩ := tp_list h
    exact .inl ⟨a, xs, rfl, .inl q1, kn_flat k s rfl (by rw [DpAll.length q2]; exact .int _)⟩
  · obtain ⟨a, xs, rfl, q1, q2⟩ := tp_tup h
    exact .inl ⟨a, xs, rfl, .inr (Same.tup s q1), kn_flat k s rfl (by rw [DpAll.length q2]; exact .int _)⟩
def listV : D → Res D
  | .list xs => .ok (.list xs)
  | .tuple xs => .ok (.list xs)
  | _ => .stuck
theorem b_list : C1D X W (.type "list") .O listV := by
  refine ⟨_, call_list_of, fun F H σ x d Q s h k => ?_⟩
  cases d <;> first | exact absurd rfl k.ns | skip
  · obtain ⟨a, xs, rfl, q1, q2⟩ := tp_list h
    exact ⟨a, xs, rfl, .inl q1, fun l hl => kn_newL k s hl q2⟩
  · obtain ⟨a, xs, rfl, q1, q2⟩ := tp_tup h
    exact ⟨a, xs, rfl, .inr (Same.tup s q1), fun l hl => kn_newL k s hl q2⟩
def tupleV : D → Res D
  | .list xs => .ok (.tuple xs)
  | .tuple xs => .ok (.tuple xs)
  | _ => .stuck
theorem b_tuple : C1D X W (.type "tuple") .V tupleV := by
  refine ⟨_, call_tuple_of, fun F H σ x d Q s h k => ?_⟩
  cases d <;> first | exact absurd rfl k.ns | skip
  · obtain ⟨a, xs, rfl, q1, q2⟩ := tp_list h
    exact ⟨a, xs, rfl, .inl ⟨q1, fun l hl => kn_newT k s hl q2⟩⟩
  · obtain ⟨a, xs, rfl, q1, q2⟩ := tp_tup h
    exact ⟨a, xs, rfl, .inr ⟨Same.tup s q1, kn_flat k s rfl (.tup q1 q2)⟩⟩
def intV : D → Res D
  | .int i => .ok (.int i)
  | .bool b => .ok (.int (if b then 1 else 0))
  | _ => .stuck
theorem b_int : C1D X W (.type "int") .V intV := by
  refine ⟨_, call_int1, fun F H σ x d Q s h k => ?_⟩
  cases d <;> first | exact absurd rfl k.ns | skip
  · cases tp_bool h; exact .inr ⟨_, rfl, kn_flat k s rfl (.int _)⟩
  · cases tp_int h; exact .inl ⟨_, rfl, kn_flat k s rfl (.int _)⟩
def max2V : D → D → Res D
  | .int i, .int j => .ok (.int (if j > i then j else i))
  | _, _ => .stuck
def min2V : D → D → Res D
  | .int i, .int j => .ok (.int (if j < i then j else i))
  | _, _ => .stuck
theorem b_min2 [C : Ctx X W] : C2D X W (.builtin "min") .V min2V := by
  refine ⟨_, call_min2 C.calm, fun F H σ x y d e Q s h1 h2 k => ?_⟩
  cases d <;> cases e <;> first | exact absurd rfl k.ns | skip
  cases tp_int h1; cases tp_int h2
  exact ⟨_, _, rfl, kn_flat k s rfl (.int _)⟩
/-- the ints of a list -/
def intsOf : List D → Option (List Int)
  | [] => some []
  | .int i :: ds => (intsOf ds).map (i :: ·)
  | _ => none
theorem intsOf_dp {K : PySem.W.Frag} {F : Hp} : ∀ {ds : List D} {ns : List Int} {vs : List V}, intsOf ds = some ns → DpAll K F vs ds → vs = ns.map V.int ∧ ds = ns.map .int
  | [], _, _, e, .nil => by cases e; exact ⟨rfl, rfl⟩
  | .int i :: ds, ns, _, e, .cons h t => by
    unfold intsOf at e
    cases q : intsOf ds with
    | none => rw [q] at e; cases e
    | some ms =>
      rw [q] at e
      cases e
      cases h
      obtain ⟨h1, h2⟩ := intsOf_dp q t
      exact ⟨by rw [h1]; rfl, by rw [h2]; rfl⟩
  | .none :: _, _, _, e, _ => by simp [intsOf] at e
  | .bool _ :: _, _, _, e, _ => by simp [intsOf] at e
  | .str _ :: _, _, _, e, _ => by simp [intsOf] at e
  | .list _ :: _, _, _, e, _ => by simp [intsOf] at e
  | .tuple _ :: _, _, _, e, _ => by simp [intsOf] at e
  | .dict _ :: _, _, _, e, _ => by simp [intsOf] at e
theorem intsOf_map : ∀ ns : List Int, intsOf (ns.map .int) = some ns
  | [] => rfl
  | n :: ns => by simp [intsOf, intsOf_map ns]
def greatest : List Int → Option Int
  | [] => none
  | x :: xs => some (xs.foldl max x)
def optI : Option Int → Res D
  | some i => .ok (.int i)
  | none => .stuck
def maxV : D → Res D
  | .list xs => optI ((intsOf xs).bind greatest)
  | _ => .stuck
/-! ### isinstance(x, T) for a built-in class -/
def tyName : D → String
  | .none => "NoneType"
  | .bool _ => "bool"
  | .int _ => "int"
  | .str _ => "str"
  | .list _ => "list"
  | .tuple _ => "tuple"
  | .dict _ => "dict"
def isiN (T n : String) : Bool := T == n || (n == "bool" && T == "int")
def isiB (T : String) (d : D) : Bool := isiN T (tyName d)
theorem kitN : ∀ T ∈ ["int", "bool", "str", "list", "tuple"], ∀ n ∈ ["NoneType", "bool", "int", "str", "list", "tuple"], kitB n T = some (isiN T n) := by decide +kernel
def isiV (T : String) : D → Res D
  | .dict _ => .stuck
  | d => .ok (.bool (isiB T d))
theorem eg_isi {T : Str} {Tn : String} {p2 : Pos} (ha : EG X W ρ .T a ra) (hv : bootBuiltins T = some (.type Tn)) (hm : X.mg "isinstance" = none) (hm2 : X.mg T = none)
    (hk : Tn ∈ ["int", "bool", "str", "list", "tuple"]) (hg : Gl X "isinstance" := by rfl) (hg2 : Gl X T := by rfl) (hn2 : T ≠ "__name__" := by decide) (hd2 : (T == ("__debug__" : Str)) = false := by decide)
    (he : starEach [a, .Name T p2] X.env = (false, eval a X.env) :: starEach [.Name T p2] X.env := by rfl) (he2 : starEach [.Name T p2] X.env = (false, eval (.Name T p2) X.env) :: starEach [] X.env := by rfl) (hpl : (backTo pos (starEach [.Name T p2] X.env)).any (·.1) = false := by rfl) :
    EG X W ρ .V (.Call (.Name "isinstance" p) [a, .Name T p2] [] pos) (ra.bd (isiV Tn)) := by
  obtain ⟨ta, a1, a2⟩ := ha
  refine ⟨_, pe_callB call_isi hg hm (by decide +kernel) (pa_cons a1 (pa_cons (pe_bltn (v := .ty Tn) hg2 hm2 hv rfl hn2 hd2) pa_nil he2) he) (by decide) (by decide) he hpl, fun B H0 F H σ Q gd k => a2 B H0 F H σ _ gd (Kn.bd k acc_base fun d v F1 H1 _ e1 s1 q1 k1 => ?_)⟩
  have fin : ∀ (t : String) (y : V), d ≠ .dict [] → TyX X.K H1 v (.type t) → PySem.W.kitOne X.K (.type t) (.type Tn) = some (isiB Tn d) → (∀ kvs, d ≠ .dict kvs) → rIsi X.K ([v] ++ [V.ty Tn]) H1 Q := fun t y _ ht hk2 hd => by
    have k2 := k1.of_eq (r' := .ok (.bool (isiB Tn d))) (by cases d <;> first | rfl | exact absurd rfl (hd _))
    exact ⟨v, .ty Tn, .type t, .type Tn, _, rfl, by constructor, ht, hk2, kn_flat k2 s1 rfl (.bl _)⟩
  cases d with
  | none => cases tp_none q1; exact fin "NoneType" .non (by intro z; cases z) (.base .non) (kit_ty (kitN Tn hk _ (by decide))) (fun _ z => nomatch z)
  | bool b => cases tp_bool q1; exact fin "bool" .non (by intro z; cases z) (.base (.bl _)) (kit_ty (kitN Tn hk _ (by decide))) (fun _ z => nomatch z)
  | int b => cases tp_int q1; exact fin "int" .non (by intro z; cases z) (.base (.int _)) (kit_ty (kitN Tn hk _ (by decide))) (fun _ z => nomatch z)
  | str b => cases tp_str q1; exact fin "str" .non (by intro z; cases z) (.base (.str _)) (kit_ty (kitN Tn hk _ (by decide))) (fun _ z => nomatch z)
  | list ds =>
    obtain ⟨a, xs, rfl, q2, q3⟩ := tp_list q1
    refine fin "list" .non (by intro z; cases z) ?_ (kit_ty (kitN Tn hk _ (by decide))) (fun _ z => nomatch z)
    rcases q2 with (q2 | ⟨o, q2⟩) | ⟨o, its, n, q2, q4, _⟩
    · exact .base (.lst q2)
    · exact .base (.frz q2)
    · exact .kList q2 q4
  | tuple ds =>
    obtain ⟨a, xs, rfl, q2, q3⟩ := tp_tup q1
    refine fin "tuple" .non (by intro z; cases z) ?_ (kit_ty (kitN Tn hk _ (by decide))) (fun _ z => nomatch z)
    rcases Same.tup s1 q2 with (q2 | ⟨o, q2⟩) | ⟨o, its, n, q2, q4, _⟩
    · exact .base (.tup q2)
    · exact .fTuple q2
    · exact .kTuple q2 q4
  | dict kvs => exact (tp_dict q1).elim
end
end DL
/-! Rules: truth, and | or | not, one of two; what is walked; comprehensions; calls of defs. -/
namespace DL
open PySem L2
section
variable {X : Cx} {W : WX} {ρ : Env X.K} {m : Md} {e a b c : Expr} {es rest : List Expr} {r ra rb rc : Res D} {rs : Res (List D)} {rt ru : Res Bool} {pos p : Pos}
/-- an expression that gives a truth, as a test -/
theorem tg_val (ha : EG X W ρ .T a ra) (he : ∀ whole, isTrue a X.env whole = (do let v ← whole; standAt a.pos; holding [v] (truthy v)) := by intro _; rfl) : TG' X W ρ a (ra.bd bl) := by
  obtain ⟨ta, a1, a2⟩ := ha
  refine ⟨_, pt_val a1 he, fun B H0 F H σ Q gd k => a2 B H0 F H σ _ gd (Kn.bd k aB_base fun d x F1 H1 _ e1 s1 q1 k1 => ?_)⟩
  cases d <;> first | exact absurd rfl k1.ns | skip
  cases tp_bool q1
  exact ⟨_, rfl, k1.ret (Ex.refl _ _) s1 rfl⟩
/-! and, or, not as tests -/
structure WG (X : Cx) (W : WX) (ρ : Env X.K) (e : Expr) (r : Res Bool) : Prop where
  ex : ∃ t, PW X e t ∧ ∀ B H0 F H σ Q, Good B H0 F H ρ σ → Kn X W F H σ r aB Q → t σ H Q
theorem tg_w (h : WG X W ρ e rt) : TG' X W ρ e rt := by
  obtain ⟨t, h1, h2⟩ := h
  exact ⟨t, h1.pt, h2⟩
def andR (a b : Res Bool) : Res Bool := a.bd fun x => if x then b else .ok false
def orR (a b : Res Bool) : Res Bool := a.bd fun x => if x then .ok true else b
def notR (a : Res Bool) : Res Bool := a.bd fun x => .ok (!x)
theorem wg_or1 (h : TG' X W ρ a rt) : WG X W ρ (.BoolOp .Or [a] pos) rt := by
  obtain ⟨t, h1, h2⟩ := h
  exact ⟨t, pw_or1 h1, h2⟩
theorem wg_or (h : TG' X W ρ a rt) (h' : WG X W ρ (.BoolOp .Or (b :: rest) pos) ru) : WG X W ρ (.BoolOp .Or (a :: b :: rest) pos) (orR rt ru) := by
  obtain ⟨t, h1, h2⟩ := h
  obtain ⟨u, g1, g2⟩ := h'
  refine ⟨_, pw_or h1 g1, fun B H0 F H σ Q gd k => h2 B H0 F H σ _ gd (Kn.bd k aB_base fun x y F1 H1 _ e1 s1 q1 k1 => ?_)⟩
  cases q1
  cases x with
  | true => rw [if_pos rfl]; exact (k1.of_eq (r' := .ok true) (by rw [if_pos rfl])).ret (Ex.refl _ _) s1 rfl
  | false => rw [if_neg Bool.false_ne_true]; exact g2 B H0 F1 H1 σ Q (gd.go e1 s1) (k1.of_eq (by rw [if_neg Bool.false_ne_true]))
theorem tg_not (h : TG' X W ρ a rt) : TG' X W ρ (.UnaryOp .Not a pos) (notR rt) := by
  obtain ⟨t, h1, h2⟩ := h
  refine ⟨_, pt_not h1, fun B H0 F H σ Q gd k => h2 B H0 F H σ _ gd (Kn.bd k aB_base fun x y F1 H1 _ e1 s1 q1 k1 => ?_)⟩
  cases q1
  exact k1.ret (Ex.refl _ _) s1 rfl
/-! .. as values: of truths -/
def andV (a b : Res D) : Res D := a.bd fun x => (bl x).bd fun k => if k then b else .ok (.bool false)
def orV (a b : Res D) : Res D := a.bd fun x => (bl x).bd fun k => if k then .ok (.bool true) else b
def notV (a : Res D) : Res D := a.bd fun x => (bl x).bd fun k => .ok (.bool (!k))
theorem eg_one {op} (h : EG X W ρ m a ra) : EG X W ρ m (.BoolOp op [a] pos) ra := by
  obtain ⟨t, h1, h2⟩ := h
  exact ⟨t, pe_one h1, h2⟩
theorem eg_and (h : EG X W ρ .V a ra) (h' : EG X W ρ .V (.BoolOp .And (b :: rest) pos) rb) : EG X W ρ .V (.BoolOp .And (a :: b :: rest) pos) (andV ra rb) := by
  obtain ⟨t, h1, h2⟩ := h
  obtain ⟨u, g1, g2⟩ := h'
  refine ⟨_, pe_and h1 g1, fun B H0 F H σ Q gd k => h2 B H0 F H σ _ gd (Kn.bd k acc_base fun x y F1 H1 _ e1 s1 q1 k1 => ?_)⟩
  cases x <;> first | exact absurd rfl k1.ns | skip
  cases q1
  rename_i x _
  cases x with
  | true => exact ⟨true, rfl, by rw [if_pos rfl]; exact g2 B H0 F1 H1 σ Q (gd.go e1 s1) (k1.of_eq (by simp))⟩
  | false => exact ⟨false, rfl, by rw [if_neg Bool.false_ne_true]; exact kn_flat (k1.of_eq (r' := .ok (.bool false)) (by simp)) s1 rfl (.bl _)⟩
theorem eg_not (h : EG X W ρ .V a ra) : EG X W ρ .V (.UnaryOp .Not a pos) (notV ra) := by
  obtain ⟨t, h1, h2⟩ := h
  refine ⟨_, pe_not h1, fun B H0 F H σ Q gd k => h2 B H0 F H σ _ gd (Kn.bd k acc_base fun x y F1 H1 _ e1 s1 q1 k1 => ?_)⟩
  cases x <;> first | exact absurd rfl k1.ns | skip
  cases q1
  exact ⟨_, rfl, kn_flat k1 s1 rfl (.bl _)⟩
/-- a if t else b -/
def ifR {α : Type} (t : Res Bool) (a b : Res α) : Res α := t.bd fun k => if k then a else b
theorem eg_if (hc : TG' X W ρ c rt) (ha : EG X W ρ m a ra) (hb : EG X W ρ m b rb) : EG X W ρ m (.IfExp c a b pos) (ifR rt ra rb) := by
  obtain ⟨t, h1, h2⟩ := hc
  obtain ⟨ta, a1, a2⟩ := ha
  obtain ⟨tb, b1, b2⟩ := hb
  refine ⟨_, pe_ifExp h1 a1 b1, fun B H0 F H σ Q gd k => h2 B H0 F H σ _ gd (Kn.bd k acc_base fun x y F1 H1 _ e1 s1 q1 k1 => ?_)⟩
  cases q1
  cases x with
  | true => rw [if_pos rfl]; exact a2 B H0 F1 H1 σ Q (gd.go e1 s1) (k1.of_eq (by rw [if_pos rfl]))
  | false => rw [if_neg Bool.false_ne_true]; exact b2 B H0 F1 H1 σ Q (gd.go e1 s1) (k1.of_eq (by rw [if_neg Bool.false_ne_true]))
/-! ### what is walked -/
/-- J walks ds, whatever grows -/
def WalkG (K : PySem.W.Frag) (F H : Hp) (ds : List D) (J : It) : Prop := ∀ F2 H2, Ex F H F2 H2 → Same F2 H2 →
  J.stop ds.length H2 ∧ ∀ i d, ds[i]? = some d → J.go i H2 ∧ ∀ x H3, J.yld i H2 x H3 → ∃ F3, Ex F2 H2 F3 H3 ∧ Same F3 H3 ∧ Dp K F3 x d
/-- J walks ds, whatever stands outside of the frozen part -/
def WalkF (K : PySem.W.Frag) (F : Hp) (ds : List D) (J : It) : Prop := ∀ F2 H2, Same F F2 → Same F2 H2 →
  J.stop ds.length H2 ∧ ∀ i d, ds[i]? = some d → J.go i H2 ∧ ∀ x H3, J.yld i H2 x H3 → ∃ F3, Ex F2 H2 F3 H3 ∧ Same F3 H3 ∧ Dp K F3 x d
theorem WalkF.g {K : PySem.W.Frag} {F H : Hp} {ds : List D} {J : It} (h : WalkF K F ds J) : WalkG K F H ds J := fun F2 H2 e s => h F2 H2 e.ff s
def aG (K : PySem.W.Frag) : Hp → Hp → Hp → List D → It → Prop := fun _ F H ds J => WalkG K F H ds J
def aF (K : PySem.W.Frag) : Hp → Hp → Hp → List D → It → Prop := fun _ F _ ds J => WalkF K F ds J
structure IG (X : Cx) (W : WX) (ρ : Env X.K) (tg e : Expr) (r : Res (List D)) : Prop where
  ex : ∃ t, PI X tg e t ∧ ∀ B H0 F H σ Q, Good B H0 F H ρ σ → Kn X W F H σ r (aG X.K) Q → t σ H Q
structure IF' (X : Cx) (W : WX) (ρ : Env X.K) (tg e : Expr) (r : Res (List D)) : Prop where
  ex : ∃ t, PI X tg e t ∧ ∀ B H0 F H σ Q, Good B H0 F H ρ σ → Kn X W F H σ r (aF X.K) Q → t σ H Q
theorem IF'.g {tg : Expr} (h : IF' X W ρ tg e rs) : IG X W ρ tg e rs := by
  obtain ⟨t, h1, h2⟩ := h
  exact ⟨t, h1, fun B H0 F H σ Q gd k => h2 B H0 F H σ Q gd ⟨k.ns, fun a ea b F' H' x s q => k.ok a ea b F' H' x s (WalkF.g q), k.xc⟩⟩
theorem aG_base {K : PySem.W.Frag} (H H1 F' H' : Hp) (x : List D) (y : It) (_ : Same H H1) (h : aG K H1 F' H' x y) : aG K H F' H' x y := h
theorem aF_base {K : PySem.W.Frag} (H H1 F' H' : Hp) (x : List D) (y : It) (_ : Same H H1) (h : aF K H1 F' H' x y) : aF K H F' H' x y := h
/-- only lists -/
def lstItems : D → Res (List D)
  | .list xs => .ok xs
  | _ => .stuck
def tupItems : D → Res (List D)
  | .tuple xs => .ok xs
  | _ => .stuck
theorem ig_list {tg : Expr} (ha : EG X W ρ .T a ra) : IG X W ρ tg a (ra.bd lstItems) := by
  obtain ⟨t, h1, h2⟩ := ha
  refine ⟨_, pi_list h1, fun B H0 F H σ Q gd k => h2 B H0 F H σ _ gd (Kn.bd k aG_base fun d x F1 H1 _ e1 s1 q1 k1 => ?_)⟩
  cases d <;> first | exact absurd rfl k1.ns | skip
  rename_i ds
  obtain ⟨l, xs, rfl, g1, g2⟩ := tp_list q1
  refine ⟨l, rfl, ⟨xs, g1⟩, k1.ret (Ex.refl _ _) s1 fun F2 H2 e s => ?_⟩
  have g1' := Same.seq e.hh g1
  refine ⟨⟨xs, g1', by rw [DpAll.length g2]; exact Nat.le_refl _⟩, fun i d hd => ?_⟩
  obtain ⟨v, v1, v2⟩ := DpAll.get g2 hd
  refine ⟨⟨xs, v, g1', v1⟩, fun x H3 ⟨y1, y2⟩ => ?_⟩
  subst y1
  have := y2 xs g1'
  rw [v1] at this
  cases this
  exact ⟨F2, Ex.refl _ _, s, Dp.mono e.ff _ _ v2⟩
theorem if_list {tg : Expr} (ha : EG X W ρ .V a ra) : IF' X W ρ tg a (ra.bd lstItems) := by
  obtain ⟨t, h1, h2⟩ := ha
  refine ⟨_, pi_list h1, fun B H0 F H σ Q gd k => h2 B H0 F H σ _ gd (Kn.bd k aF_base fun d x F1 H1 hq e1 s1 q1 k1 => ?_)⟩
  clear hq
  cases d <;> first | exact absurd rfl k1.ns | skip
  rename_i ds
  have q1 : Dp X.K F1 x (.list ds) := q1
  cases q1 with
  | @lst l xs _ g1 g2 =>
  refine ⟨l, rfl, ⟨xs, Same.seq s1 g1⟩, k1.ret (Ex.refl _ _) s1 fun F2 H2 e s => ?_⟩
  have g1' := Same.seq s (Same.seq e g1)
  refine ⟨⟨xs, g1', by rw [DpAll.length g2]; exact Nat.le_refl _⟩, fun i d hd => ?_⟩
  obtain ⟨v, v1, v2⟩ := DpAll.get g2 hd
  refine ⟨⟨xs, v, g1', v1⟩, fun x H3 ⟨y1, y2⟩ => ?_⟩
  subst y1
  have := y2 xs g1'
  rw [v1] at this
  cases this
  exact ⟨F2, Ex.refl _ _, s, Dp.mono e _ _ v2⟩
theorem if_tup {tg : Expr} (ha : EG X W ρ .T a ra) : IF' X W ρ tg a (ra.bd tupItems) := by
  obtain ⟨t, h1, h2⟩ := ha
  refine ⟨_, pi_tup h1, fun B H0 F H σ Q gd k => h2 B H0 F H σ _ gd (Kn.bd k aF_base fun d x F1 H1 _ e1 s1 q1 k1 => ?_)⟩
  cases d <;> first | exact absurd rfl k1.ns | skip
  rename_i ds
  obtain ⟨l, xs, rfl, g1, g2⟩ := tp_tup q1
  refine ⟨l, rfl, ⟨xs, Same.tup s1 g1⟩, k1.ret (Ex.refl _ _) s1 fun F2 H2 e s => ?_⟩
  have g1' := Same.tup s (Same.tup e g1)
  refine ⟨⟨xs, g1', by rw [DpAll.length g2]; exact Nat.le_refl _⟩, fun i d hd => ?_⟩
  obtain ⟨v, v1, v2⟩ := DpAll.get g2 hd
  refine ⟨⟨xs, v, g1', v1⟩, fun x H3 ⟨y1, y2⟩ => ?_⟩
  subst y1
  have := y2 xs g1'
  rw [v1] at this
  cases this
  exact ⟨F2, Ex.refl _ _, s, Dp.mono e _ _ v2⟩
theorem walk_range {K : PySem.W.Frag} {F : Hp} (lo : Int) (n : Nat) : WalkF K F (rangeL lo n) (Itr lo n) := fun F2 H2 e s => by
  refine ⟨by show n ≤ _; unfold rangeL; simp, fun i d hd => ?_⟩
  unfold rangeL at hd
  rw [List.getElem?_map] at hd
  by_cases hi : i < n
  · rw [List.getElem?_range hi] at hd
    cases hd
    refine ⟨hi, fun x H3 ⟨y1, y2⟩ => ?_⟩
    subst y1; subst y2
    exact ⟨F2, Ex.refl _ _, s, .int _⟩
  · rw [List.getElem?_eq_none (by simpa using hi)] at hd
    cases hd
theorem if_range1 {tg : Expr} (ha : EG X W ρ .T a ra) (hm : X.mg "range" = none) (hg : Gl X "range" := by rfl) (hs : starEach [a] X.env = [(false, eval a X.env)] := by rfl) : IF' X W ρ tg (.Call (.Name "range" p) [a] [] pos) (ra.bd range1) := by
  obtain ⟨t, h1, h2⟩ := ha
  refine ⟨_, pi_range1 hg hm (pa_cons h1 pa_nil hs) hs, fun B H0 F H σ Q gd k => h2 B H0 F H σ _ gd (Kn.bd k aF_base fun d x F1 H1 _ e1 s1 q1 k1 => ?_)⟩
  cases d <;> first | exact absurd rfl k1.ns | skip
  cases tp_int q1
  rename_i n _
  cases c : in62 n with
  | false => exact absurd (by simp [range1, c]) k1.ns
  | true =>
    have k2 := k1.of_eq (r' := .ok (rangeL 0 n.toNat)) (by simp [range1, c])
    have c' := of_decide_eq_true c
    exact ⟨n, rfl, c'.1, c'.2, k2.ret (Ex.refl _ _) s1 (walk_range _ _)⟩
theorem if_range2 {tg : Expr} (ha : EG X W ρ .T a ra) (hb : EG X W ρ .T b rb) (hm : X.mg "range" = none) (hg : Gl X "range" := by rfl) (hs : starEach [a, b] X.env = [(false, eval a X.env), (false, eval b X.env)] := by rfl) (hs2 : starEach [b] X.env = [(false, eval b X.env)] := by rfl) : IF' X W ρ tg (.Call (.Name "range" p) [a, b] [] pos) (bd2 ra rb range2) := by
  obtain ⟨t, h1, h2⟩ := ha
  obtain ⟨u, g1, g2⟩ := hb
  refine ⟨_, pi_range2 hg hm (pa_cons h1 (pa_cons g1 pa_nil hs2) (hs.trans (by rw [hs2]))) hs hs2, fun B H0 F H σ Q gd k => h2 B H0 F H σ _ gd (Kn.bd k aF_base fun d x F1 H1 _ e1 s1 q1 k1 => g2 B H0 F1 H1 σ _ (gd.go e1 s1) (Kn.bd k1 aF_base fun d2 y F2 H2 _ e2 s2 q2 k2 => ?_))⟩
  cases d <;> first | exact absurd rfl k2.ns | skip
  cases d2 <;> first | exact absurd rfl k2.ns | skip
  cases tp_int q1
  cases tp_int q2
  rename_i n _ k _
  cases c : (in62 n && in62 k) with
  | false => exact absurd (by simp only [range2, c]; rfl) k2.ns
  | true =>
    have k3 := k2.of_eq (r' := .ok (rangeL n (k - n).toNat)) (by simp only [range2, c]; rfl)
    rw [Bool.and_eq_true] at c
    have c1 := of_decide_eq_true c.1
    have c2 := of_decide_eq_true c.2
    exact ⟨n, k, rfl, ⟨c1.1, c1.2, c2.1, c2.2⟩, k3.ret (Ex.refl _ _) s2 (walk_range _ _)⟩
end
end DL
/-! Rules: targets, comprehensions, calls of defs. -/
namespace DL
open PySem L2
/-! ### a judgement's own reading -/
def tS (K : PySem.W.Frag) (X : Cx) (W : WX) (ρ : Env K) (m : Md) (r : Res D) : TE := fun σ H Q => ∃ B H0 F, Good B H0 F H ρ σ ∧ Kn X W F H σ r (Acc K m) Q
theorem EG.sem {X : Cx} {W : WX} {ρ : Env X.K} {m : Md} {e : Expr} {r : Res D} (h : EG X W ρ m e r) {Y : Cx} (hm : Y.mg = X.mg) : PE X e (tS X.K Y W ρ m r) := by
  obtain ⟨t, h1, h2⟩ := h
  exact ⟨fun pins s σ H Q I ⟨B, H0, F, g, k⟩ => h1.run pins s σ H Q I (h2 B H0 F H σ Q g ⟨k.ns, k.ok, fun n e H' C c s => k.xc n e H' C (hm ▸ c) s⟩)⟩
/-- tests of a comprehension -/
structure QG (X : Cx) (W : WX) (ρ : Env X.K) (es : List Expr) (r : Res Bool) : Prop where
  ex : ∃ t, PTs X es t ∧ ∀ B H0 F H σ Q, Good B H0 F H ρ σ → Kn X W F H σ r aB Q → t σ H Q
def tQ (K : PySem.W.Frag) (X : Cx) (W : WX) (ρ : Env K) (r : Res Bool) : TT := fun σ H Q => ∃ B H0 F, Good B H0 F H ρ σ ∧ Kn X W F H σ r aB Q
theorem QG.sem {X : Cx} {W : WX} {ρ : Env X.K} {es : List Expr} {r : Res Bool} (h : QG X W ρ es r) {Y : Cx} (hm : Y.mg = X.mg) : PTs X es (tQ X.K Y W ρ r) := by
  obtain ⟨t, h1, h2⟩ := h
  exact ⟨fun pins s σ H Q I ⟨B, H0, F, g, k⟩ => h1.run pins s σ H Q I (h2 B H0 F H σ Q g ⟨k.ns, k.ok, fun n e H' C c s => k.xc n e H' C (hm ▸ c) s⟩)⟩
theorem qg_nil {X : Cx} {W : WX} {ρ : Env X.K} : QG X W ρ [] (.ok true) := ⟨_, pts_nil, fun B H0 F H σ Q g k => k.ret (Ex.refl _ _) g.fh rfl⟩
theorem qg_one {X : Cx} {W : WX} {ρ : Env X.K} {c : Expr} {r : Res Bool} (h : TG' X W ρ c r) : QG X W ρ [c] r := by
  obtain ⟨t, h1, h2⟩ := h
  exact ⟨t, pts_one h1, h2⟩
/-! ### targets -/
def Keeps (vs : List Nat) (σ σ' : St) : Prop := wipe σ' vs = wipe σ vs
structure GG (X : Cx) (tg : Expr) (vs : List Nat) (ρ : Env X.K) (f : D → Res (Env X.K)) : Prop where
  ex : ∃ g, PG X tg g ∧ ∀ B H0 F H σ x d Q, Good B H0 F H ρ σ → Dp X.K F x d → f d ≠ .stuck → (∀ ρ' σ', f d = .ok ρ' → Good B H0 F H ρ' σ' → Keeps vs σ σ' → Q σ' H) → g x σ H Q
def gS (K : PySem.W.Frag) (vs : List Nat) (ρ : Env K) (f : D → Res (Env K)) : TG := fun x σ H Q => ∃ B H0 F d, Good B H0 F H ρ σ ∧ Dp K F x d ∧ f d ≠ .stuck ∧ ∀ ρ' σ', f d = .ok ρ' → Good B H0 F H ρ' σ' → Keeps vs σ σ' → Q σ' H
theorem GG.sem {X : Cx} {tg : Expr} {vs : List Nat} {ρ : Env X.K} {f : D → Res (Env X.K)} (h : GG X tg vs ρ f) : PG X tg (gS X.K vs ρ f) := by
  obtain ⟨t, h1, h2⟩ := h
  exact ⟨fun pins s σ H v u Q I r ⟨B, H0, F, d, g, p, n, k⟩ => h1.run pins s σ H v u Q I r (h2 B H0 F H σ v d Q g p n k)⟩
theorem wipe_get {σ : St} : ∀ (vs : List Nat) (j : Nat), (wipe σ vs)[j]? = if j ∈ vs ∧ j < σ.length then some none else σ[j]?
  | [], j => by simp [wipe]
  | v :: vs, j => by
    unfold wipe
    rw [List.getElem?_set]
    by_cases e : v = j
    · subst e
      by_cases hl : v < σ.length
      · simp [wipe_length, hl]
      · simp [wipe_length, hl, List.getElem?_eq_none (Nat.le_of_not_lt hl)]
    · rw [if_neg e, wipe_get vs j]
      have : j ≠ v := fun z => e z.symm
      simp [this]
theorem wipe_wipe {σ : St} (vs : List Nat) : wipe (wipe σ vs) vs = wipe σ vs := by
  apply List.ext_getElem?
  intro j
  rw [wipe_get, wipe_length, wipe_get]
  split <;> rfl
theorem keeps_set {σ : St} {vs : List Nat} {i : Nat} {v : Option V} (h : i ∈ vs) : Keeps vs σ (σ.set i v) := by
  unfold Keeps
  apply List.ext_getElem?
  intro j
  rw [wipe_get, wipe_get, List.length_set]
  by_cases hj : j ∈ vs ∧ j < σ.length
  · rw [if_pos hj, if_pos hj]
  · rw [if_neg hj, if_neg hj, List.getElem?_set]
    by_cases e : i = j
    · subst e
      have : ¬ i < σ.length := fun z => hj ⟨h, z⟩
      simp [this, List.getElem?_eq_none (Nat.le_of_not_lt this)]
    · rw [if_neg e]
theorem Keeps.trans {vs : List Nat} {a b c : St} (h : Keeps vs a b) (h' : Keeps vs b c) : Keeps vs a c := Eq.trans h' h
theorem gg_name {X : Cx} {ρ : Env X.K} {x : Str} {pos : Pos} {vs : List Nat} (i : Nat) (hN : X.N.Nodup) (hi : X.N[i]? = some x) (hx : Loc X.env.scope x) (hv : i ∈ vs) (hf : X.fn x = true ∨ X.env.scope.names.lookup x = some .local) : GG X (.Name x pos) vs ρ (fun d => .ok (ρ.set i (cVal d))) :=
  ⟨_, pg_name hN hi hx hf, fun B H0 F H σ v d Q g p _ k => k _ _ rfl (g.setV p) (keeps_set hv)⟩
/-- targets of a tuple, one after another -/
structure GGs (X : Cx) (ts : List Expr) (vs : List Nat) (ρ : Env X.K) (f : List D → Res (Env X.K)) : Prop where
  ex : ∃ g, PGs X ts g ∧ ∀ B H0 F H σ xs ds Q, Good B H0 F H ρ σ → DpAll X.K F xs ds → f ds ≠ .stuck → (∀ ρ' σ', f ds = .ok ρ' → Good B H0 F H ρ' σ' → Keeps vs σ σ' → Q σ' H) → g xs σ H Q
theorem ggs_nil {X : Cx} {ρ : Env X.K} {vs : List Nat} : GGs X [] vs ρ (fun ds => match ds with | [] => .ok ρ | _ => .stuck) := by
  refine ⟨_, pgs_nil, fun B H0 F H σ xs ds Q g p n k => ?_⟩
  cases p with
  | nil => exact ⟨rfl, k _ _ rfl g rfl⟩
  | cons _ _ => exact absurd rfl n
def consE {K : PySem.W.Frag} (f : D → Res (Env K)) (fs : Env K → List D → Res (Env K)) : List D → Res (Env K)
  | d :: ds => (f d).bd fun ρ' => fs ρ' ds
  | [] => .stuck
theorem ggs_cons {X : Cx} {t : Expr} {ts : List Expr} {ρ : Env X.K} {vs : List Nat} {f : D → Res (Env X.K)} {fs : Env X.K → List D → Res (Env X.K)} (h : GG X t vs ρ f) (h' : ∀ ρ', GGs X ts vs ρ' (fs ρ')) (hx : ∀ d n, f d ≠ .exc n)
    (hs : ∀ (u : TGs), PGs X ts u → ∀ g, PG X t g → PGs X (t :: ts) (gCons g u)) : GGs X (t :: ts) vs ρ (consE f fs) := by
  obtain ⟨g, g1, g2⟩ := h
  have hu : PGs X ts (fun xs σ H Q => ∃ B H0 F ρ' ds, Good B H0 F H ρ' σ ∧ DpAll X.K F xs ds ∧ fs ρ' ds ≠ .stuck ∧ ∀ ρ2 σ', fs ρ' ds = .ok ρ2 → Good B H0 F H ρ2 σ' → Keeps vs σ σ' → Q σ' H) := by
    refine ⟨fun pins s σ H xs us Q I r ⟨B, H0, F, ρ', ds, gd, p, n, k⟩ => ?_⟩
    obtain ⟨u, u1, u2⟩ := h' ρ'
    exact u1.run pins s σ H xs us Q I r (u2 B H0 F H σ xs ds Q gd p n k)
  refine ⟨_, hs _ hu _ g1, fun B H0 F H σ xs ds Q gd p n k => ?_⟩
  cases p with
  | nil => exact absurd rfl n
  | @cons v vs' d ds' p1 p2 =>
    refine ⟨v, vs', rfl, g2 B H0 F H σ v d _ gd p1 (fun z => n (by simp [consE, z])) fun ρ' σ' e gd' kp => ?_⟩
    have e2 : consE f fs (d :: ds') = fs ρ' ds' := by simp [consE, e]
    exact ⟨B, H0, F, ρ', ds', gd', p2, fun z => n (e2.trans z), fun ρ2 σ2 q1 q2 q3 => k ρ2 σ2 (e2.trans q1) q2 (kp.trans q3)⟩
def tupE {K : PySem.W.Frag} (n : Nat) (f : List D → Res (Env K)) : D → Res (Env K)
  | .tuple ds => if decide (ds.length = n) then f ds else .stuck
  | _ => .stuck
theorem gg_tup {X : Cx} {es : List Expr} {k : Nat} {pos : Pos} {ρ : Env X.K} {vs : List Nat} {n : Nat} {f : List D → Res (Env X.K)} (hc : X.calm = true) (h : GGs X es vs ρ f)
    (hn : (assignEach es X.env).length = n) (hst : (assignEach es X.env).findIdx? (·.1) = none) : GG X (.Tuple es k pos) vs ρ (tupE n f) := by
  obtain ⟨g, g1, g2⟩ := h
  refine ⟨_, pg_tup hc g1 hn hst, fun B H0 F H σ x d Q gd p ns q => ?_⟩
  cases p with
  | @tup a xs ds p1 p2 =>
    by_cases e : ds.length = n
    · have e2 : tupE n f (.tuple ds) = f ds := by simp [tupE, e]
      exact ⟨a, xs, rfl, Same.tup gd.fh p1, by rw [DpAll.length p2]; exact e, g2 B H0 F H σ xs ds Q gd p2 (fun z => ns (e2.trans z)) fun ρ' σ' q1 q2 q3 => q ρ' σ' (e2.trans q1) q2 q3⟩
    · exact absurd (by simp [tupE, e]) ns
  | _ => exact absurd rfl ns
/-! ### comprehensions -/
def wipeE {K : PySem.W.Frag} (ρ : Env K) : List Nat → Env K
  | [] => ρ
  | v :: vs => (wipeE ρ vs).set v cAny
theorem Good.wipe {K : PySem.W.Frag} {B H0 F H : Hp} {ρ : Env K} {σ : St} (g : Good B H0 F H ρ σ) : ∀ vs : List Nat, Good B H0 F H (wipeE ρ vs) (wipe σ vs)
  | [] => g
  | v :: vs => by
    obtain ⟨e, f, ass, h1, h2, h3⟩ := Good.wipe g vs
    refine ⟨e, f, ass.set v [], Slots.set h1 rfl, nodup_flatten_set h2 List.nodup_nil (fun _ z => nomatch z), fun a ha => ?_⟩
    rcases mem_flatten_set ha with z | z
    · exact h3 a z
    · cases z
abbrev W0 : WX := fun _ _ _ _ => False
theorem lcR_nx (cond : D → Res Bool) (elt : D → Res D) : ∀ (ds : List D) (n : Str), lcR cond elt ds ≠ .exc n
  | [], n => fun z => nomatch z
  | d :: ds, n => by
    unfold lcR
    cases cond d with
    | ok b =>
      cases b with
      | true =>
        simp only [nx_ok, bd_ok, if_true]
        cases elt d with
        | ok x =>
          simp only [nx_ok]
          cases e : lcR cond elt ds with
          | ok xs => exact fun z => nomatch z
          | exc m => exact absurd e (lcR_nx cond elt ds m)
          | stuck => exact fun z => nomatch z
        | exc m => exact fun z => nomatch z
        | stuck => exact fun z => nomatch z
      | false => simpa using lcR_nx cond elt ds n
    | exc m => exact fun z => nomatch z
    | stuck => exact fun z => nomatch z
section
variable {X : Cx} {W : WX} {ρ : Env X.K} {rs : Res (List D)} {pos p : Pos}
/-- the parts of a comprehension by judgements -/
theorem eg_lcS [C : Ctx X W] {elt tg iter : Expr} {ifs : List Expr} {scope : Scope} {own : List (Str × Nat)} {f : D → Res (Env X.K)} {cond : D → Res Bool} {elt' : D → Res D} (hi : IG X W ρ tg iter rs) (ok : BlkOk X.N X.env.scope scope own)
    (hx : ∀ d n, f d ≠ .exc n)
    (hg : ∀ (s : Shared) (H : Hp) (C : Addr) (cl : List (Str × Addr)) (fp : List Addr), GG (X.blk s H scope (compEnvC scope cl C X.env) fp) tg (own.map (·.2)) (wipeE ρ (own.map (·.2))) f)
    (ht : ∀ (s : Shared) (H : Hp) (C : Addr) (cl : List (Str × Addr)) (fp : List Addr) (d : D) (ρ' : Env X.K), f d = .ok ρ' → QG (X.blk s H scope (compEnvC scope cl C X.env) fp) W0 ρ' ifs (cond d))
    (he : ∀ (s : Shared) (H : Hp) (C : Addr) (cl : List (Str × Addr)) (fp : List Addr) (d : D) (ρ' : Env X.K), f d = .ok ρ' → EG (X.blk s H scope (compEnvC scope cl C X.env) fp) W0 ρ' .V elt (elt' d)) (hs : ∀ x, foldedSetIterable iter X.env x = pure x := by intro _; rfl) :
    ∃ p : TI × TG × TT × TE, ((PI X tg iter p.1) ∧ (∀ (s : Shared) (H : Hp) (C : Addr) (cl : List (Str × Addr)) (fp : List Addr), PG (X.blk s H scope (compEnvC scope cl C X.env) fp) tg p.2.1) ∧
      (∀ (s : Shared) (H : Hp) (C : Addr) (cl : List (Str × Addr)) (fp : List Addr), PTs (X.blk s H scope (compEnvC scope cl C X.env) fp) ifs p.2.2.1) ∧ (∀ (s : Shared) (H : Hp) (C : Addr) (cl : List (Str × Addr)) (fp : List Addr), PE (X.blk s H scope (compEnvC scope cl C X.env) fp) elt p.2.2.2)) ∧
    ∀ B H0 F H σ Q, Good B H0 F H ρ σ → Kn X W F H σ (rs.bd fun ds => (lcR (fun d => (f d).bd fun _ => cond d) elt' ds).bd lstR) (Acc X.K .O) Q → tLc p.1 p.2.1 p.2.2.1 p.2.2.2 (own.map (·.2)) σ H Q := by
  obtain ⟨ti, i1, i2⟩ := hi
  refine ⟨⟨ti, gS X.K (own.map (·.2)) (wipeE ρ (own.map (·.2))) f, fun σ H Q => ∃ d ρ', f d = .ok ρ' ∧ tQ X.K X W0 ρ' (cond d) σ H Q, fun σ H Q => ∃ d ρ', f d = .ok ρ' ∧ tS X.K X W0 ρ' .V (elt' d) σ H Q⟩, ⟨i1, fun s H c cl fp => (hg s H c cl fp).sem, fun s H c cl fp => ⟨fun pins s' σ H' Q I ⟨d, ρ', e, q⟩ => ((ht s H c cl fp d ρ' e).sem (Y := X) rfl).run pins s' σ H' Q I q⟩,
    fun s H c cl fp => ⟨fun pins s' σ H' Q I ⟨d, ρ', e, q⟩ => ((he s H c cl fp d ρ' e).sem (Y := X) rfl).run pins s' σ H' Q I q⟩⟩, fun B H0 F H σ Q gd k => i2 B H0 F H σ _ gd (Kn.bd k acc_base fun ds J F1 H1 _ e1 s1 q1 k1 => ?_)⟩
  intro L hL
  have hLF : F1 L = none := Same.free s1 hL
  generalize hv : own.map (·.2) = vs at *
  have gw := (gd.go e1 s1).wipe vs
  -- what is made so far, what is left
  have whole : ∃ out, (lcR (fun d => (f d).bd fun _ => cond d) elt' ds).bd lstR = .ok (.list out) ∧ lcR (fun d => (f d).bd fun _ => cond d) elt' ds = .ok out ∧ out.length ≤ sizeLine := by
    cases c : lcR (fun d => (f d).bd fun _ => cond d) elt' ds with
    | stuck => exact absurd (by rw [c]; rfl) k1.ns
    | exc n => exact absurd c (lcR_nx _ _ _ n)
    | ok out =>
      cases c2 : fits out.length with
      | false => exact absurd (by rw [c]; simp [lstR, c2]) k1.ns
      | true => exact ⟨out, by simp [lstR, c2], rfl, fits_le c2⟩
  obtain ⟨out, w1, w2, w3⟩ := whole
  have k2 := k1.of_eq w1
  refine ⟨fun i m H2 => m = ds.length - i ∧ i ≤ ds.length ∧ ∃ F2 acc done, Ex F1 H1 F2 H2 ∧ Same F2 H2 ∧ F2 L = none ∧ H2 L = some (.lst acc) ∧ DpAll X.K F2 acc done ∧ ∃ more, lcR (fun d => (f d).bd fun _ => cond d) elt' (ds.drop i) = .ok more ∧ out = done ++ more, ⟨ds.length, by simp, Nat.zero_le _, F1, [], [], Ex.newO hL, Same.updO s1 hLF, hLF, upd_same, .nil, out, w2, rfl⟩, ?_⟩
  rintro i m H2 ⟨rfl, hi, F2, acc, done, x2, s2, hF, hH, hd, more, hm, ho⟩
  by_cases hlt : i < ds.length
  · have dget : ds[i]? = some ds[i] := List.getElem?_eq_getElem hlt
    obtain ⟨stop, go⟩ := q1 F2 H2 x2 s2
    obtain ⟨go1, go2⟩ := go i _ dget
    refine .inr ⟨go1, fun H2 => i + 1 ≤ ds.length ∧ ∃ F2 acc done, Ex F1 H1 F2 H2 ∧ Same F2 H2 ∧ F2 L = none ∧ H2 L = some (.lst acc) ∧ DpAll X.K F2 acc done ∧ ∃ more, lcR (fun d => (f d).bd fun _ => cond d) elt' (ds.drop (i + 1)) = .ok more ∧ out = done ++ more, fun H' q => ⟨ds.length - (i + 1), by omega, rfl, q⟩, fun x H3 y => ?_⟩
    obtain ⟨F3, x3, s3, d3⟩ := go2 x H3 y
    have ex3 : Ex F1 H1 F3 H3 := x2.trans x3
    have hF3 : F3 L = none := by rw [x3.eq L (by rw [hH]; exact fun z => nomatch z)]; exact hF
    have hH3 : H3 L = some (.lst acc) := x3.hh _ _ hH
    have hd3 := DpAll.mono x3.ff _ _ hd
    have hdrop : ds.drop i = ds[i] :: ds.drop (i + 1) := List.drop_eq_getElem_cons hlt
    rw [hdrop] at hm
    generalize hdi : ds[i] = d at *
    unfold lcR at hm
    obtain ⟨b, hb⟩ : ∃ b, ((f d).bd fun _ => cond d) = .ok b := nx_ns fun z => by rw [z] at hm; cases hm
    rw [hb] at hm
    obtain ⟨ρ', hf⟩ : ∃ ρ', f d = .ok ρ' := by
      cases e : f d with
      | ok ρ' => exact ⟨ρ', rfl⟩
      | exc n => exact absurd e (hx d n)
      | stuck => rw [e] at hb; cases hb
    have hcb : cond d = .ok b := by rw [hf] at hb; exact hb
    refine ⟨B, H0, F3, d, gw.go ex3 s3, d3, (fun z => by rw [hf] at z; cases z), fun ρ2 σ2 hρ gd2 kp => ⟨Eq.trans kp (wipe_wipe vs), d, ρ', hf, B, H0, F3, ?_, ?_⟩⟩
    · rw [hf] at hρ; cases hρ; exact gd2
    rw [hcb]
    refine ⟨(fun z => nomatch z), fun a ea c F4 H4 x4 s4 q4 => ?_, fun _ z => nomatch z⟩
    cases ea
    cases q4
    have hF4 : F4 L = none := by rw [x4.eq L (by rw [hH3]; exact fun z => nomatch z)]; exact hF3
    have hH4 : H4 L = some (.lst acc) := x4.hh _ _ hH3
    have hd4 := DpAll.mono x4.ff _ _ hd3
    rw [hf] at hρ
    cases hρ
    cases b with
    | false =>
      rw [if_neg Bool.false_ne_true]
      simp only [nx_ok, bd_ok, Bool.false_eq_true, if_false] at hm
      exact ⟨hlt, F4, acc, done, ex3.trans x4, s4, hF4, hH4, hd4, more, hm, ho⟩
    | true =>
      rw [if_pos rfl]
      simp only [nx_ok, bd_ok, if_true] at hm
      obtain ⟨y, hy⟩ : ∃ y, elt' d = .ok y := nx_ns fun z => by rw [z] at hm; cases hm
      rw [hy] at hm
      refine ⟨d, ρ', hf, B, H0, F4, gd2.go x4 s4, ?_⟩
      rw [hy]
      refine ⟨(fun z => nomatch z), fun a ea v F5 H5 x5 s5 q5 => ?_, fun _ z => nomatch z⟩
      cases ea
      have hF5 : F5 L = none := by rw [x5.eq L (by rw [hH4]; exact fun z => nomatch z)]; exact hF4
      have hH5 : H5 L = some (.lst acc) := x5.hh _ _ hH4
      have hd5 := DpAll.mono x5.ff _ _ hd4
      cases hr : lcR (fun d => (f d).bd fun _ => cond d) elt' (ds.drop (i + 1)) with
      | stuck => rw [hr] at hm; cases hm
      | exc n => exact absurd hr (lcR_nx _ _ _ n)
      | ok more' =>
        rw [hr] at hm
        cases hm
        have ex5 := (ex3.trans x4).trans x5
        refine ⟨acc, hH5, ?_, hlt, F5, acc ++ [v], done ++ [y], ⟨ex5.ff, fun a o ha => ?_, ex5.eq⟩, Same.updO s5 hF5, hF5, upd_same, DpAll.append hd5 (.cons q5 .nil), more', rfl, by rw [ho]; simp⟩
        · have := DpAll.length hd
          have h2 := congrArg List.length ho
          rw [List.length_append, List.length_cons] at h2
          omega
        · rw [upd_ne (fun z => by rw [z, hL] at ha; cases ha)]
          exact ex5.hh a o ha
  · have e : i = ds.length := by omega
    subst e
    refine .inl ⟨(q1 F2 H2 x2 s2).1, ?_⟩
    rw [List.drop_length] at hm
    cases hm
    rw [List.append_nil] at ho
    subst ho
    refine k2.ok _ rfl _ F2 H2 x2 s2 ⟨[L], .inl ⟨_, rfl, L, acc, rfl, rfl, hH, hd⟩, fun a ha => ?_⟩
    rw [List.mem_singleton.mp ha]
    exact ⟨hL, hF⟩
theorem eg_lc [C : Ctx X W] {elt tg iter : Expr} {ifs : List Expr} {scope : Scope} {own : List (Str × Nat)} {f : D → Res (Env X.K)} {cond : D → Res Bool} {elt' : D → Res D} (hi : IG X W ρ tg iter rs) (ok : BlkOk X.N X.env.scope scope own)
    (hx : ∀ d n, f d ≠ .exc n)
    (hg : ∀ (s : Shared) (H : Hp) (C : Addr) (cl : List (Str × Addr)) (fp : List Addr), GG (X.blk s H scope (compEnvC scope cl C X.env) fp) tg (own.map (·.2)) (wipeE ρ (own.map (·.2))) f)
    (ht : ∀ (s : Shared) (H : Hp) (C : Addr) (cl : List (Str × Addr)) (fp : List Addr) (d : D) (ρ' : Env X.K), f d = .ok ρ' → QG (X.blk s H scope (compEnvC scope cl C X.env) fp) W0 ρ' ifs (cond d))
    (he : ∀ (s : Shared) (H : Hp) (C : Addr) (cl : List (Str × Addr)) (fp : List Addr) (d : D) (ρ' : Env X.K), f d = .ok ρ' → EG (X.blk s H scope (compEnvC scope cl C X.env) fp) W0 ρ' .V elt (elt' d)) (hs : ∀ x, foldedSetIterable iter X.env x = pure x := by intro _; rfl) :
    EG X W ρ .O (.ListComp elt [⟨tg, iter, ifs, 0⟩] scope pos) (rs.bd fun ds => (lcR (fun d => (f d).bd fun _ => cond d) elt' ds).bd lstR) := by
  obtain ⟨t, h1, h2⟩ := eg_lcS hi ok hx hg ht he hs
  exact ⟨_, pe_lc C.calm C.nd h1.1 ok h1.2.1 h1.2.2.1 h1.2.2.2 hs, h2⟩
end
/-! ### defs -/
/-- the promise of a def that reads plain data: n arguments; the answer stands as rk says -/
def spD (K : PySem.W.Frag) (mg : Str → Option Value) (n : Nat) (rk : Md) (f : List D → Res D) : Sp := fun vs H Q E => ∃ F ds, Same F H ∧ DpAll K F vs ds ∧ vs.length = n ∧ f ds ≠ .stuck ∧
  (∀ d, f ds = .ok d → ∀ v F' H', Ex F H F' H' → Same F' H' → Acc K rk H F' H' d v → Q v H') ∧ ∀ x, f ds = .exc x → ∀ H' C, mg x = some C → Same H H' → E C none H'
section
variable {X : Cx} {W : WX} {ρ : Env X.K} {rs : Res (List D)} {pos p : Pos} {k n : Nat} {f : Addr} {fd : FuncData} {ps : List Str} {x : Str} {e : Expr} {es : List Expr} {rk : Md} {g : List D → Res D}
/-- a def that stands and keeps its promise -/
structure Def (P : Program) (w : World) (K : PySem.W.Frag) (mg : Str → Option Value) (base : Heap) (x : Str) (k n : Nat) (rk : Md) (g : List D → Res D) : Prop where
  ex : ∃ f fd ps, FnOk P w K mg base (L2N.CX P w) k f fd ps (spD K mg n rk g) ∧ mg x = some (.ref f) ∧ PySem.W.keepIn K (.ref f) = true ∧ Binds K fd ps []
theorem eg_call [C : Ctx X W] (D : Def X.prog X.w X.K X.mg X.base x k n rk g) (hr : Room k X.A)
    (ha : AG X W ρ (e :: es) rs) (hl : (e :: es).length = n := by rfl) (hg : Gl X x := by rfl) (hdb : (x == ("__debug__" : Str)) = false := by decide) (he : starEach (e :: es) X.env = (false, eval e X.env) :: starEach es X.env := by rfl) (hpl : (backTo pos (starEach es X.env)).any (·.1) = false := by rfl) :
    EG X W ρ rk (.Call (.Name x p) (e :: es) [] pos) (rs.bd g) := by
  obtain ⟨f, fd, ps, F, hm, hk, hb⟩ := D
  obtain ⟨al, ta, a1, a2⟩ := ha
  refine ⟨_, pe_callS F hr hg hm hk hb (fun σ => L2N.passAt C.tk σ) a1 hdb he hpl, fun B H0 F0 H σ Q gd kn => a2 B H0 F0 H σ _ gd (Kn.bd kn acc_base fun ds vs F1 H1 er e1 s1 q1 k1 => ?_)⟩
  exact ⟨F1, ds, s1, q1, by rw [DpAll.length q1]; exact (al ds er).trans hl, k1.ns, fun d ed v F' H' x s a => k1.ok d ed v F' H' x s a, fun y ey H' C' c s => k1.xc y ey H' C' c s⟩
end
/-! ### comprehensions by their target -/
theorem blk_nd {X : Cx} (C : X.N.Nodup) {s : Shared} {H : Hp} {sc : Scope} {e : PySem.Env} {fp : List Addr} : (X.blk s H sc e fp).N.Nodup := C
theorem takesN0 {X : Cx} : L2N.Takes X W0 := fun _ _ x => by
  obtain ⟨_, _, _, _, _, _, _, _, _, _, _, _, _, _, _, _, z⟩ := x
  exact z.elim
instance blk_ctx {X : Cx} {W : WX} [C : Ctx X W] {s : Shared} {H : Hp} {sc : Scope} {e : PySem.Env} {fp : List Addr} : Ctx (X.blk s H sc e fp) W0 := { tk := takesN0, po := .never, nd := C.nd, hu := C.hu, calm := C.calm }
end DL
/-! Rules: statements, blocks, loops; a def by its body. -/
namespace DL
open PySem L2
inductive Fin (K : PySem.W.Frag) where
  | nx (ρ : Env K) | rt (d : D)
/-- what is wanted behind a block -/
def FinOk {K : PySem.W.Frag} (rk : Md) (B H0 : Hp) (D : Ends) : Fin K → Prop
  | .nx ρ' => ∀ F' H' σ', Good B H0 F' H' ρ' σ' → D.nx σ' H'
  | .rt d => ∀ v F' H', Ex B H0 F' H' → Same F' H' → Acc K rk H0 F' H' d v → D.rt v H'
structure KS {T : Type} (X : Cx) (W : WX) (rk : Md) (B H0 : Hp) (r : Res T) (fin : T → Fin X.K) (D : Ends) : Prop where
  ns : r ≠ .stuck
  ok : ∀ a, r = .ok a → FinOk rk B H0 D (fin a)
  xc : ∀ n, r = .exc n → ∀ H' C σ', X.mg n = some C → Same H0 H' → W C none σ' H'
structure SV {T : Type} (X : Cx) (W : WX) (rk : Md) (ρ : Env X.K) (ss : List Stmt) (r : Res T) (fin : T → Fin X.K) : Prop where
  ex : ∃ t, PSs X ss t ∧ ∀ B H0 F H σ D, Good B H0 F H ρ σ → KS X W rk B H0 r fin D → t D σ H
structure S1 {S : Type} (X : Cx) (W : WX) (rk : Md) (ρ : Env X.K) (st : Stmt) (r : Res S) (fin : S → Fin X.K) : Prop where
  ex : ∃ t, PS X st t ∧ ∀ B H0 F H σ D, Good B H0 F H ρ σ → KS X W rk B H0 r fin D → t D σ H
section
variable {X : Cx} {W : WX} {rk m : Md} {ρ : Env X.K} {S T : Type} {st : Stmt} {ss rest : List Stmt} {e c : Expr} {r ra : Res D} {rc : Res Bool} {fin : T → Fin X.K} {pos : Pos}
theorem KS.of_eq {B H0 : Hp} {r r' : Res T} {D : Ends} (h : KS X W rk B H0 r fin D) (e : r = r') : KS X W rk B H0 r' fin D := e ▸ h
theorem KS.imp {B H0 : Hp} {r : Res T} {D D' : Ends} (h : KS X W rk B H0 r fin D) (hn : ∀ σ H, D.nx σ H → D'.nx σ H) (hr : ∀ v H, D.rt v H → D'.rt v H) : KS X W rk B H0 r fin D' :=
  ⟨h.ns, fun a ea => by
    have q := h.ok a ea
    revert q
    cases fin a with
    | nx ρ' => exact fun q F' H' σ' g => hn _ _ (q F' H' σ' g)
    | rt d => exact fun q v F' H' x s a => hr _ _ (q v F' H' x s a), h.xc⟩
/-- behind an expression -/
theorem KS.kn {α β : Type} {B H0 F H : Hp} {σ : St} {r : Res α} {f : α → Res T} {A : Hp → Hp → Hp → α → β → Prop} {D : Ends} {Q : β → Hp → Prop} (g : Good B H0 F H ρ σ) (h : KS X W rk B H0 (r.bd f) fin D)
    (hk : ∀ a b F1 H1, r = .ok a → Ex F H F1 H1 → Same F1 H1 → A H F1 H1 a b → Good B H0 F1 H1 ρ σ → KS X W rk B H0 (f a) fin D → Q b H1) : Kn X W F H σ r A Q :=
  ⟨fun z => h.ns (by rw [z]; rfl), fun a ea b F1 H1 x s q => hk a b F1 H1 ea x s q (g.go x s) (h.of_eq (by rw [ea]; rfl)), fun n en H' C c s => h.xc n (by rw [en]; rfl) H' C σ c (g.ex.hh.trans s)⟩
/-! ### blocks -/
theorem sv_nil {t : T} (h : fin t = .nx ρ) : SV X W rk ρ [] (.ok t) fin := ⟨_, pss_nil, fun B H0 F H σ D g k => by
  have q := k.ok t rfl
  rw [h] at q
  exact q F H σ g⟩
theorem sv_cons {r1 : Res S} {out : S → Env X.K} {k : S → Res T} (h : S1 X W rk ρ st r1 (fun s => .nx (out s))) (hr : ∀ s, SV X W rk (out s) rest (k s) fin) : SV X W rk ρ (st :: rest) (r1.bd k) fin := by
  obtain ⟨t, h1, h2⟩ := h
  have hu : PSs X rest (fun D σ H => ∃ s B H0 F, Good B H0 F H (out s) σ ∧ KS X W rk B H0 (k s) fin D) := ⟨fun pins s' σ H D I ⟨s, B, H0, F, g, q⟩ => by
    obtain ⟨u, u1, u2⟩ := hr s
    exact u1.run pins s' σ H D I (u2 B H0 F H σ D g q)⟩
  refine ⟨_, pss_cons h1 hu, fun B H0 F H σ D g q => h2 B H0 F H σ _ g ⟨fun z => q.ns (by rw [z]; rfl), fun s es => fun F' H' σ' g' => ⟨s, B, H0, F', g', q.of_eq (by rw [es]; rfl)⟩, fun n en => q.xc n (by rw [en]; rfl)⟩⟩
theorem sv_one {r1 : Res T} (h : S1 X W rk ρ st r1 fin) : SV X W rk ρ [st] r1 fin := by
  obtain ⟨t, h1, h2⟩ := h
  exact ⟨t, pss_one h1, h2⟩
/-- a block that may return ahead of the rest -/
theorem sv_consC {r1 : Res (Ctl S)} {out : S → Env X.K} {k : S → Res T} {mk : D → T} (h : S1 X W rk ρ st r1 (fun s => match s with | .next s => .nx (out s) | .ret d => .rt d)) (hm : ∀ d, fin (mk d) = .rt d) (hr : ∀ s, SV X W rk (out s) rest (k s) fin) : SV X W rk ρ (st :: rest) (r1.thenC mk k) fin := by
  obtain ⟨t, h1, h2⟩ := h
  have hu : PSs X rest (fun D σ H => ∃ s B H0 F, Good B H0 F H (out s) σ ∧ KS X W rk B H0 (k s) fin D) := ⟨fun pins s' σ H D I ⟨s, B, H0, F, g, q⟩ => by
    obtain ⟨u, u1, u2⟩ := hr s
    exact u1.run pins s' σ H D I (u2 B H0 F H σ D g q)⟩
  refine ⟨_, pss_cons h1 hu, fun B H0 F H σ D g q => h2 B H0 F H σ _ g ⟨fun z => q.ns (by rw [z]; rfl), fun a ea => ?_, fun n en => q.xc n (by rw [en]; rfl)⟩⟩
  cases a with
  | next s => exact fun F' H' σ' g' => ⟨s, B, H0, F', g', q.of_eq (by rw [ea]; rfl)⟩
  | ret d =>
    have z := q.ok (mk d) (by rw [ea]; rfl)
    rw [hm] at z
    exact z
theorem sv_ret {mk : D → T} (he : EG X W ρ rk e r) (hm : ∀ d, fin (mk d) = .rt d) : SV X W rk ρ [.Return (some e) pos] (r.bd fun d => .ok (mk d)) fin := by
  obtain ⟨t, h1, h2⟩ := he
  refine ⟨_, pss_one (ps_ret h1), fun B H0 F H σ D g q => h2 B H0 F H σ _ g (KS.kn g q fun d v F1 H1 _ x s a g' q' => ?_)⟩
  have z := q'.ok (mk d) rfl
  rw [hm] at z
  exact z v F1 H1 g'.ex s (a.base g.ex.hh)
theorem sv_retD (he : EG X W ρ rk e r) : SV X W rk ρ [.Return (some e) pos] r Fin.rt := by
  have h := sv_ret (fin := Fin.rt) (mk := id) (pos := pos) he fun _ => rfl
  simpa using h
/-- if c: (a block that returns); the rest -/
theorem sv_ifRet {blk : List Stmt} {mk : D → T} {r2 : Res T} (hc : TG' X W ρ c rc) (hb : SV X W rk ρ blk ra Fin.rt) (hm : ∀ d, fin (mk d) = .rt d) (hr : SV X W rk ρ rest r2 fin) : SV X W rk ρ (.If c blk [] pos :: rest) (ifR rc (ra.bd fun d => .ok (mk d)) r2) fin := by
  obtain ⟨tc, c1, c2⟩ := hc
  obtain ⟨tb, b1, b2⟩ := hb
  obtain ⟨tr, r1, r2'⟩ := hr
  have hu : PSs X rest (fun D σ H => ∃ B H0 F, Good B H0 F H ρ σ ∧ KS X W rk B H0 r2 fin D) := ⟨fun pins s' σ H D I ⟨B, H0, F, g, q⟩ => r1.run pins s' σ H D I (r2' B H0 F H σ D g q)⟩
  refine ⟨_, pss_cons (ps_if c1 b1 pss_nil) hu, fun B H0 F H σ D g q => c2 B H0 F H σ _ g (KS.kn g q fun k b F1 H1 _ x s a g' q' => ?_)⟩
  cases a
  cases k with
  | true =>
    rw [if_pos rfl]
    have q2 := q'.of_eq (if_pos rfl)
    refine b2 B H0 F1 H1 σ _ g' ⟨fun z => q2.ns (by rw [z]; rfl), fun d ed => ?_, fun n en => q2.xc n (by rw [en]; rfl)⟩
    have z := q2.ok (mk d) (by rw [ed]; rfl)
    rw [hm] at z
    exact z
  | false =>
    rw [if_neg Bool.false_ne_true]
    exact ⟨B, H0, F1, g', q'.of_eq (if_neg Bool.false_ne_true)⟩
theorem sv_ifRetD {blk : List Stmt} {r2 : Res D} (hc : TG' X W ρ c rc) (hb : SV X W rk ρ blk ra Fin.rt) (hr : SV X W rk ρ rest r2 Fin.rt) : SV X W rk ρ (.If c blk [] pos :: rest) (ifR rc ra r2) Fin.rt := by
  have h := sv_ifRet (fin := Fin.rt) (mk := id) (pos := pos) hc hb (fun _ => rfl) hr
  simpa using h
/-- if c: a else: b, at the end of a block -/
theorem s1_if {a b : List Stmt} {r1 r2 : Res T} (hc : TG' X W ρ c rc) (ha : SV X W rk ρ a r1 fin) (hb : SV X W rk ρ b r2 fin) : S1 X W rk ρ (.If c a b pos) (ifR rc r1 r2) fin := by
  obtain ⟨tc, c1, c2⟩ := hc
  obtain ⟨ta, a1, a2⟩ := ha
  obtain ⟨tb, b1, b2⟩ := hb
  refine ⟨_, ps_if c1 a1 b1, fun B H0 F H σ D g q => c2 B H0 F H σ _ g (KS.kn g q fun k b F1 H1 _ x s a g' q' => ?_)⟩
  cases a
  cases k with
  | true => rw [if_pos rfl]; exact a2 B H0 F1 H1 σ D g' (q'.of_eq (if_pos rfl))
  | false => rw [if_neg Bool.false_ne_true]; exact b2 B H0 F1 H1 σ D g' (q'.of_eq (if_neg Bool.false_ne_true))
/-! ### less is known -/
/-- slots may be frozen or forgotten -/
def Wk {K : PySem.W.Frag} (ρ ρ' : Env K) : Prop := ∀ B H0 F H σ, Good B H0 F H ρ σ → ∃ F', Same F F' ∧ Good B H0 F' H ρ' σ
theorem Wk.refl {K : PySem.W.Frag} (ρ : Env K) : Wk ρ ρ := fun B H0 F H σ g => ⟨F, Same.refl _, g⟩
theorem Wk.trans {K : PySem.W.Frag} {a b c : Env K} (h : Wk a b) (h' : Wk b c) : Wk a c := fun B H0 F H σ g => by
  obtain ⟨F1, s1, g1⟩ := h B H0 F H σ g
  obtain ⟨F2, s2, g2⟩ := h' B H0 F1 H σ g1
  exact ⟨F2, s1.trans s2, g2⟩
theorem sv_wk {ρ' : Env X.K} {r : Res T} (w : Wk ρ ρ') (h : SV X W rk ρ' ss r fin) : SV X W rk ρ ss r fin := by
  obtain ⟨t, h1, h2⟩ := h
  refine ⟨t, h1, fun B H0 F H σ D g q => ?_⟩
  obtain ⟨F', _, g'⟩ := w B H0 F H σ g
  exact h2 B H0 F' H σ D g' q
theorem set_self {α : Type} : ∀ {l : List α} {i : Nat} {a : α}, l[i]? = some a → l.set i a = l
  | _ :: _, 0, _, h => by simp at h; subst h; rfl
  | x :: l, i + 1, a, h => by simp at h; simp [set_self h]
  | [], _, _, h => by simp at h
/-- a list of one's own is frozen -/
theorem wk_fz {K : PySem.W.Frag} {ρ : Env K} (i : Nat) {d : D} (h : ρ[i]? = some (cRes d)) : Wk ρ (ρ.set i (cVal d)) := fun B H0 F H σ ⟨e, f, ass, h1, h2, h3⟩ => by
  obtain ⟨v, as, g1, g2, y, g3, g4⟩ := h1.get h
  subst g3
  have sub : ∀ a ∈ as, a ∈ ass.flatten := fun a ha => List.mem_flatten.mpr ⟨as, List.mem_of_getElem? g2, ha⟩
  have hn : ∀ a ∈ as, F a = none := fun a ha => (h3 a (sub a ha)).1
  have out : ∀ a ∈ (ass.set i []).flatten, a ∈ ass.flatten ∧ a ∉ as := fun a ha => by
    rcases mem_flatten_set ha with z | z
    · exact ⟨z, fun q => not_in_set h2 g2 q (List.not_mem_nil) ha⟩
    · cases z
  refine ⟨fz as F H, fz_ff hn, ⟨e.ff.trans (fz_ff hn), e.hh, fun a ha => ?_⟩, fz_fh f, ass.set i [], ?_, nodup_flatten_set' h2 g2 List.nodup_nil (fun _ z => nomatch z), fun a ha => ?_⟩
  · rw [fz_out fun z => ha (h3 a (sub a z)).2, e.eq a ha]
  · have s2 : Slots (fz as F H) H ρ σ ass := h1.mono (fz_ff hn) fun _ _ => rfl
    have s3 := Slots.set (i := i) (c := cVal d) (v := some y) (as := []) s2 ⟨rfl, y, rfl, g4.fz hn⟩
    rwa [set_self g1] at s3
  · obtain ⟨z1, z2⟩ := out a ha
    rw [fz_out z2]
    exact h3 a z1
/-- a slot is forgotten -/
theorem wk_any {K : PySem.W.Frag} {ρ : Env K} (i : Nat) : Wk ρ (ρ.set i cAny) := fun B H0 F H σ ⟨e, f, ass, h1, h2, h3⟩ => by
  by_cases hi : i < ρ.length
  · obtain ⟨v, as, g1, g2, _⟩ := h1.get (List.getElem?_eq_getElem hi)
    have s3 := Slots.set (i := i) (c := (cAny : Cell K)) (v := v) (as := []) h1 rfl
    rw [set_self g1] at s3
    refine ⟨F, Same.refl _, e, f, ass.set i [], s3, nodup_flatten_set' h2 g2 List.nodup_nil (fun _ z => nomatch z), fun a ha => ?_⟩
    rcases mem_flatten_set ha with z | z
    · exact h3 a z
    · cases z
  · rw [List.set_eq_of_length_le (Nat.le_of_not_lt hi)]
    exact ⟨F, Same.refl _, e, f, ass, h1, h2, h3⟩
/-! ### stores -/
theorem Good.setO {K : PySem.W.Frag} {B H0 F H F' H' : Hp} {ρ : Env K} {σ : St} {d : D} {v : V} {i : Nat} (g : Good B H0 F H ρ σ) (x : Ex F H F' H') (s : Same F' H') (a : Acc K .O H F' H' d v) : Good B H0 F' H' (ρ.set i (cRes d)) (σ.set i (some v)) := by
  obtain ⟨as, r, hn⟩ := a
  have nd : as.Nodup := by
    rcases r with ⟨_, _, _, _, _, rfl, _⟩ | ⟨_, rfl, _⟩
    · simp
    · simp
  obtain ⟨e, f, ass, h1, h2, h3⟩ := id g
  have th := h1.there
  have h1' : Slots F' H' ρ σ ass := h1.mono x.ff fun a ha => Same.ne x.hh (th a ha)
  refine ⟨e.trans x, s, ass.set i as, h1'.set (c := cRes d) ⟨v, rfl, r⟩, nodup_flatten_set h2 nd fun b hb hm => th b hm (hn b hb).1, fun b hb => ?_⟩
  rcases mem_flatten_set hb with z | z
  · rw [x.eq b (th b z)]; exact h3 b z
  · exact ⟨(hn b z).2, Same.free e.hh (hn b z).1⟩
/-- x = e -/
theorem s1_set [C : CtxB X W] {x : Str} {pos' : Pos} (i : Nat) (he : EG X W ρ .V e r) (hi : X.N[i]? = some x := by rfl) (hx : Loc X.env.scope x := by first | exact Or.inl rfl | exact Or.inr rfl) (hs : swapsWith e (some (.Name x pos')) pos.line X.env = pure false := by rfl) (hf : X.fn x = true ∨ X.env.scope.names.lookup x = some .local := by first | exact .inl rfl | exact .inr rfl) :
    S1 X W rk ρ (.Assign [.Name x pos'] e pos) r (fun d => .nx (ρ.set i (cVal d))) := by
  obtain ⟨t, h1, h2⟩ := he
  refine ⟨_, ps_set C.nd hi hx h1 hs hf, fun B H0 F H σ D g q => h2 B H0 F H σ _ g ⟨q.ns, fun d ed v F' H' x s a => ?_, fun n en H' C c s => q.xc n en H' C σ c (g.ex.hh.trans s)⟩⟩
  exact q.ok d ed F' H' _ ((g.go x s).setV a)
theorem s1_setO [C : CtxB X W] {x : Str} {pos' : Pos} (i : Nat) (he : EG X W ρ .O e r) (hi : X.N[i]? = some x := by rfl) (hx : Loc X.env.scope x := by first | exact Or.inl rfl | exact Or.inr rfl) (hs : swapsWith e (some (.Name x pos')) pos.line X.env = pure false := by rfl) (hf : X.fn x = true ∨ X.env.scope.names.lookup x = some .local := by first | exact .inl rfl | exact .inr rfl) :
    S1 X W rk ρ (.Assign [.Name x pos'] e pos) r (fun d => .nx (ρ.set i (cRes d))) := by
  obtain ⟨t, h1, h2⟩ := he
  refine ⟨_, ps_set C.nd hi hx h1 hs hf, fun B H0 F H σ D g q => h2 B H0 F H σ _ g ⟨q.ns, fun d ed v F' H' x s a => ?_, fun n en H' C c s => q.xc n en H' C σ c (g.ex.hh.trans s)⟩⟩
  exact q.ok d ed F' H' _ (g.setO x s a)
def augI (g : Int → Int → Int) : D → D → Res D
  | .int i, .int j => .ok (.int (g i j))
  | _, _ => .stuck
/-- x = [.. for ..] on one line -/
theorem s1_setLc [C : Ctx X W] {elt tg iter : Expr} {ifs : List Expr} {scope : Scope} {own : List (Str × Nat)} {f : D → Res (Env X.K)} {cond : D → Res Bool} {elt' : D → Res D} {rs : Res (List D)} {y : Str} {py pos spos : Pos} (i : Nat) (hy : X.N[i]? = some y) (hyl : X.env.scope.names.lookup y = some .local)
    (hsw : swapsWith (.ListComp elt [⟨tg, iter, ifs, 0⟩] scope pos) (some (.Name y py)) spos.line X.env = pure true) (hi : IG X W ρ tg iter rs) (ok : BlkOk X.N X.env.scope scope own)
    (hx : ∀ d n, f d ≠ .exc n)
    (hg : ∀ (s : Shared) (H : Hp) (C : Addr) (cl : List (Str × Addr)) (fp : List Addr), GG (X.blk s H scope (compEnvC scope cl C X.env) fp) tg (own.map (·.2)) (wipeE ρ (own.map (·.2))) f)
    (ht : ∀ (s : Shared) (H : Hp) (C : Addr) (cl : List (Str × Addr)) (fp : List Addr) (d : D) (ρ' : Env X.K), f d = .ok ρ' → QG (X.blk s H scope (compEnvC scope cl C X.env) fp) W0 ρ' ifs (cond d))
    (he : ∀ (s : Shared) (H : Hp) (C : Addr) (cl : List (Str × Addr)) (fp : List Addr) (d : D) (ρ' : Env X.K), f d = .ok ρ' → EG (X.blk s H scope (compEnvC scope cl C X.env) fp) W0 ρ' .V elt (elt' d)) (hs : ∀ x, foldedSetIterable iter X.env x = pure x := by intro _; rfl) :
    S1 X W rk ρ (.Assign [.Name y py] (.ListComp elt [⟨tg, iter, ifs, 0⟩] scope pos) spos) (rs.bd fun ds => (lcR (fun d => (f d).bd fun _ => cond d) elt' ds).bd lstR) (fun d => .nx (ρ.set i (cRes d))) := by
  obtain ⟨t, h1, h2⟩ := eg_lcS hi ok hx hg ht he hs
  refine ⟨_, ps_setLc C.calm C.nd hy hyl hsw h1.1 ok h1.2.1 h1.2.2.1 h1.2.2.2 hs, fun B H0 F H σ D g q => h2 B H0 F H σ _ g ⟨q.ns, fun d ed v F' H' x s a => ?_, fun n en H' C c s => q.xc n en H' C σ c (g.ex.hh.trans s)⟩⟩
  exact q.ok d ed F' H' _ (g.setO x s a)
end
end DL
/-! Rules: changes of a list of one's own, loops, a def by its body. -/
namespace DL
open PySem L2
/-- what slot i holds, where it owns a list -/
theorem ok_ns {α : Type} (a : α) : Res.ok a ≠ .stuck := fun z => nomatch z
theorem forC_cons {S : Type} (body : D → S → Res (Ctl S)) (d : D) (ds : List D) (s : S) : forC body (d :: ds) s = (body d s).bd fun | .next s' => forC body ds s' | .ret r => .ok (.ret r) := rfl
theorem Good.own {K : PySem.W.Frag} {B H0 F H : Hp} {ρ : Env K} {σ : St} {i : Nat} {ds : List D} (g : Good B H0 F H ρ σ) (h : ρ[i]? = some (cRes (.list ds))) :
    ∃ a xs, σ[i]? = some (some (.ref a)) ∧ H a = some (.lst xs) ∧ F a = none ∧ DpAll K F xs ds ∧
      ∀ ys es, DpAll K F ys es → Good B H0 F (upd H a (.lst ys)) (ρ.set i (cRes (.list es))) σ := by
  obtain ⟨e, f, ass, h1, h2, h3⟩ := g
  obtain ⟨v, as, g1, g2, y, g3, g4⟩ := h1.get h
  subst g3
  rcases g4 with ⟨_, z, a, xs, rfl, rfl, q1, q2⟩ | ⟨z, _⟩
  · cases z
    have ha : a ∈ ass.flatten := List.mem_flatten.mpr ⟨[a], List.mem_of_getElem? g2, by simp⟩
    have hF := (h3 a ha).1
    refine ⟨a, xs, g1, q1, hF, q2, fun ys es q => ?_⟩
    have s3 := Slots.set (i := i) (c := (cAny : Cell K)) (v := some (V.ref a)) (as := []) h1 rfl
    rw [set_self g1] at s3
    have na : a ∉ (ass.set i []).flatten := not_in_set h2 g2 (by simp) List.not_mem_nil
    have s4 : Slots F (upd H a (.lst ys)) (ρ.set i cAny) σ (ass.set i []) := s3.mono (Same.refl F) fun b hb => upd_ne fun z => na (z ▸ hb)
    have s5 := Slots.set (i := i) (c := (cRes (.list es) : Cell K)) (v := some (V.ref a)) (as := [a]) s4 ⟨.ref a, rfl, .inl ⟨es, rfl, a, ys, rfl, rfl, upd_same, q⟩⟩
    rw [set_self g1, List.set_set, List.set_set, set_self g2] at s5
    refine ⟨⟨e.ff, fun b o hb => ?_, e.eq⟩, Same.updO f hF, ass, s5, h2, h3⟩
    rw [upd_ne (fun z => by rw [z, (h3 a ha).2] at hb; cases hb)]
    exact e.hh b o hb
  · cases z
def onL {α : Type} (d : D) (f : List D → Res α) : Res α := match d with
  | .list ds => f ds
  | _ => .stuck
@[simp] theorem onL_list {α : Type} (ds : List D) (f : List D → Res α) : onL (.list ds) f = f ds := id rfl
theorem onL_ns {α : Type} {d : D} {f : List D → Res α} (h : onL d f ≠ .stuck) : ∃ ds, d = .list ds := by
  cases d <;> first | exact absurd rfl h | exact ⟨_, rfl⟩
def app1 (ds : List D) (d : D) : Res D := if decide (ds.length < 16777216) then .ok (.list (ds ++ [d])) else .stuck
def extL (ds : List D) (d : D) : Res D := onL d fun es => if fits (ds.length + es.length) then .ok (.list (ds ++ es)) else .stuck
def setL (ds : List D) (i v : D) : Res D := match i with
  | .int k => match L2.ixN ds.length k with | some j => .ok (.list (ds.set j v)) | none => .stuck
  | _ => .stuck
section
variable {X : Cx} {W : WX} {rk m : Md} {ρ : Env X.K} {S T : Type} {st : Stmt} {ss rest body : List Stmt} {e c : Expr} {r ra rv ri : Res D} {rc : Res Bool} {rs : Res (List D)} {fin : T → Fin X.K} {pos : Pos} {vs : List Nat}
theorem s1_append [C : Ctx X W] {x : Str} {p2 apos cpos : Pos} {d0 : D} (i : Nat) (hρ : ρ[i]? = some (cRes d0)) (he : EG X W ρ .V e r) (hN : X.N[i]? = some x := by rfl) (hv : Vis X.env.scope x := by first | exact Or.inl rfl | exact Or.inr (Or.inl rfl) | exact Or.inr (Or.inr rfl))
    (hd : (x == ("__debug__" : Str)) = false := by decide) (hcd : (x == ("__classdict__" : Str)) = false := by decide)
    (hbase : attributeBase (.Name x p2) "append" X.env (eval (.Name x p2) X.env) = eval (.Name x p2) X.env := by rfl)
    (hfew : ((backTo cpos (starEach [e] X.env)).all (fun x => !x.1) && (backToKw cpos (keywordEach [] X.env)).all (fun x => x.1.isSome) && decide (([e] : List Expr).length + ([] : List Keyword).length + (if ([] : List Keyword).isEmpty then 0 else 1) < 30)) = true := by rfl)
    (hline : (apos.endLine == cpos.line) = true := by rfl) (hs : starEach [e] X.env = (false, eval e X.env) :: starEach [] X.env := by rfl) (hplain : (backTo cpos (starEach [] X.env)).any (·.1) = false := by rfl)
    (hsw : swapsWith (.Call (.Attribute (.Name x p2) "append" apos) [e] [] cpos) none pos.line X.env = pure false := by rfl) :
    S1 X W rk ρ (.Expr (.Call (.Attribute (.Name x p2) "append" apos) [e] [] cpos) pos) (onL d0 fun ds => r.bd fun d => app1 ds d) (fun d => .nx (ρ.set i (cRes d))) := by
  obtain ⟨t, h1, h2⟩ := he
  refine ⟨_, ps_expr (pe_bm PySem.F.plainAttrs_list PySem.F.slot_list_append PySem.F.type_list_append mt_append (pe_var hN hv hd hcd) (pa_cons h1 pa_nil hs) hbase hfew hline hs hplain) hsw, fun B H0 F H σ D g q => ?_⟩
  obtain ⟨ds, rfl⟩ := onL_ns q.ns
  rw [onL_list] at q
  obtain ⟨a, xs, o1, o2, o3, o4, o5⟩ := g.own hρ
  refine ⟨_, o1, .inl ⟨rfl, _, SqL.of o2⟩, h2 B H0 F H σ _ g (KS.kn g q fun d v F1 H1 _ x s ac g' q' => ?_)⟩
  obtain ⟨a', xs', p1, p2, p3, p4, p5⟩ := g'.own hρ
  rw [o1] at p1
  cases p1
  have l := DpAll.length p4
  cases c : decide (ds.length < 16777216) with
  | false => exact absurd (by simp only [app1, c]; rfl) q'.ns
  | true =>
    have q2 := q'.of_eq (r' := .ok (.list (ds ++ [d]))) (by simp only [app1, c]; rfl)
    refine ⟨a, xs', v, rfl, rfl, p2, by rw [l, PySem.sizeLine_eq]; exact of_decide_eq_true c, ?_⟩
    exact q2.ok _ rfl F1 _ _ (p5 _ _ (DpAll.append p4 (.cons ac .nil)))
theorem s1_extend [C : Ctx X W] {x : Str} {p2 apos cpos : Pos} {d0 : D} (i : Nat) (hρ : ρ[i]? = some (cRes d0)) (he : EG X W ρ .O e r) (hN : X.N[i]? = some x := by rfl) (hv : Vis X.env.scope x := by first | exact Or.inl rfl | exact Or.inr (Or.inl rfl) | exact Or.inr (Or.inr rfl))
    (hd : (x == ("__debug__" : Str)) = false := by decide) (hcd : (x == ("__classdict__" : Str)) = false := by decide)
    (hbase : attributeBase (.Name x p2) "extend" X.env (eval (.Name x p2) X.env) = eval (.Name x p2) X.env := by rfl)
    (hfew : ((backTo cpos (starEach [e] X.env)).all (fun x => !x.1) && (backToKw cpos (keywordEach [] X.env)).all (fun x => x.1.isSome) && decide (([e] : List Expr).length + ([] : List Keyword).length + (if ([] : List Keyword).isEmpty then 0 else 1) < 30)) = true := by rfl)
    (hline : (apos.endLine == cpos.line) = true := by rfl) (hs : starEach [e] X.env = (false, eval e X.env) :: starEach [] X.env := by rfl) (hplain : (backTo cpos (starEach [] X.env)).any (·.1) = false := by rfl)
    (hsw : swapsWith (.Call (.Attribute (.Name x p2) "extend" apos) [e] [] cpos) none pos.line X.env = pure false := by rfl) :
    S1 X W rk ρ (.Expr (.Call (.Attribute (.Name x p2) "extend" apos) [e] [] cpos) pos) (onL d0 fun ds => r.bd fun d => extL ds d) (fun d => .nx (ρ.set i (cRes d))) := by
  obtain ⟨t, h1, h2⟩ := he
  refine ⟨_, ps_expr (pe_bm PySem.F.plainAttrs_list PySem.F.slot_list_extend PySem.F.type_list_extend mt_extend (pe_var hN hv hd hcd) (pa_cons h1 pa_nil hs) hbase hfew hline hs hplain) hsw, fun B H0 F H σ D g q => ?_⟩
  obtain ⟨ds, rfl⟩ := onL_ns q.ns
  rw [onL_list] at q
  obtain ⟨a, xs, o1, o2, o3, o4, o5⟩ := g.own hρ
  refine ⟨_, o1, .inl ⟨rfl, _, SqL.of o2⟩, h2 B H0 F H σ _ g (KS.kn g q fun d v F1 H1 _ x s ac g' q' => ?_)⟩
  obtain ⟨a', xs', p1, p2, p3, p4, p5⟩ := g'.own hρ
  rw [o1] at p1
  cases p1
  obtain ⟨es, rfl⟩ := onL_ns q'.ns
  obtain ⟨as, hr, hn⟩ := ac
  rcases hr with ⟨_, z, b, zs, rfl, rfl, r1, r2⟩ | ⟨z, _⟩
  · cases z
    have l := DpAll.length p4
    have l2 := DpAll.length r2
    cases c : fits (ds.length + es.length) with
    | false => exact absurd (by simp only [extL, onL_list, c]; rfl) q'.ns
    | true =>
      have q2 := q'.of_eq (r' := .ok (.list (ds ++ es))) (by simp only [extL, onL_list, c]; rfl)
      refine ⟨a, b, xs', zs, rfl, rfl, p2, r1, by rw [l, l2]; exact fits_le c, ?_⟩
      exact q2.ok _ rfl F1 _ _ (p5 _ _ (DpAll.append p4 r2))
  · cases z
/-- x[i] = v -/
theorem s1_store [C : Ctx X W] {x : Str} {ei ev : Expr} {p2 p3 : Pos} {d0 : D} (i : Nat) (hρ : ρ[i]? = some (cRes d0)) (hv' : EG X W ρ .V ev rv) (hi' : EG X W ρ .T ei ri) (hN : X.N[i]? = some x := by rfl) (hv : Vis X.env.scope x := by first | exact Or.inl rfl | exact Or.inr (Or.inl rfl) | exact Or.inr (Or.inr rfl))
    (hd : (x == ("__debug__" : Str)) = false := by decide) (hcd : (x == ("__classdict__" : Str)) = false := by decide)
    (ha : ∀ v, assign (.Subscript (.Name x p2) ei p3) X.env v = (do
      let ov ← holding [v] (eval (.Name x p2) X.env)
      let iv ← holding [v, ov] (eval ei X.env)
      standAt p3
      holding [v, ov, iv] (setItem ov iv v)
      release [v, ov, iv] []) := by intro _; rfl)
    (hs : swapsWithSole [.Subscript (.Name x p2) ei p3] ev pos.line X.env = pure false := by rfl) (hw : swappedStores [.Subscript (.Name x p2) ei p3] ev X.env = pure none := by rfl)
    (h1 : (assignEach [.Subscript (.Name x p2) ei p3] X.env).map (·.2) = [assign (.Subscript (.Name x p2) ei p3) X.env] := by rfl) :
    S1 X W rk ρ (.Assign [.Subscript (.Name x p2) ei p3] ev pos) (onL d0 fun ds => rv.bd fun v => ri.bd fun k => setL ds k v) (fun d => .nx (ρ.set i (cRes d))) := by
  obtain ⟨tv, v1, v2⟩ := hv'
  obtain ⟨ti, i1, i2⟩ := hi'
  refine ⟨_, ps_asg v1 (pg_sub (pe_var hN hv hd hcd) i1 set_list ha) hs hw h1, fun B H0 F H σ D g q => ?_⟩
  obtain ⟨ds, rfl⟩ := onL_ns q.ns
  rw [onL_list] at q
  refine v2 B H0 F H σ _ g (KS.kn g q fun d v F1 H1 _ x s ac g' q' => ?_)
  obtain ⟨a, xs, o1, o2, o3, o4, o5⟩ := g'.own hρ
  refine ⟨_, o1, i2 B H0 F1 H1 σ _ g' (KS.kn g' q' fun k w F2 H2 _ x2 s2 ac2 g2 q2 => ?_)⟩
  obtain ⟨a', xs', p1, p2, p3, p4, p5⟩ := g2.own hρ
  rw [o1] at p1
  cases p1
  cases k <;> first | exact absurd rfl q2.ns | skip
  cases tp_int ac2
  rename_i k _
  cases c : L2.ixN ds.length k with
  | none => exact absurd (by simp only [setL, c]) q2.ns
  | some j =>
    have q3 := q2.of_eq (r' := .ok (.list (ds.set j d))) (by simp only [setL, c])
    refine ⟨a, xs', k, j, rfl, rfl, p2, by rw [DpAll.length p4]; exact c, ?_⟩
    exact q3.ok _ rfl F2 _ _ (p5 _ _ (DpAll.set (Dp.mono x2.ff _ _ ac) _ p4))
/-! ### loops -/
/-- the base of a loop: what is frozen at its entry, what stood at the block's -/
def hl (H0 F H : Hp) : Hp := fun a => match H0 a with | some _ => H a | none => F a
theorem hl_some {H0 F H : Hp} {a : Addr} (h : H0 a ≠ none) : hl H0 F H a = H a := by
  unfold hl
  cases e : H0 a with
  | none => exact absurd e h
  | some o => rfl
theorem hl_none {H0 F H : Hp} {a : Addr} (h : H0 a = none) : hl H0 F H a = F a := by
  unfold hl; rw [h]
theorem Good.inl {B H0 F H : Hp} {σ : St} (g : Good B H0 F H ρ σ) : Good F (hl H0 F H) F H ρ σ := by
  obtain ⟨e, f, ass, h1, h2, h3⟩ := g
  refine ⟨⟨Same.refl _, fun a o ha => ?_, fun _ _ => rfl⟩, f, ass, h1, h2, fun a ha => ⟨(h3 a ha).1, ?_⟩⟩
  · cases z : H0 a with
    | none => rw [hl_none z] at ha; exact f a o ha
    | some u => rwa [hl_some (by rw [z]; exact fun z => nomatch z)] at ha
  · rw [hl_none (h3 a ha).2]; exact (h3 a ha).1
theorem ex_out {B H0 F H F' H' : Hp} (e : Ex B H0 F H) (x : Ex F (hl H0 F H) F' H') : Ex B H0 F' H' := by
  refine ⟨e.ff.trans x.ff, fun a o ha => ?_, fun a ha => ?_⟩
  · exact x.hh a o (by rw [hl_some (by rw [ha]; exact fun z => nomatch z)]; exact e.hh a o ha)
  · rw [x.eq a (by rw [hl_some ha]; exact Same.ne' e.hh ha), e.eq a ha]
theorem Good.out {B H0 F H F' H' : Hp} {ρ' : Env X.K} {σ' : St} (e : Ex B H0 F H) (g : Good F (hl H0 F H) F' H' ρ' σ') : Good B H0 F' H' ρ' σ' := by
  obtain ⟨x, f, ass, h1, h2, h3⟩ := g
  refine ⟨ex_out e x, f, ass, h1, h2, fun a ha => ⟨(h3 a ha).1, ?_⟩⟩
  cases z : H0 a with
  | none => rfl
  | some o =>
    have := (h3 a ha).2
    rw [hl_some (by rw [z]; exact fun z => nomatch z), e.hh a o z] at this
    cases this
theorem hl_free {B H0 F H : Hp} (e : Ex B H0 F H) {a : Addr} (h : hl H0 F H a = none) : H0 a = none := by
  cases z : H0 a with
  | none => rfl
  | some o => rw [hl_some (by rw [z]; exact fun z => nomatch z), e.hh a o z] at h; cases h
/-- a loop whose turn may return -/
theorem s1_forC [C : Ctx X W] {tg iter : Expr} {out : S → Env X.K} {f : S → D → Res (Env X.K)} {rb : D → S → Res (Ctl S)} {s0 : S} (hi : IF' X W ρ tg iter rs) (hw : Wk ρ (out s0)) (hx : ∀ s d n, f s d ≠ .exc n)
    (hg : ∀ s, GG X tg vs (out s) (f s)) (hb : ∀ s d ρ', f s d = .ok ρ' → SV X W rk ρ' body (rb d s) (fun t => match t with | .next s => .nx (out s) | .ret d => .rt d)) (hs : ∀ x, foldedSetIterable iter X.env x = pure x := by intro _; rfl) :
    S1 X W rk ρ (.For tg iter body [] pos) (rs.bd fun ds => forC (fun d s => (f s d).bd fun _ => rb d s) ds s0) (fun t => match t with | .next s => .nx (out s) | .ret d => .rt d) := by
  obtain ⟨ti, i1, i2⟩ := hi
  have hg' : PG X tg (fun x σ H Q => ∃ s B H0 F d, Good B H0 F H (out s) σ ∧ Dp X.K F x d ∧ f s d ≠ .stuck ∧ ∀ ρ' σ', f s d = .ok ρ' → Good B H0 F H ρ' σ' → Q σ' H) := ⟨fun pins s' σ H v u Q I r ⟨s, B, H0, F, d, g, p, n, k⟩ => by
    obtain ⟨gt, g1, g2⟩ := hg s
    exact g1.run pins s' σ H v u Q I r (g2 B H0 F H σ v d Q g p n fun ρ' σ' e g' _ => k ρ' σ' e g')⟩
  have hb' : PSs X body (fun D σ H => ∃ s d ρ' B H0 F, f s d = .ok ρ' ∧ Good B H0 F H ρ' σ ∧ KS X W rk B H0 (rb d s) (fun t => match t with | .next s => .nx (out s) | .ret d => .rt d) D) := ⟨fun pins s' σ H D I ⟨s, d, ρ', B, H0, F, e, g, k⟩ => by
    obtain ⟨u, u1, u2⟩ := hb s d ρ' e
    exact u1.run pins s' σ H D I (u2 B H0 F H σ D g k)⟩
  refine ⟨_, ps_for C.po C.calm i1 hg' hb' hs, fun B H0 F H σ D g q => i2 B H0 F H σ _ g (KS.kn g q fun ds J F1 H1 _ x s w g1 q1 => ?_)⟩
  obtain ⟨F2, s12, g2⟩ := hw B H0 F1 H1 σ g1
  refine ⟨fun i m σ H => m = ds.length - i ∧ i ≤ ds.length ∧ ∃ F s, Good F2 (hl H0 F2 H1) F H (out s) σ ∧ forC (fun d s => (f s d).bd fun _ => rb d s) (ds.drop i) s = forC (fun d s => (f s d).bd fun _ => rb d s) ds s0, ⟨ds.length, by simp, Nat.zero_le _, F2, s0, g2.inl, rfl⟩, ?_⟩
  rintro i m σ3 H3 ⟨rfl, hi, F3, s3, g3, hr⟩
  obtain ⟨stop, go⟩ := w F3 H3 (s12.trans g3.ex.ff) g3.fh
  by_cases hlt : i < ds.length
  · have dget : ds[i]? = some ds[i] := List.getElem?_eq_getElem hlt
    obtain ⟨go1, go2⟩ := go i _ dget
    refine .inr ⟨go1, fun σ H => i + 1 ≤ ds.length ∧ ∃ F s, Good F2 (hl H0 F2 H1) F H (out s) σ ∧ forC (fun d s => (f s d).bd fun _ => rb d s) (ds.drop (i + 1)) s = forC (fun d s => (f s d).bd fun _ => rb d s) ds s0, fun σ' H' z => ⟨ds.length - (i + 1), by omega, rfl, z⟩, fun x H4 y => ?_⟩
    obtain ⟨F4, x4, s4, d4⟩ := go2 x H4 y
    have hdrop : ds.drop i = ds[i] :: ds.drop (i + 1) := List.drop_eq_getElem_cons hlt
    rw [hdrop] at hr
    generalize hdi : ds[i] = d at *
    rw [forC_cons] at hr
    obtain ⟨ρ', hf⟩ : ∃ ρ', f s3 d = .ok ρ' := by
      cases e : f s3 d with
      | ok ρ' => exact ⟨ρ', rfl⟩
      | exc n => exact absurd e (hx s3 d n)
      | stuck => rw [e] at hr; exact absurd hr.symm (by first | exact q1.ns | (intro z; exact q1.ns z))
    refine ⟨s3, F2, hl H0 F2 H1, F4, d, g3.go x4 s4, d4, by rw [hf]; exact ok_ns _, fun ρ2 σ2 e2 g4 => ⟨s3, d, ρ2, F2, hl H0 F2 H1, F4, e2, g4, ?_⟩⟩
    simp only [hf, bd_ok] at hr
    refine ⟨fun z => q1.ns (by rw [← hr, z]; rfl), fun t et => ?_, fun n en H' C' σ' c z => ?_⟩
    · rw [et] at hr
      cases t with
      | next s5 => exact fun F' H' σ' g5 => ⟨hlt, F', s5, g5, hr⟩
      | ret d5 =>
        have z := q1.ok (.ret d5) hr.symm
        exact fun v F' H' e5 f5 a5 => z v F' H' (ex_out g2.ex e5) f5 (by
          cases rk with
          | V => exact a5
          | T => exact a5
          | O => obtain ⟨as, h1, h2⟩ := a5; exact ⟨as, h1, fun a ha => ⟨hl_free g2.ex (h2 a ha).1, (h2 a ha).2⟩⟩
          | P => obtain ⟨as, h1, h2⟩ := a5; exact ⟨as, h1, fun a ha => ⟨hl_free g2.ex (h2 a ha).1, (h2 a ha).2⟩⟩)
    · rw [en] at hr
      exact q1.xc n hr.symm H' C' σ' c fun a o ha => z a o (by rw [hl_some (by rw [ha]; exact fun z => nomatch z)]; exact g2.ex.hh a o ha)
  · have e : i = ds.length := by omega
    subst e
    rw [List.drop_length] at hr
    have z := q1.ok (.next s3) hr.symm
    exact .inl ⟨stop, z F3 H3 σ3 (Good.out g2.ex g3)⟩
theorem forN_C {S : Type} (b : D → S → Res S) : ∀ (ds : List D) (s : S), forC (fun d s => (b d s).bd fun s => .ok (.next s)) ds s = (forN b ds s).bd fun s => .ok (.next s)
  | [], s => rfl
  | d :: ds, s => by
    unfold forC forN
    cases b d s with
    | ok s' => simpa using forN_C b ds s'
    | exc n => rfl
    | stuck => rfl
theorem s1_map {r : Res S} {fin' : S → Fin X.K} {fin2 : T → Fin X.K} {h : S → T} (hf : ∀ s, fin2 (h s) = fin' s) (hh : S1 X W rk ρ st (r.bd fun s => .ok (h s)) fin2) : S1 X W rk ρ st r fin' := by
  obtain ⟨t, h1, h2⟩ := hh
  exact ⟨t, h1, fun B H0 F H σ D g k => h2 B H0 F H σ D g ⟨(fun z => k.ns (by cases r <;> first | rfl | cases z)), (fun a ea => by
    cases r with
    | ok s => cases ea; rw [hf]; exact k.ok s rfl
    | exc n => cases ea
    | stuck => cases ea), fun n en => k.xc n (by cases r <;> first | cases en; done | (cases en; rfl))⟩⟩
theorem sv_map {r : Res S} {fin' : S → Fin X.K} {fin2 : T → Fin X.K} {h : S → T} (hf : ∀ s, fin2 (h s) = fin' s) (hh : SV X W rk ρ ss r fin') : SV X W rk ρ ss (r.bd fun s => .ok (h s)) fin2 := by
  obtain ⟨t, h1, h2⟩ := hh
  exact ⟨t, h1, fun B H0 F H σ D g k => h2 B H0 F H σ D g ⟨fun z => k.ns (by rw [z]; rfl), fun a ea => by
    have z := k.ok (h a) (by rw [ea]; rfl)
    rwa [hf] at z, fun n en => k.xc n (by rw [en]; rfl)⟩⟩
/-- a loop that never returns -/
theorem s1_for [C : Ctx X W] {tg iter : Expr} {out : S → Env X.K} {f : S → D → Res (Env X.K)} {rb : D → S → Res S} {s0 : S} (hi : IF' X W ρ tg iter rs) (hw : Wk ρ (out s0)) (hx : ∀ s d n, f s d ≠ .exc n)
    (hg : ∀ s, GG X tg vs (out s) (f s)) (hb : ∀ s d ρ', f s d = .ok ρ' → SV X W rk ρ' body (rb d s) (fun s => .nx (out s))) (hs : ∀ x, foldedSetIterable iter X.env x = pure x := by intro _; rfl) :
    S1 X W rk ρ (.For tg iter body [] pos) (rs.bd fun ds => forN (fun d s => (f s d).bd fun _ => rb d s) ds s0) (fun s => .nx (out s)) := by
  refine s1_map (h := Ctl.next) (fin2 := fun t => match t with | .next s => .nx (out s) | .ret d => .rt d) (fun _ => rfl) ?_
  have q := s1_forC (vs := vs) (rb := fun d s => (rb d s).bd fun s => .ok (.next s)) (pos := pos) (rk := rk) (s0 := s0) hi hw hx hg (fun s d ρ' e => sv_map (fun _ => rfl) (hb s d ρ' e)) hs
  have e : (fun ds => forC (fun d s => (f s d).bd fun _ => (rb d s).bd fun s => Res.ok (Ctl.next s)) ds s0) = fun ds => (forN (fun d s => (f s d).bd fun _ => rb d s) ds s0).bd fun s => Res.ok (Ctl.next s) := by
    funext ds
    rw [← forN_C]
    congr 1
    funext d s
    rw [bd_bd]
  rw [e, ← bd_bd] at q
  exact q
/-- a, b = e -/
theorem s1_unpack [C : Ctx X W] {tg : Expr} {vs : List Nat} {f : D → Res (Env X.K)} (he : EG X W ρ .V e r) (hg : GG X tg vs ρ f) (hx : ∀ d n, f d ≠ .exc n) (hs : swapsWithSole [tg] e pos.line X.env = pure false := by rfl) (hw : swappedStores [tg] e X.env = pure none := by rfl)
    (h1 : (assignEach [tg] X.env).map (·.2) = [assign tg X.env] := by rfl) : S1 X W rk ρ (.Assign [tg] e pos) (r.bd f) (fun ρ' => .nx ρ') := by
  obtain ⟨t, e1, e2⟩ := he
  obtain ⟨gt, g1, g2⟩ := hg
  refine ⟨_, ps_asg e1 g1 hs hw h1, fun B H0 F H σ D g q => e2 B H0 F H σ _ g (KS.kn g q fun d v F1 H1 _ x s a g' q' => ?_)⟩
  exact g2 B H0 F1 H1 σ v d _ g' a q'.ns fun ρ' σ' e g3 _ => q'.ok ρ' e F1 H1 σ' g3
/-! ### a def by its body -/
end
end DL
/-! A def by its body; targets by name. -/
namespace DL
open PySem L2 PySem.Spec PyProof.Rows
def ap1 (g : D → Res D) : List D → Res D | [a] => g a | _ => .stuck
def ap2 (g : D → D → Res D) : List D → Res D | [a, b] => g a b | _ => .stuck
def ap3 (g : D → D → D → Res D) : List D → Res D | [a, b, c] => g a b c | _ => .stuck
def ap4 (g : D → D → D → D → Res D) : List D → Res D | [a, b, c, d] => g a b c d | _ => .stuck
def ap5 (g : D → D → D → D → D → Res D) : List D → Res D | [a, b, c, d, e] => g a b c d e | _ => .stuck
@[simp] theorem ap1_ok (g : D → Res D) (a : D) : ap1 g [a] = g a := id rfl
@[simp] theorem ap2_ok (g : D → D → Res D) (a b : D) : ap2 g [a, b] = g a b := id rfl
@[simp] theorem ap3_ok (g : D → D → D → Res D) (a b c : D) : ap3 g [a, b, c] = g a b c := id rfl
@[simp] theorem ap4_ok (g : D → D → D → D → Res D) (a b c d : D) : ap4 g [a, b, c, d] = g a b c d := id rfl
@[simp] theorem ap5_ok (g : D → D → D → D → D → Res D) (a b c d e : D) : ap5 g [a, b, c, d, e] = g a b c d e := id rfl
def env0 {K : PySem.W.Frag} (n : Nat) (ds : List D) : Env K := ds.map cVal ++ List.replicate (n - ds.length) cAny
theorem slots_any {K : PySem.W.Frag} {F H : Hp} : ∀ n : Nat, Slots (K := K) F H (List.replicate n cAny) (List.replicate n none) (List.replicate n [])
  | 0 => trivial
  | n + 1 => ⟨rfl, slots_any n⟩
theorem slots_vals {K : PySem.W.Frag} {F H : Hp} {n : Nat} : ∀ {vs : List V} {ds : List D}, DpAll K F vs ds → ∀ m, Slots F H ((ds.map cVal ++ List.replicate m cAny : Env K)) (vs.map some ++ List.replicate m none) (List.replicate (ds.length + m) [])
  | _, _, .nil, m => by simpa using slots_any m
  | _, _, .cons (v := v) (vs := vs) (d := d) (ds := ds) h t, m => by
    have := slots_vals (n := n) t m (H := H)
    rw [show (d :: ds).length + m = (ds.length + m) + 1 by simp; omega, List.replicate_succ]
    exact ⟨⟨rfl, v, rfl, h⟩, this⟩
theorem flat_nil (n : Nat) : (List.replicate n ([] : List Addr)).flatten = [] := by
  induction n with
  | zero => rfl
  | succ n ih => simpa [List.replicate_succ] using ih
section
variable {P : Program} {w : World} {K : PySem.W.Frag} {mg : Str → Option Value} {base : Heap}
abbrev Wf (E : XK) : WX := fun c d _ H => E c d H
abbrev cxD (P : Program) (w : World) (K : PySem.W.Frag) (mg : Str → Option Value) (base : Heap) (N : List Str) (qual : Str) (st : Stmt) (f : Addr) (cdv : Value) (A : Around) (outer : List PySem.Env) (s : Shared) (H : Hp) (E : XK) : Cx :=
  cxOf (L2N.CX P w) P w K mg base N qual (defScope st) f cdv A outer s H E
theorem ctx_fn {N : List Str} {qual : Str} {st : Stmt} {f : Addr} {cdv : Value} {A : Around} {outer : List PySem.Env} {s : Shared} {H : Hp} {E : XK} {k : Nat} (nd : N.Nodup) (hr : Room k (A.deeper (envOfC qual (defScope st) s.heap.objs.size f cdv))) :
    Ctx (cxD P w K mg base N qual st f cdv A outer s H E) (Wf E) := by
  refine { tk := L2N.takes_of rfl rfl rfl rfl, po := passes_of (K := fun e s'' => L2N.CX P w outer H s E e s'') rfl, nd := nd, hu := ?_, calm := rfl }
  have := hr.un
  show (A.deeper (envOfC qual (defScope st) s.heap.objs.size f cdv)).units + 90 < cLine
  omega
/-- a def of n parameters -/
theorem fn_ok {x qual : Str} {st : Stmt} {f : Addr} {fd : FuncData} {N ps : List Str} {k n : Nat} {rk : Md} {g : List D → Res D} (F : Fun K x qual st f fd) (S : FnScope N ps (defScope st)) (hn : ps.length = n)
    (hb : ∀ (cdv : Value) (A : Around) (outer : List PySem.Env) (s : Shared) (H : Hp) (E : XK) (ds : List D), Room k (A.deeper (envOfC qual (defScope st) s.heap.objs.size f cdv)) → ds.length = n → Ctx (cxD P w K mg base N qual st f cdv A outer s H E) (Wf E) →
      SV (cxD P w K mg base N qual st f cdv A outer s H E) (Wf E) rk (env0 N.length ds) (defBody st) (g ds) Fin.rt) : FnOk P w K mg base (L2N.CX P w) (k + 1) f fd ps (spD K mg n rk g) := by
  obtain ⟨oc, od, kV, doc, pm, an, cdv, ct, osl, rfl, lk, hcd⟩ := F.ex
  refine fn_of lk hcd S (fun vs H Q E h => ?_) (fun A outer s H vs Q E hr h => ?_)
  · obtain ⟨_, _, _, _, h, _⟩ := h
    rw [h, hn]
  · obtain ⟨F0, ds, fh, dp, hl, ns, hok, hxc⟩ := h
    have hld : ds.length = n := by rw [← DpAll.length dp, hl]
    obtain ⟨t, t1, t2⟩ := hb cdv A outer s H E ds hr hld (ctx_fn S.nd hr)
    refine ⟨t, t1, t2 F0 H F0 H _ _ ⟨Ex.refl _ _, fh, List.replicate (ds.length + (N.length - ds.length)) [], ?_, by rw [flat_nil]; exact List.nodup_nil, fun a ha => by rw [flat_nil] at ha; cases ha⟩ ⟨ns, fun d ed => ?_, fun n en H' C σ' c s => hxc n en H' C c s⟩⟩
    · have := slots_vals (n := n) dp (N.length - ds.length) (H := H)
      unfold L2.start env0
      rwa [DpAll.length dp]
    · exact fun v F' H' x s a => hok d ed v F' H' x s a
end
/-! ### how many names a target has -/
theorem tup2 {K : PySem.W.Frag} {ρ : Env K} (i j : Nat) (d : D) : tupE 2 (consE (fun a => .ok (ρ.set i (cVal a))) fun ρ' => consE (fun b => .ok (ρ'.set j (cVal b))) fun ρ2 ds => match ds with | [] => .ok ρ2 | _ => .stuck) d
    = un2 d fun a b => .ok ((ρ.set i (cVal a)).set j (cVal b)) := by
  cases d with
  | tuple ds =>
    match ds with
    | [] => rfl
    | [_] => rfl
    | [a, b] => rfl
    | _ :: _ :: _ :: _ => simp [tupE, un2]
  | _ => rfl
section
variable {X : Cx} {ρ : Env X.K} {vs : List Nat}
theorem gg_2 {x y : Str} {k : Nat} {p1 p2 pos : Pos} (i j : Nat) (hc : X.calm = true) (hN : X.N.Nodup) (hi : X.N[i]? = some x) (hj : X.N[j]? = some y) (hx : Loc X.env.scope x) (hy : Loc X.env.scope y) (vi : i ∈ vs) (vj : j ∈ vs)
    (fx : X.fn x = true ∨ X.env.scope.names.lookup x = some .local) (fy : X.fn y = true ∨ X.env.scope.names.lookup y = some .local)
    (s2 : (assignEach [.Name x p1, .Name y p2] X.env).map (·.2) = assign (.Name x p1) X.env :: (assignEach [.Name y p2] X.env).map (·.2)) (s1 : (assignEach [.Name y p2] X.env).map (·.2) = assign (.Name y p2) X.env :: (assignEach [] X.env).map (·.2))
    (hn : (assignEach [.Name x p1, .Name y p2] X.env).length = 2) (hst : (assignEach [.Name x p1, .Name y p2] X.env).findIdx? (·.1) = none) :
    GG X (.Tuple [.Name x p1, .Name y p2] k pos) vs ρ (fun d => un2 d fun a b => .ok ((ρ.set i (cVal a)).set j (cVal b))) := by
  have h := gg_tup (k := k) (pos := pos) (ρ := ρ) (vs := vs) hc (ggs_cons (gg_name i hN hi hx vi fx) (fun ρ' => ggs_cons (gg_name j hN hj hy vj fy) (fun ρ2 => ggs_nil) (fun _ _ z => nomatch z) fun u hu g hg => pgs_cons hg hu s1) (fun _ _ z => nomatch z) fun u hu g hg => pgs_cons hg hu s2) hn hst
  have e : (fun d => un2 d fun a b => Res.ok ((ρ.set i (cVal a)).set j (cVal b))) = tupE 2 (consE (fun a => .ok (ρ.set i (cVal a))) fun ρ' => consE (fun b => .ok (ρ'.set j (cVal b))) fun ρ2 ds => match ds with | [] => .ok ρ2 | _ => .stuck) := funext fun d => (tup2 i j d).symm
  rw [e]
  exact h
end
end DL
/-! Loops and comprehensions by their targets: one name, two, three. -/
namespace DL
open PySem L2
theorem tup3 {K : PySem.W.Frag} {ρ : Env K} (i j l : Nat) (d : D) : tupE 3 (consE (fun a => .ok (ρ.set i (cVal a))) fun ρ' => consE (fun b => .ok (ρ'.set j (cVal b))) fun ρ1 => consE (fun c => .ok (ρ1.set l (cVal c))) fun ρ2 ds => match ds with | [] => .ok ρ2 | _ => .stuck) d
    = un3 d fun a b c => .ok (((ρ.set i (cVal a)).set j (cVal b)).set l (cVal c)) := by
  cases d with
  | tuple ds =>
    match ds with
    | [] => rfl
    | [_] => rfl
    | [_, _] => rfl
    | [a, b, c] => rfl
    | _ :: _ :: _ :: _ :: _ => simp [tupE, un3]
  | _ => rfl
abbrev NmOk (X : Cx) (i : Nat) (x : Str) : Prop := X.N[i]? = some x ∧ Loc X.env.scope x ∧ (X.fn x = true ∨ X.env.scope.names.lookup x = some .local)
abbrev AsOk (X : Cx) (e : Expr) (es : List Expr) : Prop := (assignEach (e :: es) X.env).map (·.2) = assign e X.env :: (assignEach es X.env).map (·.2)
abbrev TupOk (X : Cx) (es : List Expr) (n : Nat) : Prop := (assignEach es X.env).length = n ∧ (assignEach es X.env).findIdx? (·.1) = none
section
variable {X : Cx} {ρ : Env X.K} {vs : List Nat} {x y z : Str} {k : Nat} {p1 p2 p3 pos : Pos}
theorem gg1 (i : Nat) (hN : X.N.Nodup) (h : NmOk X i x) (vi : i ∈ vs) : GG X (.Name x pos) vs ρ (fun d => .ok (ρ.set i (cVal d))) := gg_name i hN h.1 h.2.1 vi h.2.2
theorem gg2 (i j : Nat) (hc : X.calm = true) (hN : X.N.Nodup) (hx : NmOk X i x) (hy : NmOk X j y) (vi : i ∈ vs) (vj : j ∈ vs) (s2 : AsOk X (.Name x p1) [.Name y p2]) (s1 : AsOk X (.Name y p2) []) (ht : TupOk X [.Name x p1, .Name y p2] 2) :
    GG X (.Tuple [.Name x p1, .Name y p2] k pos) vs ρ (fun d => un2 d fun a b => .ok ((ρ.set i (cVal a)).set j (cVal b))) :=
  gg_2 i j hc hN hx.1 hy.1 hx.2.1 hy.2.1 vi vj hx.2.2 hy.2.2 s2 s1 ht.1 ht.2
theorem gg3 (i j l : Nat) (hc : X.calm = true) (hN : X.N.Nodup) (hx : NmOk X i x) (hy : NmOk X j y) (hz : NmOk X l z) (vi : i ∈ vs) (vj : j ∈ vs) (vl : l ∈ vs) (s3 : AsOk X (.Name x p1) [.Name y p2, .Name z p3]) (s2 : AsOk X (.Name y p2) [.Name z p3]) (s1 : AsOk X (.Name z p3) []) (ht : TupOk X [.Name x p1, .Name y p2, .Name z p3] 3) :
    GG X (.Tuple [.Name x p1, .Name y p2, .Name z p3] k pos) vs ρ (fun d => un3 d fun a b c => .ok (((ρ.set i (cVal a)).set j (cVal b)).set l (cVal c))) := by
  have h := gg_tup (k := k) (pos := pos) (ρ := ρ) (vs := vs) hc (ggs_cons (gg1 (pos := p1) i hN hx vi) (fun ρ' => ggs_cons (gg1 (pos := p2) j hN hy vj) (fun ρ2 => ggs_cons (gg1 (pos := p3) l hN hz vl) (fun ρ3 => ggs_nil) (fun _ _ z => nomatch z) fun u hu g hg => pgs_cons hg hu s1) (fun _ _ z => nomatch z) fun u hu g hg => pgs_cons hg hu s2) (fun _ _ z => nomatch z) fun u hu g hg => pgs_cons hg hu s3) ht.1 ht.2
  have e : (fun d => un3 d fun a b c => Res.ok (((ρ.set i (cVal a)).set j (cVal b)).set l (cVal c))) = tupE 3 (consE (fun a => .ok (ρ.set i (cVal a))) fun ρ' => consE (fun b => .ok (ρ'.set j (cVal b))) fun ρ1 => consE (fun c => .ok (ρ1.set l (cVal c))) fun ρ2 ds => match ds with | [] => .ok ρ2 | _ => .stuck) := funext fun d => (tup3 i j l d).symm
  rw [e]
  exact h
end
theorem ok_ne {α : Type} {a : α} {n : Str} : Res.ok a ≠ .exc n := fun z => nomatch z
theorem un2_ex {α : Type} {d : D} {f : D → D → Res α} (hf : ∀ a b n, f a b ≠ .exc n) (n : Str) : un2 d f ≠ .exc n := by
  unfold un2
  split
  · exact hf _ _ n
  · exact fun z => nomatch z
theorem un3_ex {α : Type} {d : D} {f : D → D → D → Res α} (hf : ∀ a b c n, f a b c ≠ .exc n) (n : Str) : un3 d f ≠ .exc n := by
  unfold un3
  split
  · exact hf _ _ _ n
  · exact fun z => nomatch z
theorem un2_ok {α : Type} {d : D} {f : D → D → Res α} {r : α} (h : un2 d f = .ok r) : ∃ a b, d = .tuple [a, b] ∧ f a b = .ok r := by
  unfold un2 at h
  split at h
  · exact ⟨_, _, rfl, h⟩
  · cases h
theorem un2_bd {α β : Type} (d : D) (f : D → D → α) (g : D → D → Res β) : ((un2 d fun a b => Res.ok (f a b)).bd fun _ => un2 d g) = un2 d g := by
  unfold un2; split <;> rfl
/-! ### comprehensions -/
abbrev Blks (X : Cx) (scope : Scope) (φ : Cx → Prop) : Prop := ∀ (s : Shared) (H : Hp) (C : Addr) (cl : List (Str × Addr)) (fp : List Addr), φ (X.blk s H scope (compEnvC scope cl C X.env) fp)
structure CK (X : Cx) (W : WX) (ρ : Env X.K) (elt tg iter : Expr) (ifs : List Expr) (scope : Scope) (rs : Res (List D)) (cond : D → Res Bool) (elt' : D → Res D) : Prop where
  ex : ∃ (own : List (Str × Nat)) (f : D → Res (Env X.K)) (c0 : D → Res Bool) (e0 : D → Res D), IG X W ρ tg iter rs ∧ BlkOk X.N X.env.scope scope own ∧ (∀ d n, f d ≠ .exc n) ∧
    (∀ (s : Shared) (H : Hp) (C : Addr) (cl : List (Str × Addr)) (fp : List Addr), GG (X.blk s H scope (compEnvC scope cl C X.env) fp) tg (own.map (·.2)) (wipeE ρ (own.map (·.2))) f) ∧
    (∀ (s : Shared) (H : Hp) (C : Addr) (cl : List (Str × Addr)) (fp : List Addr) (d : D) (ρ' : Env X.K), f d = .ok ρ' → QG (X.blk s H scope (compEnvC scope cl C X.env) fp) W0 ρ' ifs (c0 d)) ∧
    (∀ (s : Shared) (H : Hp) (C : Addr) (cl : List (Str × Addr)) (fp : List Addr) (d : D) (ρ' : Env X.K), f d = .ok ρ' → EG (X.blk s H scope (compEnvC scope cl C X.env) fp) W0 ρ' .V elt (e0 d)) ∧
    (∀ ds, lcR (fun d => (f d).bd fun _ => c0 d) e0 ds = lcR cond elt' ds)
section
variable {X : Cx} {W : WX} {ρ : Env X.K} {elt iter tg : Expr} {ifs : List Expr} {scope : Scope} {rs : Res (List D)} {pos spos py p1 p2 p3 : Pos} {x y z : Str} {k : Nat}
theorem eg_ck [Ctx X W] {cond : D → Res Bool} {elt' : D → Res D} (h : CK X W ρ elt tg iter ifs scope rs cond elt') (hs : ∀ x, foldedSetIterable iter X.env x = pure x := by intro _; rfl) : EG X W ρ .O (.ListComp elt [⟨tg, iter, ifs, 0⟩] scope pos) (rs.bd fun ds => (lcR cond elt' ds).bd lstR) := by
  obtain ⟨own, f, c0, e0, h1, h2, h3, h4, h5, h6, h7⟩ := h
  have q := eg_lc (pos := pos) h1 h2 h3 h4 h5 h6 hs
  have e : (fun ds => (lcR (fun d => (f d).bd fun _ => c0 d) e0 ds).bd lstR) = fun ds => (lcR cond elt' ds).bd lstR := funext fun ds => by rw [h7]
  rwa [e] at q
theorem s1_ck [Ctx X W] {rk : Md} {cond : D → Res Bool} {elt' : D → Res D} (i : Nat) (h : CK X W ρ elt tg iter ifs scope rs cond elt') (hy : X.N[i]? = some y := by rfl) (hyl : X.env.scope.names.lookup y = some .local := by rfl)
    (hsw : swapsWith (.ListComp elt [⟨tg, iter, ifs, 0⟩] scope pos) (some (.Name y py)) spos.line X.env = pure true := by exact sw_true rfl rfl rfl (by decide +kernel)) (hs : ∀ x, foldedSetIterable iter X.env x = pure x := by intro _; rfl) :
    S1 X W rk ρ (.Assign [.Name y py] (.ListComp elt [⟨tg, iter, ifs, 0⟩] scope pos) spos) (rs.bd fun ds => (lcR cond elt' ds).bd lstR) (fun d => .nx (ρ.set i (cRes d))) := by
  obtain ⟨own, f, c0, e0, h1, h2, h3, h4, h5, h6, h7⟩ := h
  have q := s1_setLc (rk := rk) (spos := spos) (pos := pos) i hy hyl hsw h1 h2 h3 h4 h5 h6 hs
  have e : (fun ds => (lcR (fun d => (f d).bd fun _ => c0 d) e0 ds).bd lstR) = fun ds => (lcR cond elt' ds).bd lstR := funext fun ds => by rw [h7]
  rwa [e] at q
theorem ck1 [C : Ctx X W] {cond : D → Res Bool} {elt' : D → Res D} (i : Nat) (hi : IG X W ρ (.Name x p1) iter rs) (ok : BlkOk X.N X.env.scope scope [(x, i)]) (hn1 : Blks X scope fun Y => NmOk Y i x)
    (ht : ∀ (s : Shared) (H : Hp) (C : Addr) (cl : List (Str × Addr)) (fp : List Addr) (a : D), QG (X.blk s H scope (compEnvC scope cl C X.env) fp) W0 ((wipeE ρ [i]).set i (cVal a)) ifs (cond a))
    (he : ∀ (s : Shared) (H : Hp) (C : Addr) (cl : List (Str × Addr)) (fp : List Addr) (a : D), EG (X.blk s H scope (compEnvC scope cl C X.env) fp) W0 ((wipeE ρ [i]).set i (cVal a)) .V elt (elt' a)) : CK X W ρ elt (.Name x p1) iter ifs scope rs cond elt' :=
  ⟨[(x, i)], fun a => .ok ((wipeE ρ [i]).set i (cVal a)), cond, elt', hi, ok, (fun _ _ z => nomatch z), fun s H c cl fp => gg1 i (blk_nd C.nd) (hn1 s H c cl fp) (by simp),
    fun s H c cl fp d ρ' e => by cases e; exact ht s H c cl fp d, fun s H c cl fp d ρ' e => by cases e; exact he s H c cl fp d, fun ds => rfl⟩
theorem ck2 [C : Ctx X W] {cond : D → D → Res Bool} {elt' : D → D → Res D} (i : Nat) (j : Nat) (hi : IG X W ρ (.Tuple [.Name x p1, .Name y p2] k pos) iter rs) (ok : BlkOk X.N X.env.scope scope [(x, i), (y, j)]) (hn1 : Blks X scope fun Y => NmOk Y i x) (hn2 : Blks X scope fun Y => NmOk Y j y) (ha : Blks X scope fun Y => AsOk Y (.Name x p1) [.Name y p2] ∧ AsOk Y (.Name y p2) [] ∧ TupOk Y [.Name x p1, .Name y p2] 2)
    (ht : ∀ (s : Shared) (H : Hp) (C : Addr) (cl : List (Str × Addr)) (fp : List Addr) (a b : D), QG (X.blk s H scope (compEnvC scope cl C X.env) fp) W0 (((wipeE ρ [i, j]).set i (cVal a)).set j (cVal b)) ifs (cond a b))
    (he : ∀ (s : Shared) (H : Hp) (C : Addr) (cl : List (Str × Addr)) (fp : List Addr) (a b : D), EG (X.blk s H scope (compEnvC scope cl C X.env) fp) W0 (((wipeE ρ [i, j]).set i (cVal a)).set j (cVal b)) .V elt (elt' a b)) : CK X W ρ elt (.Tuple [.Name x p1, .Name y p2] k pos) iter ifs scope rs (fun d => un2 d cond) (fun d => un2 d elt') :=
  ⟨[(x, i), (y, j)], fun d => un2 d fun a b => .ok (((wipeE ρ [i, j]).set i (cVal a)).set j (cVal b)), (fun d => un2 d cond), (fun d => un2 d elt'), hi, ok, (fun d n => un2_ex (fun _ _ _ => ok_ne) n), fun s H c cl fp => gg2 i j C.calm (blk_nd C.nd) (hn1 s H c cl fp) (hn2 s H c cl fp) (by simp) (by simp) (ha s H c cl fp).1 (ha s H c cl fp).2.1 (ha s H c cl fp).2.2,
    (fun s H c' cl fp d ρ' e => by obtain ⟨a, b, rfl, e2⟩ := un2_ok e; cases e2; exact ht s H c' cl fp a b), (fun s H c' cl fp d ρ' e => by obtain ⟨a, b, rfl, e2⟩ := un2_ok e; cases e2; exact he s H c' cl fp a b), fun ds => by simp only [un2_bd]⟩
end
/-! ### for -/
section
variable {X : Cx} {W : WX} {rk : Md} {ρ : Env X.K} {S : Type} {iter tg : Expr} {body : List Stmt} {rs : Res (List D)} {pos p0 p1 p2 p3 : Pos} {x y z : Str} {k : Nat}
theorem s1_for1 [C : Ctx X W] {out : S → Env X.K} {rb : D → S → Res S} (i : Nat) (s0 : S) (hi : IF' X W ρ (.Name x p1) iter rs) (hw : Wk ρ (out s0)) (hn1 : NmOk X i x)
    (hb : ∀ s (a : D), SV X W rk ((out s).set i (cVal a)) body (rb a s) (fun s => .nx (out s))) (hs : ∀ x, foldedSetIterable iter X.env x = pure x := by intro _; rfl) :
    S1 X W rk ρ (.For (.Name x p1) iter body [] pos) (rs.bd fun ds => forN rb ds s0) (fun s => .nx (out s)) := by
  exact s1_for (vs := [i]) (f := fun s a => .ok ((out s).set i (cVal a))) hi hw (fun _ _ _ z => nomatch z) (fun s => gg1 i C.nd hn1 (by simp)) (fun s d ρ' e => by cases e; exact hb s d) hs
theorem s1_for2 [C : Ctx X W] {out : S → Env X.K} {rb : D → D → S → Res S} (i : Nat) (j : Nat) (s0 : S) (hi : IF' X W ρ (.Tuple [.Name x p1, .Name y p2] k p0) iter rs) (hw : Wk ρ (out s0)) (hn1 : NmOk X i x) (hn2 : NmOk X j y) (ha : AsOk X (.Name x p1) [.Name y p2] ∧ AsOk X (.Name y p2) [] ∧ TupOk X [.Name x p1, .Name y p2] 2)
    (hb : ∀ s (a b : D), SV X W rk (((out s).set i (cVal a)).set j (cVal b)) body (rb a b s) (fun s => .nx (out s))) (hs : ∀ x, foldedSetIterable iter X.env x = pure x := by intro _; rfl) :
    S1 X W rk ρ (.For (.Tuple [.Name x p1, .Name y p2] k p0) iter body [] pos) (rs.bd fun ds => forN (fun d s => un2 d fun a b => rb a b s) ds s0) (fun s => .nx (out s)) := by
  have q := s1_for (pos := pos) (rk := rk) (s0 := s0) (vs := [i, j]) (f := fun s d => un2 d fun a b => .ok (((out s).set i (cVal a)).set j (cVal b))) (rb := fun d s => un2 d fun a b => rb a b s) hi hw (fun s d n => un2_ex (fun _ _ _ => ok_ne) n) (fun s => gg2 i j C.calm C.nd hn1 hn2 (by simp) (by simp) ha.1 ha.2.1 ha.2.2) (fun s d ρ' e => by obtain ⟨a, b, rfl, e2⟩ := un2_ok e; cases e2; exact hb s a b) hs
  simp only [un2_bd] at q
  exact q
theorem s1_forC1 [C : Ctx X W] {out : S → Env X.K} {rb : D → S → Res (Ctl S)} (i : Nat) (s0 : S) (hi : IF' X W ρ (.Name x p1) iter rs) (hw : Wk ρ (out s0)) (hn1 : NmOk X i x)
    (hb : ∀ s (a : D), SV X W rk ((out s).set i (cVal a)) body (rb a s) (fun t => match t with | .next s => .nx (out s) | .ret d => .rt d)) (hs : ∀ x, foldedSetIterable iter X.env x = pure x := by intro _; rfl) :
    S1 X W rk ρ (.For (.Name x p1) iter body [] pos) (rs.bd fun ds => forC rb ds s0) (fun t => match t with | .next s => .nx (out s) | .ret d => .rt d) := by
  exact s1_forC (vs := [i]) (f := fun s a => .ok ((out s).set i (cVal a))) hi hw (fun _ _ _ z => nomatch z) (fun s => gg1 i C.nd hn1 (by simp)) (fun s d ρ' e => by cases e; exact hb s d) hs
/-- a, b = e -/
theorem s1_un2 [C : Ctx X W] {e : Expr} {r : Res D} (i j : Nat) (he : EG X W ρ .V e r) (hn1 : NmOk X i x) (hn2 : NmOk X j y) (ha : AsOk X (.Name x p1) [.Name y p2] ∧ AsOk X (.Name y p2) [] ∧ TupOk X [.Name x p1, .Name y p2] 2)
    (hs : swapsWithSole [.Tuple [.Name x p1, .Name y p2] k p0] e pos.line X.env = pure false := by rfl) (hw : swappedStores [.Tuple [.Name x p1, .Name y p2] k p0] e X.env = pure none := by rfl)
    (h1 : (assignEach [.Tuple [.Name x p1, .Name y p2] k p0] X.env).map (·.2) = [assign (.Tuple [.Name x p1, .Name y p2] k p0) X.env] := by rfl) :
    S1 X W rk ρ (.Assign [.Tuple [.Name x p1, .Name y p2] k p0] e pos) (r.bd fun d => un2 d fun a b => .ok (a, b)) (fun s : D × D => .nx ((ρ.set i (cVal s.1)).set j (cVal s.2))) := by
  have q := s1_unpack (rk := rk) (pos := pos) he (gg2 (k := k) (pos := p0) (vs := [i, j]) (ρ := ρ) i j C.calm C.nd hn1 hn2 (by simp) (by simp) ha.1 ha.2.1 ha.2.2) (fun d n => un2_ex (fun _ _ _ => ok_ne) n) hs hw h1
  refine s1_map (T := Env X.K) (h := fun s : D × D => (ρ.set i (cVal s.1)).set j (cVal s.2)) (fin2 := fun ρ' => .nx ρ') (fun _ => rfl) ?_
  have e : (fun d => un2 d fun a b => Res.ok ((ρ.set i (cVal a)).set j (cVal b))) = fun d => (un2 d fun a b => Res.ok (a, b)).bd fun s : D × D => Res.ok ((ρ.set i (cVal s.1)).set j (cVal s.2)) := funext fun d => by unfold un2; split <;> rfl
  rw [e, ← bd_bd] at q
  exact q
theorem s1_un3 [C : Ctx X W] {e : Expr} {r : Res D} (i j l : Nat) (he : EG X W ρ .V e r) (hn1 : NmOk X i x) (hn2 : NmOk X j y) (hn3 : NmOk X l z) (ha : AsOk X (.Name x p1) [.Name y p2, .Name z p3] ∧ AsOk X (.Name y p2) [.Name z p3] ∧ AsOk X (.Name z p3) [] ∧ TupOk X [.Name x p1, .Name y p2, .Name z p3] 3)
    (hs : swapsWithSole [.Tuple [.Name x p1, .Name y p2, .Name z p3] k p0] e pos.line X.env = pure false := by rfl) (hw : swappedStores [.Tuple [.Name x p1, .Name y p2, .Name z p3] k p0] e X.env = pure none := by rfl)
    (h1 : (assignEach [.Tuple [.Name x p1, .Name y p2, .Name z p3] k p0] X.env).map (·.2) = [assign (.Tuple [.Name x p1, .Name y p2, .Name z p3] k p0) X.env] := by rfl) :
    S1 X W rk ρ (.Assign [.Tuple [.Name x p1, .Name y p2, .Name z p3] k p0] e pos) (r.bd fun d => un3 d fun a b c => .ok (a, b, c)) (fun s : D × D × D => .nx (((ρ.set i (cVal s.1)).set j (cVal s.2.1)).set l (cVal s.2.2))) := by
  have q := s1_unpack (rk := rk) (pos := pos) he (gg3 (k := k) (pos := p0) (vs := [i, j, l]) (ρ := ρ) i j l C.calm C.nd hn1 hn2 hn3 (by simp) (by simp) (by simp) ha.1 ha.2.1 ha.2.2.1 ha.2.2.2) (fun d n => un3_ex (fun _ _ _ _ => ok_ne) n) hs hw h1
  refine s1_map (T := Env X.K) (h := fun s : D × D × D => ((ρ.set i (cVal s.1)).set j (cVal s.2.1)).set l (cVal s.2.2)) (fin2 := fun ρ' => .nx ρ') (fun _ => rfl) ?_
  have e : (fun d => un3 d fun a b c => Res.ok (((ρ.set i (cVal a)).set j (cVal b)).set l (cVal c))) = fun d => (un3 d fun a b c => Res.ok (a, b, c)).bd fun s : D × D × D => Res.ok (((ρ.set i (cVal s.1)).set j (cVal s.2.1)).set l (cVal s.2.2)) := funext fun d => by unfold un3; split <;> rfl
  rw [e, ← bd_bd] at q
  exact q
end
end DL
/-! More rules: slices, ranges as arguments, is True, a list of one's own handed out. -/
namespace DL
open PySem L2 PySem.Spec PyProof.Rows
theorem boot_int : bootBuiltins "int" = some (.type "int") := by decide +kernel
theorem boot_bool : bootBuiltins "bool" = some (.type "bool") := by decide +kernel
theorem boot_list : bootBuiltins "list" = some (.type "list") := by decide +kernel
theorem boot_tuple : bootBuiltins "tuple" = some (.type "tuple") := by decide +kernel
theorem boot_len : bootBuiltins "len" = some (.builtin "len") := by decide +kernel
theorem boot_max : bootBuiltins "max" = some (.builtin "max") := by decide +kernel
theorem boot_min : bootBuiltins "min" = some (.builtin "min") := by decide +kernel
theorem boot_sorted : bootBuiltins "sorted" = some (.builtin "sorted") := by decide +kernel
def isNV (d e : D) : Res D := if isN e then isNoneV d else .stuck
def notNV (d e : D) : Res D := if isN e then notNoneV d else .stuck
section
variable {X : Cx} {W : WX} {ρ : Env X.K} {m : Md} {e a b c : Expr} {r ra rb rc : Res D} {pos p p2 pos2 : Pos}
/-- a list of one's own, handed out (the slot is not used any more) -/
theorem sv_own {T : Type} {fin : T → Fin X.K} {mk : D → T} {x : Str} {d : D} (i : Nat) (hρ : ρ[i]? = some (cRes d)) (hm : ∀ d, fin (mk d) = .rt d) (hN : X.N[i]? = some x := by rfl) (hv : Vis X.env.scope x := by first | exact Or.inl rfl | exact Or.inr (Or.inl rfl) | exact Or.inr (Or.inr rfl)) (hd : (x == ("__debug__" : Str)) = false := by decide)
    (hcd : (x == ("__classdict__" : Str)) = false := by decide) : SV X W .O ρ [.Return (some (.Name x p)) pos] (.ok (mk d)) fin := by
  refine ⟨_, pss_one (ps_ret (pe_var hN hv hd hcd)), fun B H0 F H σ D g q => ?_⟩
  obtain ⟨ex, fh, ass, sl, hn, ho⟩ := g
  obtain ⟨v, as, h1, h2, y, h3, h4⟩ := sl.get hρ
  subst h3
  have z := q.ok (mk d) rfl
  rw [hm] at z
  exact ⟨y, h1, z y F H ex fh ⟨as, h4, fun a ha => by
    have := ho a (List.mem_flatten.mpr ⟨as, List.mem_of_getElem? h2, ha⟩)
    exact ⟨this.2, this.1⟩⟩⟩
theorem sv_ownD {x : Str} {d : D} (i : Nat) (hρ : ρ[i]? = some (cRes d)) (hN : X.N[i]? = some x := by rfl) (hv : Vis X.env.scope x := by first | exact Or.inl rfl | exact Or.inr (Or.inl rfl) | exact Or.inr (Or.inr rfl)) (hd : (x == ("__debug__" : Str)) = false := by decide)
    (hcd : (x == ("__classdict__" : Str)) = false := by decide) : SV X W .O ρ [.Return (some (.Name x p)) pos] (.ok d) Fin.rt := sv_own (mk := id) i hρ (fun _ => rfl) hN hv hd hcd
theorem c_notN' : CmpD X W .IsNot notNV := c_notN
/-! slices -/
structure OG (X : Cx) (W : WX) (ρ : Env X.K) (e : Option Expr) (r : Res (Option Int)) : Prop where
  ex : ∃ t, PO X e t ∧ ∀ B H0 F H σ Q, Good B H0 F H ρ σ → Kn X W F H σ r (fun _ _ _ a b => a = b) Q → t σ H Q
def partV : D → Res (Option Int)
  | .int i => .ok (some i)
  | _ => .stuck
theorem og_none : OG X W ρ none (.ok Option.none) := ⟨_, po_none, fun B H0 F H σ Q g k => k.ret (Ex.refl _ _) g.fh rfl⟩
theorem og_some (h : EG X W ρ .T e r) : OG X W ρ (some e) (r.bd partV) := by
  obtain ⟨t, h1, h2⟩ := h
  refine ⟨_, po_some h1, fun B H0 F H σ Q g k => h2 B H0 F H σ _ g (Kn.bd k (fun _ _ _ _ _ _ _ h => h) fun d x F1 H1 _ e1 s1 q1 k1 => ?_)⟩
  cases d <;> first | exact absurd rfl k1.ns | skip
  cases tp_int q1
  exact ⟨_, rfl, k1.ret (Ex.refl _ _) s1 rfl⟩
/-- the places of a slice by ones -/
def cutD (ds : List D) (lo hi : Option Int) : List D := (ds.drop (HT.sIx ds.length 0 lo)).take (HT.sIx ds.length ds.length hi - HT.sIx ds.length 0 lo)
def slV (d : D) (lo hi : Option Int) : Res D := match d with
  | .list ds => .ok (.list (cutD ds lo hi))
  | .tuple ds => .ok (.tuple (cutD ds lo hi))
  | _ => .stuck
def slR (a : Res D) (l u : Res (Option Int)) : Res D := a.bd fun d => l.bd fun x => u.bd fun y => slV d x y
theorem dp_cut {K : PySem.W.Frag} {F : Hp} {xs : List V} {ds : List D} (lo hi : Option Int) (h : DpAll K F xs ds) : DpAll K F (cutV xs lo hi) (cutD ds lo hi) := by
  unfold cutV cutD
  rw [DpAll.length h]
  exact DpAll.take _ (DpAll.drop _ h)
theorem eg_slice {lo hi : Option Expr} {rl ru : Res (Option Int)} (ha : EG X W ρ .T a ra) (hl : OG X W ρ lo rl) (hu : OG X W ρ hi ru) : EG X W ρ .O (.Subscript a (.Slice lo hi none p2) pos) (slR ra rl ru) := by
  obtain ⟨ta, a1, a2⟩ := ha
  obtain ⟨tl, l1, l2⟩ := hl
  obtain ⟨tu, u1, u2⟩ := hu
  refine ⟨_, pe_slice (sl_list.or sl_tupA) a1 l1 u1, fun B H0 F H σ Q gd k => a2 B H0 F H σ _ gd (Kn.bd k acc_base fun d x F1 H1 _ e1 s1 q1 k1 => l2 B H0 F1 H1 σ _ (gd.go e1 s1) (Kn.bd k1 acc_base fun l l' F2 H2 _ e2 s2 q2 k2 => u2 B H0 F2 H2 σ _ ((gd.go e1 s1).go e2 s2) (Kn.bd k2 acc_base fun u u' F3 H3 _ e3 s3 q3 k3 => ?_)))⟩
  cases q2; cases q3
  have q := Tp.go (e2.trans e3) q1
  cases d <;> first | exact absurd rfl k3.ns | skip
  · obtain ⟨a, xs, rfl, g1, g2⟩ := tp_list q
    exact .inl ⟨a, xs, rfl, g1, fun p hp => kn_newL k3 s3 hp (dp_cut l u g2)⟩
  · rename_i ds _
    obtain ⟨a, xs, rfl, g1, g2⟩ := tp_tup q
    refine .inr ⟨a, xs, rfl, Same.tup s3 g1, fun hw => ?_, fun _ p hp => kn_newT k3 s3 hp (dp_cut l u g2)⟩
    have e : cutD ds l u = ds := by
      unfold cutD
      rw [DpAll.length g2] at hw
      rw [hw.1, hw.2, List.drop_zero, Nat.sub_zero, List.take_length]
    have k4 := k3.of_eq (r' := .ok (.tuple ds)) (by show Res.ok (PyData.tuple (cutD ds l u)) = _; rw [e])
    exact kn_flat k4 s3 rfl (.tup g1 g2)
/-- xs[::-1] of a list -/
def revV : D → Res D
  | .list ds => .ok (.list ds.reverse)
  | _ => .stuck
theorem eg_revL {k : Nat} {q1 q2 q3 : Pos} (ha : EG X W ρ .T a ra) : EG X W ρ .O (.Subscript a (.Slice none none (some (.UnaryOp .USub (.Constant (.int 1) k q1) q2)) q3) pos) (ra.bd revV) := by
  obtain ⟨ta, a1, a2⟩ := ha
  refine ⟨_, pe_revL a1, fun B H0 F H σ Q gd k => a2 B H0 F H σ _ gd (Kn.bd k acc_base fun d x F1 H1 _ e1 s1 q1 k1 => ?_)⟩
  cases d <;> first | exact absurd rfl k1.ns | skip
  obtain ⟨l, xs, rfl, g1, g2⟩ := tp_list q1
  exact ⟨l, xs, rfl, g1, fun p hp => kn_newL k1 s1 hp (DpAll.reverse g2)⟩
/-! ranges as arguments -/
theorem rgV_dp {K : PySem.W.Frag} {F : Hp} (lo hi : Int) : DpAll K F (rgV lo hi) (rangeL lo (hi - lo).toNat) := by
  unfold rgV rangeL
  generalize (hi - lo).toNat = n
  have h : ∀ l : List Nat, DpAll K F (l.map fun i => V.int (lo + (i : Nat))) (l.map fun (i : Nat) => PyData.int (lo + i)) := fun l => by
    induction l with
    | nil => exact .nil
    | cons x l ih => exact .cons (.int _) ih
  exact h _
def rgOk (lo hi : Int) : Bool := in62 lo && in62 hi && fits (hi - lo).toNat
theorem rgOk_of {lo hi : Int} (h : rgOk lo hi = true) : RgOk lo hi := by
  unfold rgOk at h
  rw [Bool.and_eq_true, Bool.and_eq_true] at h
  have h1 := of_decide_eq_true h.1.1
  have h2 := of_decide_eq_true h.1.2
  have h3 := of_decide_eq_true h.2
  exact ⟨h1.1, h1.2, h2.1, h2.2, h3⟩
def rgL (lo hi : Int) : Res (List D) := if rgOk lo hi then .ok (rangeL lo (hi - lo).toNat) else .stuck
def listRange1 (a : Res D) : Res D := a.bd fun | .int n => (rgL 0 n).bd fun ds => .ok (.list ds) | _ => .stuck
theorem rgL_ns {α : Type} {lo hi : Int} {f : List D → Res α} (h : (rgL lo hi).bd f ≠ .stuck) : rgOk lo hi = true ∧ (rgL lo hi).bd f = f (rangeL lo (hi - lo).toNat) := by
  unfold rgL at h ⊢
  cases c : rgOk lo hi with
  | false => rw [c] at h; exact absurd rfl h
  | true => exact ⟨rfl, rfl⟩
theorem eg_listRange1 [C : Ctx X W] (ha : EG X W ρ .T a ra) (hl : X.mg "list" = none) (hm : X.mg "range" = none) (hg : Gl X "range" := by rfl) (hg2 : Gl X "list" := by rfl) (na : starEach [a] X.env = (false, eval a X.env) :: starEach [] X.env := by rfl)
    (n2 : starEach [.Call (.Name "range" p2) [a] [] pos2] X.env = (false, eval (.Call (.Name "range" p2) [a] [] pos2) X.env) :: starEach [] X.env := by rfl) : EG X W ρ .O (.Call (.Name "list" p) [.Call (.Name "range" p2) [a] [] pos2] [] pos) (listRange1 ra) := by
  obtain ⟨ta, a1, a2⟩ := ha
  refine ⟨_, pe_listRg C.calm hg2 hl (prg_1 hg hm a1 na) n2, fun B H0 F H σ Q gd k => a2 B H0 F H σ _ gd (Kn.bd k acc_base fun d x F1 H1 _ e1 s1 q1 k1 => ?_)⟩
  cases d <;> first | exact absurd rfl k1.ns | skip
  cases tp_int q1
  obtain ⟨h1, h2⟩ := rgL_ns k1.ns
  exact ⟨_, rfl, rgOk_of h1, fun q hq => kn_newL (k1.of_eq h2) s1 hq (rgV_dp _ _)⟩
end
end DL
/-! A list emptied item by item within a comprehension. -/
namespace DL
open PySem L2
def popL (cur : List D) : D → Res (D × List D)
  | .int i => if decide (-(2 ^ 63) ≤ i ∧ i < 2 ^ 63) then match seqIndex? i cur.length with
    | some k => match cur[k]? with
      | some y => .ok (y, cur.eraseIdx k)
      | none => .stuck
    | none => .stuck
    else .stuck
  | _ => .stuck
def popsR (ix : D → List D → Res D) : List D → List D → Res (List D)
  | [], _ => .ok []
  | d :: ds, cur => (ix d cur).nx.bd fun i => (popL cur i).bd fun p => (popsR ix ds p.2).bd fun ys => .ok (p.1 :: ys)
theorem popL_ok {cur : List D} {i : D} {p : D × List D} (h : popL cur i = .ok p) : ∃ n k, i = .int n ∧ -(2 ^ 63) ≤ n ∧ n < 2 ^ 63 ∧ seqIndex? n cur.length = some k ∧ cur[k]? = some p.1 ∧ p.2 = cur.eraseIdx k := by
  cases i <;> first | (cases h; done) | skip
  rename_i n
  unfold popL at h
  dsimp only at h
  by_cases c : -(2 ^ 63) ≤ n ∧ n < 2 ^ 63
  · rw [if_pos (decide_eq_true c)] at h
    cases e : seqIndex? n cur.length with
    | none => rw [e] at h; cases h
    | some k =>
      rw [e] at h
      cases e2 : cur[k]? with
      | none => simp only [e2] at h; cases h
      | some y => simp only [e2] at h; cases h; exact ⟨n, k, rfl, c.1, c.2, e, e2, rfl⟩
  · rw [if_neg (fun z => c (of_decide_eq_true z))] at h
    cases h
theorem DpAll.erase {K : PySem.W.Frag} {F : Hp} : ∀ {vs : List V} {ds : List D} (k : Nat), DpAll K F vs ds → DpAll K F (vs.eraseIdx k) (ds.eraseIdx k)
  | _, _, k, .nil => .nil
  | _, _, 0, .cons _ t => t
  | _, _, k + 1, .cons h t => .cons h (DpAll.erase k t)
section
variable {K : PySem.W.Frag} {B H0 F H F' H' : Hp} {ρ : Env K} {σ : St} {c : Cell K} {e : Option V}
theorem Slots.app : ∀ {ρ : Env K} {σ : St} {ass : List (List Addr)} {as : List Addr}, Slots F H ρ σ ass → c.P F H e as → Slots F H (ρ ++ [c]) (σ ++ [e]) (ass ++ [as])
  | [], [], [], _, _, h => ⟨h, trivial⟩
  | d :: ρ, v :: σ, as :: ass, _, h, q => ⟨h.1, Slots.app h.2 q⟩
  | [], _ :: _, _, _, h, _ => by cases h
  | [], [], _ :: _, _, h, _ => by cases h
  | _ :: _, [], _, _, h, _ => by cases h
  | _ :: _, _ :: _, [], _, h, _ => by cases h
theorem Slots.unapp : ∀ {ρ : Env K} {σ : St} {ass : List (List Addr)}, ρ.length = σ.length → Slots F H (ρ ++ [c]) (σ ++ [e]) ass → ∃ bs as, ass = bs ++ [as] ∧ Slots F H ρ σ bs ∧ c.P F H e as
  | [], [], [as], _, h => ⟨[], as, rfl, trivial, h.1⟩
  | d :: ρ, v :: σ, as :: ass, l, h => by
    obtain ⟨bs, as', rfl, h1, h2⟩ := Slots.unapp (ass := ass) (by simpa using l) h.2
    exact ⟨as :: bs, as', rfl, ⟨h.1, h1⟩, h2⟩
  | [], _ :: _, _, l, _ => by simp at l
  | _ :: _, [], _, l, _ => by simp at l
  | [], [], [], _, h => by cases h
  | [], [], _ :: _ :: _, _, h => by cases h.2
  | _ :: _, _ :: _, [], _, h => by cases h
theorem Good.unapp (l : ρ.length = σ.length) (g : Good B H0 F H (ρ ++ [c]) (σ ++ [e])) : Good B H0 F H ρ σ := by
  obtain ⟨x, f, ass, h1, h2, h3⟩ := g
  obtain ⟨bs, as, rfl, h4, h5⟩ := Slots.unapp l h1
  rw [List.flatten_append] at h2 h3
  exact ⟨x, f, bs, h4, (List.nodup_append.mp h2).1, fun a ha => h3 a (List.mem_append_left _ ha)⟩
theorem Good.push {L : Addr} {xs : List V} {ds : List D} (g : Good B H0 F H ρ σ) (hL : H L = none) (q : DpAll K F xs ds) : Good B H0 F (upd H L (.lst xs)) (ρ ++ [cRes (.list ds)]) (σ ++ [some (.ref L)]) := by
  obtain ⟨x, f, ass, h1, h2, h3⟩ := g
  have th := h1.there
  have nL : ∀ a ∈ ass.flatten, a ≠ L := fun a ha z => th a ha (z ▸ hL)
  refine ⟨x.trans (Ex.newO hL), Same.updO f (Same.free f hL), ass ++ [[L]], Slots.app (h1.mono (Same.refl F) fun a ha => upd_ne (nL a ha)) ⟨.ref L, rfl, .inl ⟨ds, rfl, L, xs, rfl, rfl, upd_same, q⟩⟩, ?_, fun a ha => ?_⟩
  · rw [List.flatten_append]
    exact List.nodup_append.mpr ⟨h2, by simp, fun a ha b hb => by simp at hb; subst hb; exact nL a ha⟩
  · rw [List.flatten_append] at ha
    rcases List.mem_append.mp ha with z | z
    · exact h3 a z
    · simp at z; subst z; exact ⟨Same.free f hL, Same.free x.hh hL⟩
end
section
variable {X : Cx} {W : WX} {ρ : Env X.K} {A Bx N IX : Expr} {ra rb rn : Res D} {x left : Str} {scope : Scope} {p p1 p2 pr pr2 apos cpos spos pos pos2 pos3 : Pos} {k2 : Nat} {d0 : D} {ix : D → List D → Res D}
/-- the slots while the list is emptied -/
def rhoP {K : PySem.W.Frag} (ρ : Env K) (j l : Nat) (a : D) (cur : List D) : Env K := ((wipeE ρ [j]).set j (cVal a)).set l (cRes (.list cur))
def tPop (K : PySem.W.Frag) (ρ : Env K) (j l : Nat) (ix : D → List D → Res D) : TE := fun σ H Q => ∃ B H0 F a cur c e, Good B H0 F H (rhoP ρ j l a cur ++ [c]) (σ ++ [e]) ∧ ∃ i k y, ix a cur = .ok (.int i) ∧ -(2 ^ 63) ≤ i ∧ i < 2 ^ 63 ∧ seqIndex? i cur.length = some k ∧ cur[k]? = some y ∧
  ∀ v F' H', Same F F' → Good B H0 F' H' (rhoP ρ j l a (cur.eraseIdx k) ++ [c]) (σ ++ [e]) → Dp K F' v y → Q v H'
theorem rhoP_len {K : PySem.W.Frag} (ρ : Env K) (j l : Nat) (a : D) (cur : List D) : (rhoP ρ j l a cur).length = ρ.length := by simp [rhoP, wipeE]
theorem Good.len {K : PySem.W.Frag} {B H0 F H : Hp} {ρ : Env K} {σ : St} (g : Good B H0 F H ρ σ) : ρ.length = σ.length := by
  obtain ⟨_, _, ass, h, _⟩ := g
  exact h.len.1
theorem rhoP_l {K : PySem.W.Frag} {ρ : Env K} {j l : Nat} {a : D} {cur : List D} (h : l < ρ.length) : (rhoP ρ j l a cur)[l]? = some (cRes (.list cur)) := by
  unfold rhoP
  rw [List.getElem?_set_self (by simpa [wipeE] using h)]
theorem rhoP_set {K : PySem.W.Frag} {ρ : Env K} {j l : Nat} {a : D} {cur cur' : List D} : (rhoP ρ j l a cur).set l (cRes (.list cur')) = rhoP ρ j l a cur' := by unfold rhoP; rw [List.set_set]
/-- one item taken out -/
theorem pe_pop [C : Ctx X W] {j l : Nat} (hl : l < ρ.length) (hN : X.N[l]? = some left) (he : ∀ a cur, EG X W (rhoP ρ j l a cur) .T IX (ix a cur))
    (hv : Vis X.env.scope left) (hd : (left == ("__debug__" : Str)) = false) (hcd : (left == ("__classdict__" : Str)) = false)
    (hbase : attributeBase (.Name left p2) "pop" X.env (eval (.Name left p2) X.env) = eval (.Name left p2) X.env)
    (hfew : ((backTo cpos (starEach [IX] X.env)).all (fun x => !x.1) && (backToKw cpos (keywordEach [] X.env)).all (fun x => x.1.isSome) && decide (([IX] : List Expr).length + ([] : List Keyword).length + (if ([] : List Keyword).isEmpty then 0 else 1) < 30)) = true)
    (hline : (apos.endLine == cpos.line) = true) (hs : starEach [IX] X.env = (false, eval IX X.env) :: starEach [] X.env) (hplain : (backTo cpos (starEach [] X.env)).any (·.1) = false) :
    PE X (.Call (.Attribute (.Name left p2) "pop" apos) [IX] [] cpos) (tPop X.K ρ j l ix) := by
  refine ⟨fun pins s' σ H Q I ⟨B, H0, F, a, cur, c, e, g, i, k, y, h1, h2, h3, h4, h5, h6⟩ => ?_⟩
  obtain ⟨t, t1, t2⟩ := he a cur
  have gl := rhoP_l (ρ := ρ) (j := j) (a := a) (cur := cur) hl
  have len : (rhoP ρ j l a cur).length = σ.length := by
    have := g.len
    simp only [List.length_append, List.length_cons, List.length_nil] at this
    omega
  have lr := rhoP_len ρ j l a cur
  have g0 := g.unapp len
  obtain ⟨b, xs, o1, o2, o3, o4, o5⟩ := g0.own gl
  refine (pe_bm PySem.F.plainAttrs_list PySem.F.slot_list_pop PySem.F.type_list_pop mt_popAt (pe_var hN hv hd hcd) (pa_cons t1 pa_nil hs) hbase hfew hline hs hplain).run pins s' σ H Q I ?_
  refine ⟨_, o1, .inl ⟨rfl, _, SqL.of o2⟩, t2 B H0 F H σ _ g0 ⟨(fun z => by rw [h1] at z; cases z), (fun d ed v F1 H1 x s ac => ?_), (fun n z => by rw [h1] at z; cases z)⟩⟩
  rw [h1] at ed
  cases ed
  cases tp_int ac
  have g1 := g.go x s
  have gl2 : (rhoP ρ j l a cur ++ [c])[l]? = some (cRes (.list cur)) := by rw [List.getElem?_append_left (by omega)]; exact gl
  obtain ⟨b2, xs2, q1, q2, q3, q4, q5⟩ := g1.own gl2
  rw [List.getElem?_append_left (by omega), o1] at q1
  cases q1
  obtain ⟨v, v1, v2⟩ := DpAll.get q4 h5
  refine ⟨b, xs2, i, k, v, rfl, rfl, q2, h2, h3, by rw [DpAll.length q4]; exact h4, v1, h6 v F1 _ x.ff ?_ v2⟩
  have q6 := q5 _ _ (DpAll.erase k q4)
  rw [List.set_append_left _ _ (by omega), rhoP_set] at q6
  exact q6
abbrev Blk5 (X : Cx) (scope : Scope) (φ : Cx → Prop) : Prop := ∀ (s : Shared) (H : Hp) (C : Addr) (cl : List (Str × Addr)) (fp : List Addr), φ (X.blk s H scope (compEnvC scope cl C X.env) fp)
theorem set_none {σ : St} {j : Nat} {x : Option V} : wipe ((wipe σ [j]).set j x) [j] = wipe σ [j] := by simp [wipe, List.set_set]
theorem rhoP_wipe {K : PySem.W.Frag} {ρ : Env K} {j l : Nat} {a : D} {cur : List D} (h : l ≠ j) : (rhoP ρ j l a cur).set j cAny = (wipeE ρ [j]).set l (cRes (.list cur)) := by
  unfold rhoP
  rw [List.set_comm _ _ h, List.set_set]
  simp only [wipeE, List.set_set]
theorem rhoP_of {K : PySem.W.Frag} {ρ : Env K} {j l : Nat} {a : D} {cur : List D} (h : l ≠ j) : ((wipeE ρ [j]).set l (cRes (.list cur))).set j (cVal a) = rhoP ρ j l a cur := by
  unfold rhoP
  rw [List.set_comm _ _ h]
theorem popsR_nx (ix : D → List D → Res D) : ∀ (ds cur : List D) (n : Str), popsR ix ds cur ≠ .exc n
  | [], _, n => fun z => nomatch z
  | d :: ds, cur, n => by
    unfold popsR
    cases ix d cur with
    | ok i =>
      simp only [nx_ok, bd_ok]
      cases e : popL cur i with
      | ok q =>
        simp only [bd_ok]
        cases e2 : popsR ix ds q.2 with
        | ok xs => exact fun z => nomatch z
        | exc m => exact absurd e2 (popsR_nx ix ds q.2 m)
        | stuck => exact fun z => nomatch z
      | exc m =>
        exfalso
        unfold popL at e
        cases i <;> try (cases e; done)
        dsimp only at e
        split at e <;> try (cases e; done)
        split at e <;> try (cases e; done)
        split at e <;> cases e
      | stuck => exact fun z => nomatch z
    | exc m => exact fun z => nomatch z
    | stuck => exact fun z => nomatch z
/-- the end of a def that draws unlike items -/
theorem sv_popRet [C : Ctx X W] {rk : Md} [NPk : rk.NP] (j l : Nat) (hlj : l ≠ j) (hj : j < ρ.length) (hρ : ρ[l]? = some (cRes d0)) (ha : EG X W ρ .V A ra) (hb : EG X W ρ .V Bx rb) (hn : EG X W ρ .T N rn)
    (ok : BlkOk X.N X.env.scope scope [(x, j)]) (hn1 : Blk5 X scope fun Y => NmOk Y j x)
    (hp : Blk5 X scope fun Y => PE Y (.Call (.Attribute (.Name left p2) "pop" apos) [IX] [] cpos) (tPop X.K ρ j l ix))
    (hmr : X.mg "range" = none) (hmt : X.mg "tuple" = none) (hv : bootBuiltins ("tuple" : Str) = some (.type "tuple")) (hgr : Gl X "range" := by rfl) (hgt : Gl X "tuple" := by rfl)
    (hsr : starEach [N] X.env = [(false, eval N X.env)] := by rfl) (hfs : ∀ y, foldedSetIterable (.Call (.Name "range" pr) [N] [] pr2) X.env y = pure y := by intro _; rfl)
    (hst : starEach [.ListComp (.Call (.Attribute (.Name left p2) "pop" apos) [IX] [] cpos) [⟨.Name x p1, .Call (.Name "range" pr) [N] [] pr2, [], 0⟩] scope pos] X.env = (false, eval (.ListComp (.Call (.Attribute (.Name left p2) "pop" apos) [IX] [] cpos) [⟨.Name x p1, .Call (.Name "range" pr) [N] [] pr2, [], 0⟩] scope pos) X.env) :: starEach [] X.env := by rfl)
    (hpl : (backTo pos2 (starEach [] X.env)).any (·.1) = false := by rfl)
    (t3 : starEach [.Call (.Name "tuple" p) [.ListComp (.Call (.Attribute (.Name left p2) "pop" apos) [IX] [] cpos) [⟨.Name x p1, .Call (.Name "range" pr) [N] [] pr2, [], 0⟩] scope pos] [] pos2] X.env = (false, eval (.Call (.Name "tuple" p) [.ListComp (.Call (.Attribute (.Name left p2) "pop" apos) [IX] [] cpos) [⟨.Name x p1, .Call (.Name "range" pr) [N] [] pr2, [], 0⟩] scope pos] [] pos2) X.env) :: starEach [] X.env := by rfl)
    (t2 : ∀ e : List Expr, starEach (Bx :: e) X.env = (false, eval Bx X.env) :: starEach e X.env := by intro _; rfl)
    (t1 : ∀ e : List Expr, starEach (A :: e) X.env = (false, eval A X.env) :: starEach e X.env := by intro _; rfl) :
    SV X W rk ρ [.Return (some (.Tuple [A, Bx, .Call (.Name "tuple" p) [.ListComp (.Call (.Attribute (.Name left p2) "pop" apos) [IX] [] cpos) [⟨.Name x p1, .Call (.Name "range" pr) [N] [] pr2, [], 0⟩] scope pos] [] pos2] k2 pos3)) spos]
      (ra.bd fun a => rb.bd fun b => (rn.bd range1).bd fun ds => onL d0 fun cur => (popsR ix ds cur).bd fun ys => (tupR ys).bd fun t => .ok (.tuple [a, b, t])) Fin.rt := by
  obtain ⟨ta, a1, a2⟩ := ha
  obtain ⟨tb, b1, b2⟩ := hb
  obtain ⟨tn, n1, n2⟩ := hn
  have lc := pe_lc (pos := pos) C.calm C.nd (pi_range1 (tg := .Name x p1) hgr hmr (pa_cons n1 pa_nil hsr) hsr) ok (fun s H c cl fp => pg_name (pos := p1) (blk_nd C.nd) (hn1 s H c cl fp).1 (hn1 s H c cl fp).2.1 (hn1 s H c cl fp).2.2) (fun s H c cl fp => pts_nil) hp hfs
  have tc := pe_callTy (x := "tuple") (pos := pos2) (p := p) call_tuple_of hgt hmt hv (pa_cons lc pa_nil hst) (by decide) (by decide) hst hpl
  refine ⟨_, pss_one (ps_ret (pe_tup (pa_cons a1 (pa_cons b1 (pa_cons tc pa_nil t3) (t2 _)) (t1 _)))), fun B H0 F H σ D g q => a2 B H0 F H σ _ g (KS.kn g q fun a va F1 H1 _ x1 s1 ac g1 q1 => b2 B H0 F1 H1 σ _ g1 (KS.kn g1 q1 fun b vb F2 H2 _ x2 s2 bc g2 q2 => n2 B H0 F2 H2 σ _ g2 (KS.kn (r := rn) (f := fun n => (range1 n).bd fun ds => onL d0 fun cur => (popsR ix ds cur).bd fun ys => (tupR ys).bd fun t => .ok (.tuple [a, b, t])) g2 (q2.of_eq (by rw [bd_bd])) fun n vn F3 H3 _ x3 s3 nc g3 q3 => ?_)))⟩
  cases n <;> first | exact absurd rfl q3.ns | skip
  cases tp_int nc
  rename_i many _
  cases c : in62 many with
  | false => exact absurd (by simp [range1, c]) q3.ns
  | true =>
  have c' := of_decide_eq_true c
  have q4 := q3.of_eq (show _ = onL d0 fun cur => (popsR ix (rangeL 0 many.toNat) cur).bd fun ys => (tupR ys).bd fun t => .ok (.tuple [a, b, t]) by simp [range1, c])
  obtain ⟨cur0, rfl⟩ := onL_ns q4.ns
  rw [onL_list] at q4
  obtain ⟨out, w1⟩ : ∃ out, popsR ix (rangeL 0 many.toNat) cur0 = .ok out := by
    cases e : popsR ix (rangeL 0 many.toNat) cur0 with
    | ok out => exact ⟨out, rfl⟩
    | exc m => exact absurd e (popsR_nx _ _ _ _)
    | stuck => exact absurd (by rw [e]; rfl) q4.ns
  rw [w1, bd_ok] at q4
  cases c2 : fits out.length with
  | false => exact absurd (by simp [tupR, c2]) q4.ns
  | true =>
  have q5 := q4.of_eq (r' := .ok (.tuple [a, b, .tuple out])) (by simp [tupR, c2])
  have w3 := fits_le c2
  refine ⟨many, rfl, c'.1, c'.2, fun L hL => ?_⟩
  have hlen := g3.len
  have hlr : l < ρ.length := by
    rcases Nat.lt_or_ge l ρ.length with z | z
    · exact z
    · rw [List.getElem?_eq_none z] at hρ; cases hρ
  have gw : Good B H0 F3 H3 ((wipeE ρ [j]).set l (cRes (.list cur0))) (wipe σ [j]) := by
    have := g3.wipe [j]
    rwa [set_self (a := cRes (.list cur0)) (by simp only [wipeE]; rw [List.getElem?_set_ne (fun z => hlj z.symm)]; exact hρ)]
  have g4 := gw.push hL (xs := []) (ds := []) .nil
  have d1 : Dp X.K F3 va a := Dp.mono (x2.trans x3).ff _ _ ac
  have d2 : Dp X.K F3 vb b := Dp.mono x3.ff _ _ bc
  refine ⟨fun i m H4 => m = many.toNat - i ∧ i ≤ many.toNat ∧ ∃ F4 done cur more, Same F3 F4 ∧ Good B H0 F4 H4 ((wipeE ρ [j]).set l (cRes (.list cur)) ++ [cRes (.list done)]) (wipe σ [j] ++ [some (.ref L)]) ∧ popsR ix ((rangeL 0 many.toNat).drop i) cur = .ok more ∧ out = done ++ more, ⟨_, rfl, Nat.zero_le _, F3, [], cur0, out, Same.refl _, g4, w1, rfl⟩, ?_⟩
  rintro i m H4 ⟨rfl, hi, F4, done, cur, more, f34, gd, hm, ho⟩
  have lastc : ∀ cur : List PyData, ∀ c : Cell X.K, ((wipeE ρ [j]).set l (cRes (.list cur)) ++ [c])[ρ.length]? = some c := fun cur c => by
    rw [List.getElem?_append_right (by simp [wipeE])]
    simp [wipeE]
  have lasts : ∀ e : Option V, (wipe σ [j] ++ [e])[ρ.length]? = some e := fun e => by
    rw [List.getElem?_append_right (by rw [wipe_length]; omega)]
    simp [wipe_length, hlen]
  by_cases hlt : i < many.toNat
  · refine .inr ⟨hlt, fun H' => i + 1 ≤ many.toNat ∧ ∃ F4 done cur more, Same F3 F4 ∧ Good B H0 F4 H' ((wipeE ρ [j]).set l (cRes (.list cur)) ++ [cRes (.list done)]) (wipe σ [j] ++ [some (.ref L)]) ∧ popsR ix ((rangeL 0 many.toNat).drop (i + 1)) cur = .ok more ∧ out = done ++ more, fun H' z => ⟨many.toNat - (i + 1), by omega, rfl, z⟩, fun xv H5 y => ?_⟩
    obtain ⟨rfl, rfl⟩ := y
    have hdrop : (rangeL 0 many.toNat).drop i = .int (0 + (i : Int)) :: (rangeL 0 many.toNat).drop (i + 1) := by
      rw [List.drop_eq_getElem_cons (by simpa [rangeL] using hlt)]
      simp [rangeL]
    rw [hdrop] at hm
    unfold popsR at hm
    obtain ⟨iv, hiv⟩ : ∃ iv, ix (.int (0 + (i : Int))) cur = .ok iv := nx_ns fun z => by rw [z] at hm; cases hm
    rw [hiv, nx_ok, bd_ok] at hm
    cases hp : popL cur iv with
    | stuck => rw [hp] at hm; cases hm
    | exc n => rw [hp] at hm; cases hm
    | ok pr =>
    rw [hp, bd_ok] at hm
    cases hr : popsR ix ((rangeL 0 many.toNat).drop (i + 1)) pr.2 with
    | stuck => rw [hr] at hm; cases hm
    | exc n => rw [hr] at hm; cases hm
    | ok more' =>
    rw [hr, bd_ok] at hm
    cases hm
    obtain ⟨n, k, rfl, p1', p2', p3', p4', p5'⟩ := popL_ok hp
    have g5 := gd.setV (i := j) (Dp.int (K := X.K) (H := F4) (0 + (i : Int)))
    rw [List.set_append_left _ _ (by simpa [wipeE] using hj), List.set_append_left _ _ (by rw [wipe_length]; omega), rhoP_of hlj] at g5
    refine ⟨set_none, ?_⟩
    dsimp only [tYes]
    rw [if_pos rfl]
    refine ⟨B, H0, F4, .int (0 + (i : Int)), cur, cRes (.list done), some (.ref L), g5, n, k, pr.1, hiv, p1', p2', p3', p4', fun v F6 H6 s46 g7 dv => ?_⟩
    obtain ⟨L', acc, o1, o2, o3, o4, o5⟩ := g7.own (i := ρ.length) (ds := done) (by rw [List.getElem?_append_right (by simp [rhoP_len])]; simp [rhoP_len])
    rw [List.getElem?_append_right (by simp [wipe_length]; omega)] at o1
    simp only [List.length_set, wipe_length, hlen, Nat.sub_self, List.getElem?_cons_zero, Option.some.injEq, V.ref.injEq] at o1
    subst o1
    have la := DpAll.length o4
    have lo := congrArg List.length ho
    rw [List.length_append, List.length_cons] at lo
    refine ⟨acc, o2, by omega, hlt, F6, done ++ [pr.1], pr.2, more', f34.trans s46, ?_, hr, by rw [ho]; simp⟩
    have g8 := (o5 _ _ (DpAll.append o4 (.cons dv .nil))).wipe [j]
    have e1 : wipeE ((rhoP ρ j l (.int (0 + (i : Int))) (cur.eraseIdx k) ++ [cRes (.list done)]).set ρ.length (cRes (.list (done ++ [pr.1])))) [j] = (wipeE ρ [j]).set l (cRes (.list pr.2)) ++ [cRes (.list (done ++ [pr.1]))] := by
      rw [List.set_append_right _ _ (by rw [rhoP_len]; exact Nat.le_refl _), p5']
      show List.set (_ ++ _) j cAny = _
      rw [List.set_append_left _ _ (by rw [rhoP_len]; exact hj), rhoP_wipe hlj, rhoP_len, Nat.sub_self]
      rfl
    have e2 : wipe ((wipe σ [j]).set j (some (.int (0 + (i : Int)))) ++ [some (.ref L)]) [j] = wipe σ [j] ++ [some (.ref L)] := by
      show List.set (_ ++ _) j none = _
      rw [List.set_append_left _ _ (by rw [List.length_set, wipe_length]; omega)]
      show wipe _ [j] ++ _ = _
      rw [set_none]
    rw [e1] at g8
    simp only [List.map_cons, List.map_nil] at g8
    rw [e2] at g8
    exact g8
  · have e : i = many.toNat := by omega
    subst e
    refine .inl ⟨Nat.le_refl _, ?_⟩
    rw [List.drop_eq_nil_of_le (by simp [rangeL])] at hm
    cases hm
    rw [List.append_nil] at ho
    subst ho
    obtain ⟨L', acc, o1, o2, o3, o4, o5⟩ := gd.own (i := ρ.length) (ds := out) (lastc cur _)
    rw [lasts] at o1
    cases o1
    refine ⟨L, acc, rfl, .inl ⟨SqL.of o2, fun t ht => ?_⟩⟩
    refine ⟨by rw [PySem.sizeLine_eq]; exact (by decide : 3 ≤ 16777216), fun p hp => ?_⟩
    have fr1 := Same.free gd.fh ht
    have sb1 := same_both (p := t) (o := .tup acc) gd.fh
    have fr2 := Same.free sb1 hp
    have m1 : Same F4 (upd F4 t (.tup acc)) := same_upd fr1
    have m2 : Same (upd F4 t (.tup acc)) (upd (upd F4 t (.tup acc)) p (.tup [va, vb, .ref t])) := same_upd fr2
    have d3 : Dp X.K (upd F4 t (.tup acc)) (.ref t) (.tuple out) := .tup (SqT.of upd_same) (DpAll.mono m1 _ _ o4)
    refine q5.ok _ rfl (.ref p) _ _ ((gd.ex.trans (Ex.new gd.fh ht)).trans (Ex.new sb1 hp)) (same_both sb1) (acc_flat rfl ?_)
    exact .tup (SqT.of upd_same) (.cons (Dp.mono ((f34.trans m1).trans m2) _ _ d1) (.cons (Dp.mono ((f34.trans m1).trans m2) _ _ d2) (.cons (Dp.mono m2 _ _ d3) .nil)))
end
end DL
/-! enumerate over a tuple. -/
namespace DL
open PySem L2 PyProof.Rows
def IteT (K : PySem.W.Frag) (a : Addr) : It where
  go := fun i H => ∃ (ys : List V) (y : V), SqT K H a ys ∧ ys[i]? = some y
  yld := fun i H v G => ∃ T y, v = .ref T ∧ H T = none ∧ G = upd H T (.tup [.int (i : Nat), y]) ∧ ∀ ys, SqT K H a ys → ys[i]? = some y
  stop := fun i H => ∃ ys : List V, SqT K H a ys ∧ ys.length = i
theorem turn_enumT {P : Program} {w : World} {K : PySem.W.Frag} {elts : List Expr} {kk : Nat} {tpos : Pos} (a e it : Addr) :
    Turn P w K (.Tuple elts kk tpos) (IteT K a) [e, it] e (fun i h => (∃ o, IsEnum h e it ((i : Nat) : Int) o) ∧ h.IsTupleIter it a i ∧ e ≠ it ∧ a ≠ e ∧ a ≠ it) where
  mem := List.mem_cons_self
  obj := fun i h ⟨⟨o, he⟩, ⟨q, hq, _, dq⟩, _⟩ b hb => by
    rcases List.mem_cons.mp hb with rfl | hb
    · exact ⟨_, he, fun v z => nomatch z⟩
    · cases List.mem_singleton.mp hb
      exact ⟨q, hq, fun v z => by rw [dq] at z; cases z⟩
  keep := fun i h h' ⟨⟨o, he⟩, hi, hn⟩ k => ⟨⟨o, k e List.mem_cons_self _ he⟩, hi.at fun o q => k it (by simp) o q, hn⟩
  item := by
    rintro X rfl rfl rfl hc i pins s σ H E I hf ⟨⟨o, he⟩, hit, n1, n2, n3⟩ ⟨ys, y, hq, hy⟩
    obtain ⟨its, rv, p, _⟩ := I.tuple hq
    obtain ⟨u, hu, ru⟩ := rv.get hy
    have hel : e < s.heap.objs.size := Heap.lt_size he
    have hil : it < s.heap.objs.size := by obtain ⟨_, q, _⟩ := hit; exact Heap.lt_size q
    have hh : X.A.in1.handled = none := by simp [I.ok.hd hc]
    have lt : i < its.toArray.size := by
      rcases Nat.lt_or_ge i its.length with z | z
      · simpa using z
      · rw [List.getElem?_eq_none z] at hu; cases hu
    refine wpAny_pyNext_enum_itemC (Draws.tuple hh it a n3 its.toArray) he ⟨hit, show s.heap.IsTuple a its.toArray from p⟩ lt n1 (by simp [n1, Ne.symm n2]) fun x h1 tk px ho st hT hsz hk => ?_
    obtain rfl : x = u := by
      have : its[i]? = some x := by simpa using px
      rw [hu] at this; cases this; rfl
    refine ⟨_, rfl, wpAny_letOwnedTupleGo_enum (s := { s with heap := h1, toks := tk + 1 }) ho fun h2 he2 sb => ?_⟩
    have hT2 : h2.get? s.heap.objs.size = some { cls := .type "tuple", data := .seq #[.int (i : Int) tk, x] } := (sb.2 _ (Nat.ne_of_gt hel)).trans hT
    have new : ObjOk X.prog X.w (upd H s.heap.objs.size (.tup [.int (i : Nat), y])) h2 s.heap.objs.size (.tup [.int (i : Nat), y]) :=
      ⟨(by decide : 2 ≤ sizeLine), [.int (i : Int) tk, x], .cons ⟨_, rfl⟩ (.cons ru .nil), ⟨_, hT2, rfl, _, rfl⟩⟩
    have J : Inv X pins σ (upd H s.heap.objs.size (.tup [.int (i : Nat), y])) { s with heap := h2, toks := tk + 1 } :=
      I.turnedNew (ch := [e, it]) (fun b ob hb q => (sb.2 b fun z => hb (z ▸ List.mem_cons_self)).trans (hk b ob (fun z => hb (z ▸ List.mem_cons_self)) (fun z => hb (by simp [z])) q)) hf (Nat.le_refl _) new
    refine ⟨.ref s.heap.objs.size, _, J, rfl, ⟨_, y, rfl, I.hok.fresh (Nat.le_refl _), rfl, fun zs hz => by rw [I.tuple_inj hz hq]; exact hy⟩, ⟨⟨x, ?_⟩, st.1.at (fun o q => (sb.2 it n1.symm).trans q), n1, n2, n3⟩, fun b hb => ?_⟩
    · rw [show ((i + 1 : Nat) : Int) = (i : Int) + 1 from rfl]; exact he2
    · have lb : b < s.heap.objs.size := by
        rcases List.mem_cons.mp hb with rfl | z
        · exact hel
        · cases List.mem_singleton.mp z; exact hil
      rw [upd_ne (Nat.ne_of_lt lb)]
      exact (hf b hb).1
  done := by
    rintro X rfl rfl rfl hc i pins s σ H E I hf ⟨⟨o, he⟩, hit, n1, n2, n3⟩ ⟨ys, hq, hy⟩
    obtain ⟨its, rv, p, _⟩ := I.tuple hq
    have hh : X.A.in1.handled = none := by simp [I.ok.hd hc]
    obtain ⟨f0, f1, f2, f3, f4, f5⟩ := hf it (by simp)
    have sz : its.toArray.size = i := by rw [← hy]; simpa using rv.length.symm
    refine wpAny_pyNext_enum_endD (Draws.tuple hh it a n3 its.toArray) he ⟨by rw [sz]; exact hit, show s.heap.IsTuple a its.toArray from p⟩ fun h1 eb => ⟨rfl, I.turned (t' := s.toks) (fun b ob hb q => eb b ob hb q) f0 f1 f3 f4 f5⟩
  self := fun A i s Q E ⟨⟨_, he⟩, _⟩ h => wpAny_pyIter_enum he h
/-! ### the call -/
theorem meets_enumT (v : Value) (o : Obj) (G : Heap → Prop) (B : Begins v o G) :
    Meets (Builtin.«enumerate.__new__» ⟨[.type "enumerate", v], []⟩) (fun _ R s => G s.heap ∧
      R (.ok (.ret (.ref (s.heap.push o).objs.size))) { s with heap := (s.heap.push o).push { cls := .type "enumerate", data := .fields #[.none, .bool false, .ref s.heap.objs.size, rawInt 0, .none, .none] } }) :=
  .of_wp fun prog w A R s z => by
    obtain ⟨hp, g, d, tk, os⟩ := s
    obtain ⟨z1, z2⟩ := z
    have hsub := sub_enumerate
    have it : ∀ {A1 : Around} {E1 Q1 : Value → Shared → Prop}, Q1 (.ref hp.objs.size) ⟨hp.push o, g, d, tk, os⟩ → wpAny (model prog w) A1 (pyIter v) Q1 E1 ⟨hp, g, d, tk, os⟩ :=
      fun {A1 E1 Q1} q => B.iter prog w A1 E1 ⟨hp, g, d, tk, os⟩ Q1 z1 q
    wp_walk using it
    refine wpAny_stack_any fun st => wpAny_pure ?_
    split
    · rename_i c _ _ _ _ _
      cases (c == Value.type "enumerate") <;> (wp_walk using it; exact ⟨_, rfl, z2⟩)
    · wp_walk using it
      exact ⟨_, rfl, z2⟩
theorem call_enumT {prog : Program} {w : World} {A : Around} {E : Value → Shared → Prop} {s : Shared} {t : Addr} {items : Array Value} {Q : Value → Shared → Prop} (ht : s.heap.IsTuple t items)
    (h : ∀ G, IsEnum G (s.heap.objs.size + 1) s.heap.objs.size 0 .none → G.IsTupleIter s.heap.objs.size t 0 → (∀ b o, s.heap.get? b = some o → G.get? b = some o) → Q (.ref (s.heap.objs.size + 1)) { s with heap := G }) :
    wpAny (model prog w) A (call (.type "enumerate") [.ref t]) Q E s := by
  refine callType_new F.called_enumerate (by decide) (F.typeCall_enumerate_1 _) (F.newCall_enumerate_1 _) (fun obj => F.args_object_init_2 obj _) F.entry_enumerate_new (meets_enumT _ _ _ (begins_tuple t items)) ⟨ht, ?_⟩
  generalize ho : ({ cls := .type "tuple_iterator", data := .fields #[.ref t, .int 0 0] } : Obj) = o
  have free : o.isFreed = false := by rw [← ho]; rfl
  have size : (s.heap.push o).objs.size = s.heap.objs.size + 1 := Heap.size_push ..
  generalize hp : ({ cls := .type "enumerate", data := .fields #[.none, .bool false, .ref s.heap.objs.size, rawInt 0, .none, .none] } : Obj) = q
  have top : ((s.heap.push o).push q).get? (s.heap.objs.size + 1) = some q := by
    have := Heap.get?_push_size (s.heap.push o) (o := q) (by rw [← hp]; rfl)
    rwa [size] at this
  show _ ∧ _
  rw [size]
  have en : IsEnum ((s.heap.push o).push q) (s.heap.objs.size + 1) s.heap.objs.size 0 .none := top.trans (congrArg some hp.symm)
  exact ⟨⟨_, by rw [top, ← hp], rfl⟩, h _ en ⟨o, Heap.get?_push_of_some _ (Heap.get?_push_size _ free), by rw [← ho], by rw [← ho]; rfl⟩ fun b u x => Heap.get?_push_of_some _ (Heap.get?_push_of_some _ x)⟩
def iEnumT (K : PySem.W.Frag) (ta : TA) : TI := fun σ H R => ta σ H fun vs H1 => ∃ a ys, vs = [.ref a] ∧ SqT K H1 a ys ∧ R (IteT K a) H1
theorem pi_enumT {X : Cx} {e : Expr} {ta : TA} {p pos tpos : Pos} {elts : List Expr} {kk : Nat} (hg : Gl X "enumerate") (hm : X.mg "enumerate" = none) (ha : PA X [e] ta) (hs : starEach [e] X.env = [(false, eval e X.env)] := by rfl) :
    PI X (.Tuple elts kk tpos) (.Call (.Name "enumerate" p) [e] [] pos) (iEnumT X.K ta) := by
  refine ⟨fun pins s σ H R I z => Call_ (ld_blt I hg hm boot_enumerate (PyProof.Rows.callWith_type1 (thn (ha.run pos pins s σ H _ I z) fun us s1 ⟨vs, G, J, r1, q1⟩ => ?_) hs rfl))⟩
  obtain ⟨a, ys, rfl, hq, q⟩ := q1
  cases r1 with
  | cons r rr =>
    cases rr
    cases r
    obtain ⟨its, rv, p', _⟩ := J.tuple hq
    obtain ⟨oa, la, _⟩ := id p'
    have la := Heap.lt_size la
    refine call_enumT (show s1.heap.IsTuple a its.toArray from p') fun h1 he hit hk => wpAny_pyIter_enum he ?_
    have J2 : Inv X pins σ G { s1 with heap := h1 } := J.kept (t' := s1.toks) hk
    refine ⟨s1.heap.objs.size + 1, [s1.heap.objs.size + 1, s1.heap.objs.size], _, _, G, rfl, J2, turn_enumT a (s1.heap.objs.size + 1) s1.heap.objs.size, ⟨⟨.none, he⟩, hit, Nat.succ_ne_self _, Nat.ne_of_lt (Nat.lt_succ_of_lt la), Nat.ne_of_lt la⟩, fun b hb => ?_, q⟩
    have le : s1.heap.objs.size ≤ b := by
      rcases List.mem_cons.mp hb with rfl | y
      · exact Nat.le_succ _
      · cases List.mem_singleton.mp y; exact Nat.le_refl _
    exact J.fpOk le (J.hok.fresh le)
end DL
/-! enumerate and zip as what is walked. -/
namespace DL
open PySem L2 PyProof.Rows
def enumX (xs : List D) : List D := xs.zipIdx.map fun p => .tuple [.int (p.2 : Nat), p.1]
def zipX (xs ys : List D) : List D := (xs.zip ys).map fun p => .tuple [p.1, p.2]
def enumL : D → Res (List D)
  | .list xs => .ok (enumX xs)
  | _ => .stuck
def enumT : D → Res (List D)
  | .tuple xs => .ok (enumX xs)
  | _ => .stuck
theorem enumX_len (xs : List D) : (enumX xs).length = xs.length := by simp [enumX]
theorem enumX_get {xs : List D} {i : Nat} {d : D} (h : (enumX xs)[i]? = some d) : ∃ e, xs[i]? = some e ∧ d = .tuple [.int (i : Nat), e] := by
  unfold enumX at h
  rw [List.getElem?_map, List.getElem?_zipIdx] at h
  cases e : xs[i]? with
  | none => rw [e] at h; cases h
  | some y => rw [e] at h; simp at h; exact ⟨y, rfl, h.symm⟩
theorem zipX_len (xs ys : List D) : (zipX xs ys).length = min xs.length ys.length := by simp [zipX]
theorem zipX_get {xs ys : List D} {i : Nat} {d : D} (h : (zipX xs ys)[i]? = some d) : ∃ e f, xs[i]? = some e ∧ ys[i]? = some f ∧ d = .tuple [e, f] := by
  unfold zipX at h
  rw [List.getElem?_map] at h
  cases e : (xs.zip ys)[i]? with
  | none => rw [e] at h; cases h
  | some q =>
    rw [e] at h
    obtain ⟨z1, z2⟩ := List.getElem?_zip_eq_some.mp e
    simp at h
    exact ⟨q.1, q.2, z1, z2, h.symm⟩
theorem pair_step {K : PySem.W.Frag} {F H : Hp} {T : Addr} {v w : V} {d e : D} (s : Same F H) (hT : H T = none) (hv : Dp K F v d) (hw : Dp K F w e) : ∃ F3, Ex F H F3 (upd H T (.tup [v, w])) ∧ Same F3 (upd H T (.tup [v, w])) ∧ Dp K F3 (.ref T) (.tuple [d, e]) :=
  ⟨upd F T (.tup [v, w]), Ex.new s hT, same_both s, .tup (SqT.of upd_same) (DpAll.mono (same_upd (Same.free s hT)) _ _ (.cons hv (.cons hw .nil)))⟩
section
variable {X : Cx} {W : WX} {ρ : Env X.K} {a b : Expr} {ra rb : Res D} {p pos tpos : Pos} {elts : List Expr} {kk : Nat}
theorem if_enumerateL (ha : EG X W ρ .V a ra) (hm : X.mg "enumerate" = none) (hg : Gl X "enumerate" := by rfl) (hs : starEach [a] X.env = [(false, eval a X.env)] := by rfl) : IF' X W ρ (.Tuple elts kk tpos) (.Call (.Name "enumerate" p) [a] [] pos) (ra.bd enumL) := by
  obtain ⟨t, h1, h2⟩ := ha
  refine ⟨_, pi_enum hg hm (pa_cons h1 pa_nil hs) hs, fun B H0 F H σ Q gd k => h2 B H0 F H σ _ gd (Kn.bd k aF_base fun d x F1 H1 hq e1 s1 q1 k1 => ?_)⟩
  clear hq
  cases d <;> first | exact absurd rfl k1.ns | skip
  rename_i ds
  have q1 : Dp X.K F1 x (.list ds) := q1
  cases q1 with
  | @lst l xs _ g1 g2 =>
  refine ⟨l, xs, rfl, Same.seq s1 g1, k1.ret (Ex.refl _ _) s1 fun F2 H2 e s => ?_⟩
  have g3 := Same.seq s (Same.seq e g1)
  refine ⟨⟨xs, g3, by rw [enumX_len, DpAll.length g2]; exact Nat.le_refl _⟩, fun i d hd => ?_⟩
  obtain ⟨y, y1, rfl⟩ := enumX_get hd
  obtain ⟨v, v1, v2⟩ := DpAll.get g2 y1
  refine ⟨⟨xs, v, g3, v1⟩, fun x H3 ⟨T, u, z1, z2, z3, z4⟩ => ?_⟩
  have := z4 xs g3
  rw [v1] at this
  cases this; subst z1; subst z3
  exact pair_step s z2 (.int _) (Dp.mono e _ _ v2)
theorem if_enumerateT (ha : EG X W ρ .T a ra) (hm : X.mg "enumerate" = none) (hg : Gl X "enumerate" := by rfl) (hs : starEach [a] X.env = [(false, eval a X.env)] := by rfl) : IF' X W ρ (.Tuple elts kk tpos) (.Call (.Name "enumerate" p) [a] [] pos) (ra.bd enumT) := by
  obtain ⟨t, h1, h2⟩ := ha
  refine ⟨_, pi_enumT hg hm (pa_cons h1 pa_nil hs) hs, fun B H0 F H σ Q gd k => h2 B H0 F H σ _ gd (Kn.bd k aF_base fun d x F1 H1 _ e1 s1 q1 k1 => ?_)⟩
  cases d <;> first | exact absurd rfl k1.ns | skip
  rename_i ds
  obtain ⟨l, xs, rfl, g1, g2⟩ := tp_tup q1
  refine ⟨l, xs, rfl, Same.tup s1 g1, k1.ret (Ex.refl _ _) s1 fun F2 H2 e s => ?_⟩
  have g3 := Same.tup s (Same.tup e g1)
  refine ⟨⟨xs, g3, by rw [enumX_len, DpAll.length g2]⟩, fun i d hd => ?_⟩
  obtain ⟨y, y1, rfl⟩ := enumX_get hd
  obtain ⟨v, v1, v2⟩ := DpAll.get g2 y1
  refine ⟨⟨xs, v, g3, v1⟩, fun x H3 ⟨T, u, z1, z2, z3, z4⟩ => ?_⟩
  have := z4 xs g3
  rw [v1] at this
  cases this; subst z1; subst z3
  exact pair_step s z2 (.int _) (Dp.mono e _ _ v2)
end
end DL
/-! t[::-1] of a tuple; a tuple times a number. -/
namespace DL
open PySem L2 PyProof.Rows HT
theorem places_back (n : Nat) : Builtin.Slice.slicePlaces ((n : Int) - 1) (-1) (-1) = n := by
  unfold Builtin.Slice.slicePlaces
  rw [if_neg (by decide)]
  by_cases z : (n : Int) - 1 > -1
  · rw [if_pos z, show ((n : Int) - 1 - -1 - 1) / (- -1 : Int) + 1 = n by rw [show (- -1 : Int) = 1 by decide, Int.ediv_one]; omega]
    simp
  · rw [if_neg z]
    omega
theorem fm_congr {α β : Type} {f g : α → Option β} : ∀ l : List α, (∀ x ∈ l, f x = g x) → l.filterMap f = l.filterMap g
  | [], _ => rfl
  | x :: l, h => by
    rw [List.filterMap_cons, List.filterMap_cons, h x (by simp), fm_congr l fun y hy => h y (by simp [hy])]
theorem pick_back (xs : Array Value) : ((List.range xs.size).filterMap fun (m : Nat) => xs[((xs.size : Int) - 1 + (m : Int) * -1).toNat]?).toArray = xs.toList.reverse.toArray := by
  congr 1
  rw [← PySem.W.krv_all, ← List.filterMap_reverse, ← PySem.W.krv_range, List.filterMap_map]
  refine fm_congr _ fun m hm => ?_
  have := List.mem_range.mp hm
  show xs[_]? = xs[_]?
  rw [show ((xs.size : Int) - 1 + (m : Int) * -1).toNat = xs.size - 1 - m by omega]
section
variable {prog : Program} {w : World} {A : Around} {E : Value → Shared → Prop} {s : Shared}
theorem applied_back {sl : Addr} {v : Value} {n : Nat} {Q : Int × Int × Nat → Shared → Prop} (hs : s.heap.IsSliceOf sl .none .none v) (pv : IsPart v (some (-1))) (h : Q ((n : Int) - 1, -1, n) s) :
    wpAny (model prog w) A (Builtin.Slice.sliceApplied (.ref sl) (pure (n : Int))) Q E s := by
  obtain ⟨o, ho, hc, hd⟩ := id hs
  unfold Builtin.Slice.sliceApplied Builtin.Slice.sliceFields
  refine wpAny_bind (wpAny_bind (wpAny_field ho hd (x := .none) rfl (wpAny_bind (wpAny_field ho hd (x := .none) rfl (wpAny_bind (wpAny_field ho hd (x := v) rfl (wpAny_pure ?_)))))))
  refine wpAny_bind (slicePart_ pv ?_)
  show wpAny _ _ (if ((-1 : Int) == 0) = true then _ else _) _ _ s
  rw [if_neg (by decide)]
  refine wpAny_bind (slicePart_none (wpAny_bind (slicePart_none (wpAny_bind (wpAny_pure ?_)))))
  show wpAny _ _ (pure ((n : Int) - 1, (-1 : Int), Builtin.Slice.slicePlaces ((n : Int) - 1) (-1) (-1))) _ _ s
  rw [places_back]
  exact wpAny_pure h
theorem getItem_back {t sl : Addr} {items : Array Value} {v : Value} {Q : Value → Shared → Prop} (ht : IsTup s.heap t items) (hs : s.heap.IsSliceOf sl .none .none v) (pv : IsPart v (some (-1)))
    (h : Q (.ref s.heap.objs.size) { s with heap := s.heap.push { cls := .type "tuple", data := .seq items.toList.reverse.toArray } }) (hsz : items.size ≤ sizeLine) : wpAny (model prog w) A (getItem (.ref t) (.ref sl)) Q E s := by
  have fit : sizeOk (.seq items.toList.reverse.toArray) := by
    show items.toList.reverse.toArray.size ≤ sizeLine
    simpa using hsz
  obtain ⟨o, ho, hc, _⟩ := id hs
  have ty : s.TypeIs (.ref sl) "slice" := ⟨o, ho, hc⟩
  unfold getItem
  try with_reducible refine wpAny_holding ?_
  first | refine wpAny_bind (wpAny_pure ?_) | skip
  refine wpAny_bind (wpAny_sequenceKey ht.typeIs (by decide) (wpAny_bind (wpAny_callSpecial?_slot (name := Str.ofString "__getitem__") ht.typeIs slot_tuple_getitem (wpAny_call_entry slot_tuple_getitem ht.typeIs entry_tuple_getitem ?_ (args_tuple_getitem _ _)))))
  show wpAny _ _ (Builtin.Tuple.tupleItemsOf (.ref t) >>= _) _ _ s
  refine wpAny_bind (tupleItemsOf_ ht (wpAny_bind (wpAny_typeOf ty ?_)))
  rw [if_pos (by decide)]
  refine wpAny_bind (applied_back hs pv ?_)
  have no : ¬ ((((items.size : Int) - 1) == 0 && (-1 : Int) == 1 && items.size == items.size) = true) := by simp
  show wpAny _ _ (if (((items.size : Int) - 1) == 0 && (-1 : Int) == 1 && items.size == items.size) = true then _ else _) _ _ s
  rw [if_neg no, pick_back]
  first
    | exact wpAny_bind (m := Builtin.Tuple.tupleExact _) (wpAny_newObj_type (wpAny_pure ⟨_, rfl, wpAny_pure h⟩) fit)
    | exact wpAny_bind (m := Builtin.Tuple.tupleExact _) (wpAny_newObj_type (wpAny_bind (wpAny_pure (wpAny_pure ⟨_, rfl, wpAny_pure h⟩))) fit)
    | exact wpAny_bind (wpAny_bind (m := Builtin.Tuple.tupleExact _) (wpAny_newObj_type (wpAny_pure (wpAny_pure ⟨_, rfl, wpAny_pure h⟩)) fit))
    | exact wpAny_bind (wpAny_bind (m := Builtin.Tuple.tupleExact _) (wpAny_newObj_type (wpAny_pure ⟨_, rfl, wpAny_pure h⟩) fit))
end
def tRevT (K : PySem.W.Frag) (te : TE) : TE := fun σ H Q => te σ H fun x H1 => ∃ a ys, x = .ref a ∧ SqT K H1 a ys ∧ ∀ p, H1 p = none → Q (.ref p) (upd H1 p (.tup ys.reverse))
theorem pe_revT {X : Cx} {e : Expr} {te : TE} {k : Nat} {p1 p2 p3 pos : Pos} (he : PE X e te) : PE X (.Subscript e (.Slice none none (some (.UnaryOp .USub (.Constant (.int 1) k p1) p2)) p3) pos) (tRevT X.K te) := by
  refine ⟨fun pins s σ H Q I z => Subscript_ (thn (he.run pins s σ H _ I z) fun v s1 ⟨x, H1, I1, r1, a, ys, ex, hx, q⟩ => ?_)⟩
  subst ex
  cases r1
  have st : PO X (some (.UnaryOp .USub (.Constant (.int 1) k p1) p2)) (tPart (tUn (rU fun i => .int (-i)) (tC (.int 1)))) := po_some (pe_un un_neg pe_int)
  refine wpAny_Slice (thn (po_none.run pins s1 σ H1 (fun o G => o = none ∧ G = H1) I1 ⟨rfl, rfl⟩) fun vl s2 ⟨l, H2, I2, pl, el, e2⟩ => ?_)
  subst el e2
  refine thn (po_none.run pins s2 σ H2 (fun o G => o = none ∧ G = H2) I2 ⟨rfl, rfl⟩) fun vu s3 ⟨u, H3, I3, pu, eu, e3⟩ => ?_
  subst eu e3
  refine thn (st.run pins s3 σ H3 (fun o G => o = some (-1) ∧ G = H3) I3 ⟨1, rfl, -1, rfl, rfl, rfl⟩) fun vs s4 ⟨o, H4, I4, ps, eo, e4⟩ => ?_
  subst eo e4
  cases pl
  cases pu
  have I5 : Inv X pins σ H4 { s4 with heap := s4.heap.push { cls := .type "slice", data := .fields #[.none, .none, vs] } } := I4.kept (t' := s4.toks) fun b ob q => Heap.get?_push_of_some _ q
  obtain ⟨its, r, ht, hz⟩ := I5.tuple hx
  have hlen := r.length
  show wpAny (model X.prog X.w) X.A (subscriptTail e (.Slice none none (some (.UnaryOp .USub (.Constant (.int 1) k p1) p2)) p3) (.ref a) (.ref s4.heap.objs.size)) (EP X pins σ Q) X.xe { s4 with heap := s4.heap.push { cls := .type "slice", data := .fields #[.none, .none, vs] } }
  refine tail_any (ops := [.ref a, .ref s4.heap.objs.size]) ht.typeIs slot_tuple_getitem.lookup ?_ (by with_unfolding_all rfl)
  refine getItem_back ht (Heap.IsSliceOf.new _ .none .none vs) ps ?_ (by rw [List.size_toArray]; omega)
  refine ⟨.ref _, _, I5.laid (t' := s4.toks) (o := .tup ys.reverse) (fun b ob q => Heap.get?_push_of_some _ q) (Nat.le_refl _) ?_, rfl, q _ (I5.hok.fresh (Nat.le_refl _))⟩
  exact ⟨by rw [List.length_reverse]; exact hz, _, r.reverse, IsTup.new _ _⟩
def revT : D → Res D
  | .tuple ds => .ok (.tuple ds.reverse)
  | _ => .stuck
theorem eg_revT {X : Cx} {W : WX} {ρ : Env X.K} {m : Md} [NPm : m.NP] {a : Expr} {ra : Res D} {pos : Pos} {k : Nat} {q1 q2 q3 : Pos} (ha : EG X W ρ .T a ra) : EG X W ρ m (.Subscript a (.Slice none none (some (.UnaryOp .USub (.Constant (.int 1) k q1) q2)) q3) pos) (ra.bd revT) := by
  obtain ⟨ta, a1, a2⟩ := ha
  refine ⟨_, pe_revT a1, fun B H0 F H σ Q gd k => a2 B H0 F H σ _ gd (Kn.bd k acc_base fun d x F1 H1 _ e1 s1 q1 k1 => ?_)⟩
  cases d <;> first | exact absurd rfl k1.ns | skip
  obtain ⟨l, xs, rfl, g1, g2⟩ := tp_tup q1
  exact ⟨l, xs, rfl, Same.tup s1 g1, fun p hp => kn_newT k1 s1 hp (DpAll.reverse g2)⟩
/-! ### a tuple times a number -/
theorem mul_one_meets (l : Addr) (items : Array Value) (n : Nat) (dd : Option Addr) (sl : Array (Option Value)) (u : Tok) :
    Meets (Builtin.«tuple.__mul__» ⟨[.ref l, .int 1 u], []⟩) (fun _ R s => s.heap.get? l = some { cls := .type "tuple", dict := dd, data := .seq items n, slots := sl } ∧ R (.ok (.ret (Value.ref l))) s) :=
  .of_wp fun prog w A R s h => by
    obtain ⟨hp, g, d, tk, os⟩ := s
    obtain ⟨hl, h⟩ := h
    have f1 := AutoSeq1.idx_int
    wp_walk using wpAny_loadPart' hl
    exact ⟨_, rfl, h⟩
theorem op_rep1 {X : Cx} : OpR X (binaryOp .Mult) (fun x y H Q => ∃ l xs, x = .ref l ∧ y = .int 1 ∧ SqT X.K H l xs ∧ Q (.ref l) H) := by
  intro pins s σ H x y v u Q I rx ry z
  obtain ⟨l, xs, rfl, rfl, hT, q⟩ := z
  cases rx
  obtain ⟨t, rfl⟩ := ry
  obtain ⟨its, r, ⟨⟨cls, dd, data, sl⟩, ho, hc, n, hd⟩, hs⟩ := I.tuple hT
  simp only at hc hd
  subst hc hd
  exact wpAny_binaryOp_repeat_ref (T := "tuple") (U := "int") (by decide) ⟨_, ho, rfl⟩ (fun s' => typeIs_int s' 1 t) noFill_tuple_mul F.fills_int_mul F.slot_int_rmul repeat_tuple F.slot_int_index.lookup
    (call_meets F.slot_int_rmul (typeIs_int s 1 t) F.entry_int_rmul (F.args_int_rmul_2 _ _) (int_rmul_tuple 1 t l its.toArray n dd sl)
      ⟨ho, rfl, ⟨_, ho, rfl⟩, call_meets F.slot_tuple_mul ⟨_, ho, rfl⟩ F.entry_tuple_mul (F.args_tuple_mul_2 _ _) (mul_one_meets l its.toArray n dd sl t) ⟨ho, ⟨.ref l, H, I, rfl, q⟩⟩⟩)
def repT : D → D → Res D
  | .tuple xs, .int k => if k = 1 then .ok (.tuple xs) else if decide (xs ≠ [] ∧ 2 ≤ k ∧ k ≤ 1000 ∧ xs.length ≤ 1000) then .ok (.tuple (List.replicate k.toNat xs).flatten) else .stuck
  | _, _ => .stuck
theorem od_repT {X : Cx} {W : WX} : OpD X W .V (fun x y H Q => (∃ l xs, x = .ref l ∧ y = .int 1 ∧ SqT X.K H l xs ∧ Q (.ref l) H) ∨ rRepT X.K x y H Q) repT := by
  intro F H σ x y d1 d2 Q s h1 h2 k
  cases d1 <;> cases d2 <;> first | exact absurd rfl k.ns | skip
  cases tp_int h2
  rename_i ds n
  obtain ⟨l, xs, rfl, g1, g2⟩ := tp_tup h1
  by_cases e : n = 1
  · subst e
    have k2 := k.of_eq (r' := .ok (.tuple ds)) (by simp [repT])
    exact .inl ⟨l, xs, rfl, rfl, Same.tup s g1, kn_flat k2 s rfl (.tup g1 g2)⟩
  · cases c : decide (ds ≠ [] ∧ 2 ≤ n ∧ n ≤ 1000 ∧ ds.length ≤ 1000) with
    | false => exact absurd (by simp only [repT]; rw [if_neg e, c]; rfl) k.ns
    | true =>
      have k2 := k.of_eq (r' := .ok (.tuple (List.replicate n.toNat ds).flatten)) (by simp only [repT]; rw [if_neg e, c]; rfl)
      obtain ⟨c1, c2, c3, c4⟩ := of_decide_eq_true c
      refine .inr ⟨l, n, xs, rfl, rfl, Same.tup s g1, fun z => c1 ?_, c2, c3, by rw [DpAll.length g2]; exact c4, fun p hp => kn_newT k2 s hp (DpAll.rep g2 _)⟩
      subst z
      have := DpAll.length g2
      exact List.eq_nil_of_length_eq_zero this.symm
theorem eg_repT {X : Cx} {W : WX} {ρ : Env X.K} {a b : Expr} {ra rb : Res D} {pos : Pos} (ha : EG X W ρ .T a ra) (hb : EG X W ρ .T b rb) : EG X W ρ .V (.BinOp a .Mult b pos) (bd2 ra rb repT) := eg_op (op_rep1.or op_repT) od_repT ha hb
end DL
/-! zip of a list or a tuple with a list or a tuple. -/
namespace DL
open PySem L2 PyProof.Rows
def seqItems : D → Res (List D)
  | .list xs => .ok xs
  | .tuple xs => .ok xs
  | _ => .stuck
def zipAA (d e : D) : Res (List D) := (seqItems d).bd fun xs => (seqItems e).bd fun ys => .ok (zipX xs ys)
/-! ### a side: a list (true), a tuple -/
def SqS (K : PySem.W.Frag) (b : Bool) (H : Hp) (a : Addr) (xs : List V) : Prop := match b with | true => SqL K H a xs | false => SqT K H a xs
def IterS (b : Bool) (h : Heap) (it a : Addr) (i : Nat) : Prop := match b with | true => h.IsListIter it a i | false => h.IsTupleIter it a i
def SeqS (b : Bool) (h : Heap) (a : Addr) (its : Array Value) : Prop := match b with | true => h.IsList a its | false => h.IsTuple a its
theorem SqS.mono {K : PySem.W.Frag} {b : Bool} {H H' : Hp} {a : Addr} {xs : List V} (s : Same H H') (h : SqS K b H a xs) : SqS K b H' a xs := by
  cases b with
  | true => exact Same.seq s h
  | false => exact Same.tup s h
theorem IterS.at {b : Bool} {h h' : Heap} {it a : Addr} {i : Nat} (x : IterS b h it a i) (k : ∀ o, h.get? it = some o → h'.get? it = some o) : IterS b h' it a i := by
  cases b with
  | true => exact Heap.IsListIter.at x k
  | false => exact Heap.IsTupleIter.at x k
theorem IterS.obj {b : Bool} {h : Heap} {it a : Addr} {i : Nat} (x : IterS b h it a i) : ∃ o, h.get? it = some o ∧ ∀ v, o.data ≠ .cell v := by
  cases b with
  | true => obtain ⟨o, e, _, d⟩ := x; exact ⟨o, e, fun v z => by rw [d] at z; cases z⟩
  | false => obtain ⟨o, e, _, d⟩ := x; exact ⟨o, e, fun v z => by rw [d] at z; cases z⟩
section
variable {X : Cx} {pins : List (Addr × Obj)} {σ : L2.St} {H : Hp} {s : Shared} {b : Bool} {a : Addr} {xs ys : List V}
theorem invS (I : Inv X pins σ H s) (h : SqS X.K b H a xs) : ∃ its : List Value, Vals xs its ∧ SeqS b s.heap a its.toArray ∧ a < s.heap.objs.size := by
  cases b with
  | true => obtain ⟨its, rv, p, _⟩ := I.list h; exact ⟨its, rv, p.isList, p.lt⟩
  | false => obtain ⟨its, rv, p, _⟩ := I.tuple h; obtain ⟨o, ho, _⟩ := id p; exact ⟨its, rv, p, Heap.lt_size ho⟩
theorem injS (I : Inv X pins σ H s) (h : SqS X.K b H a xs) (h' : SqS X.K b H a ys) : xs = ys := by
  cases b with
  | true => exact I.list_inj h h'
  | false => exact I.tuple_inj h h'
end
theorem drawsS {prog : Program} {w : World} {A : Around} (hh : A.handled = none) (b : Bool) (it l : Addr) (hne : l ≠ it) (items : Array Value) : Draws prog w A it [it, l] items.size (fun i v => items[i]? = some v) (fun i h => IterS b h it l i ∧ SeqS b h l items) := by
  cases b with
  | true => exact Draws.list hh it l hne items
  | false => exact Draws.tuple hh it l hne items
def itObj (b : Bool) (l : Addr) : Obj := match b with | true => { cls := .type "list_iterator", data := .fields #[.ref l, .int 0 0] } | false => { cls := .type "tuple_iterator", data := .fields #[.ref l, .int 0 0] }
theorem beginsS (b : Bool) (l : Addr) (items : Array Value) : Begins (.ref l) (itObj b l) fun h => SeqS b h l items := by
  cases b with
  | true => exact begins_list l items
  | false => exact begins_tuple l items
theorem iterS_new {b : Bool} {h : Heap} {it l : Addr} (e : h.get? it = some (itObj b l)) : IterS b h it l 0 := by
  cases b with
  | true => exact ⟨_, e, rfl, rfl⟩
  | false => exact ⟨_, e, rfl, rfl⟩
/-! ### the walk -/
def ItzS (K : PySem.W.Frag) (b1 b2 : Bool) (a1 a2 : Addr) : It :=
  ⟨fun i H => ∃ (xs ys : List V) (x y : V), SqS K b1 H a1 xs ∧ SqS K b2 H a2 ys ∧ xs[i]? = some x ∧ ys[i]? = some y,
    fun i H v H' => ∃ T x y, v = .ref T ∧ H T = none ∧ H' = upd H T (.tup [x, y]) ∧ (∀ xs, SqS K b1 H a1 xs → xs[i]? = some x) ∧ ∀ ys, SqS K b2 H a2 ys → ys[i]? = some y,
    fun i H => ∃ xs ys : List V, SqS K b1 H a1 xs ∧ SqS K b2 H a2 ys ∧ i ≤ xs.length ∧ i ≤ ys.length ∧ (xs.length = i ∨ ys.length = i)⟩
theorem sep_of {z TI TO i1 i2 a b : Addr} (D : ZipApart z TI TO i1 i2 a b) : ZipSep2 z TI TO i1 i2 [i1, a] [i2, b] where
  TIz := D.TIz
  TOz := D.TOz
  TITO := D.TITO
  TIi1 := D.TIi1
  mem1 := by simp
  zf1 := by simp [Ne.symm D.i1z, Ne.symm D.l1z]
  Tf1 := by simp [D.TOi1, Ne.symm D.l1TO]
  TIi2 := D.TIi2
  mem2 := by simp
  zf2 := by simp [Ne.symm D.i2z, Ne.symm D.l2z]
  Tf2 := by simp [D.TOi2, Ne.symm D.l2TO]
  sep1_2 := by simp [D.i12, Ne.symm D.l2i1]
  sep2_1 := by simp [Ne.symm D.i12, Ne.symm D.l1i2]
theorem turn_zipS {P : Program} {w : World} {K : PySem.W.Frag} {elts : List Expr} {kk : Nat} {tpos : Pos} {b1 b2 : Bool} {a b z TI TO i1 i2 : Addr} (D : ZipApart z TI TO i1 i2 a b) :
    Turn P w K (.Tuple elts kk tpos) (ItzS K b1 b2 a b) [z, TI, TO, i1, i2] z (fun i h => IsZip h z TI TO .none ∧ IsTupOf2 h TI (.ref i1) (.ref i2) ∧ (∃ x y, IsTupOf2 h TO x y) ∧ IterS b1 h i1 a i ∧ IterS b2 h i2 b i) where
  mem := by simp
  obj := fun i h st c hc => by
    obtain ⟨hz, hTI, ⟨x, y, hTO⟩, h1, h2⟩ := st
    have e' : c = z ∨ c = TI ∨ c = TO ∨ c = i1 ∨ c = i2 := by simpa using hc
    rcases e' with q | q | q | q | q <;> subst q
    · exact ⟨_, hz, fun v q => nomatch q⟩
    · exact ⟨_, hTI, fun v q => nomatch q⟩
    · exact ⟨_, hTO, fun v q => nomatch q⟩
    · exact h1.obj
    · exact h2.obj
  keep := fun i h h' st k => by
    obtain ⟨hz, hTI, ⟨x, y, hTO⟩, h1, h2⟩ := st
    exact ⟨k z (by simp) _ hz, k TI (by simp) _ hTI, ⟨x, y, k TO (by simp) _ hTO⟩, h1.at fun o q => k i1 (by simp) o q, h2.at fun o q => k i2 (by simp) o q⟩
  item := by
    intro X hP hw hK hc i pins s σ H E I hf st hg
    subst hP hw hK
    obtain ⟨hz, hTI, ⟨x0, y0, hTO⟩, h1, h2⟩ := st
    obtain ⟨xs, ys, x, y, qx, qy, hx, hy⟩ := hg
    obtain ⟨its, rv, p, _⟩ := invS I qx
    obtain ⟨its2, rv2, p2, _⟩ := invS I qy
    obtain ⟨u, hu, ru⟩ := rv.get hx
    obtain ⟨u2, hu2, ru2⟩ := rv2.get hy
    have hzl : z < s.heap.objs.size := Heap.lt_size hz
    have hh : X.A.in1.handled = none := I.ok.hd hc
    have n1 : i < its.toArray.size := by simpa using (List.getElem?_eq_some_iff.mp hu).1
    have n2 : i < its2.toArray.size := by simpa using (List.getElem?_eq_some_iff.mp hu2).1
    refine wpAny_pyNext_zipD2_item (sep_of D) (drawsS hh b1 i1 a D.l1i1 its.toArray) (drawsS hh b2 i2 b D.l2i2 its2.toArray) hz hTI hTO ⟨h1, p⟩ ⟨h2, p2⟩ n1 n2 fun v1 v2 h' tk w1 w2 z' TO' st1 st2 hT hsz hk => ?_
    have e1 : v1 = u := Option.some.inj (w1.symm.trans (by simpa using hu))
    have e2 : v2 = u2 := Option.some.inj (w2.symm.trans (by simpa using hu2))
    subst e1 e2
    refine ⟨_, rfl, wpAny_letOwnedTupleGo_zip (s := { s with heap := h', toks := tk }) z' fun h'' z'' sb => ?_⟩
    have hT2 : h''.get? s.heap.objs.size = some { cls := .type "tuple", data := .seq #[v1, v2] } := (sb.2 _ (Nat.ne_of_gt hzl)).trans hT
    have new : ObjOk X.prog X.w (upd H s.heap.objs.size (.tup [x, y])) h'' s.heap.objs.size (.tup [x, y]) :=
      ⟨by show 2 ≤ sizeLine; decide, [v1, v2], .cons ru (.cons ru2 .nil), ⟨_, hT2, rfl, _, rfl⟩⟩
    have I1 : Inv X pins σ (upd H s.heap.objs.size (.tup [x, y])) { s with heap := h'', toks := tk } :=
      I.turnedNew (t' := tk) (ch := [z, TI, TO, i1, i2]) (fun c o hb q => by
        have nz : c ≠ z := fun e => hb (by simp [e])
        exact (sb.2 c nz).trans (hk c o nz (fun e => hb (by simp [e])) (fun e => hb (by simp [e])) (fun e => hb (by simp [e])) q)) hf (Nat.le_refl _) new
    refine ⟨.ref s.heap.objs.size, _, I1, rfl, ⟨_, x, y, rfl, I.hok.fresh (Nat.le_refl _), rfl, fun l hl => by rw [injS I hl qx]; exact hx, fun l hl => by rw [injS I hl qy]; exact hy⟩, ⟨z'', ?_, ⟨v1, v2, ?_⟩, ?_, ?_⟩, fun c hcm => ?_⟩
    · exact (sb.2 _ D.TIz).trans (hk _ _ D.TIz D.TITO D.TIi1 D.TIi2 hTI)
    · exact (sb.2 _ D.TOz).trans TO'
    · exact st1.1.at fun o q => (sb.2 _ D.i1z).trans q
    · exact st2.1.at fun o q => (sb.2 _ D.i2z).trans q
    · have hlt : c < s.heap.objs.size := by
        have e' : c = z ∨ c = TI ∨ c = TO ∨ c = i1 ∨ c = i2 := by simpa using hcm
        rcases e' with q | q | q | q | q <;> subst q
        · exact hzl
        · exact Heap.lt_size hTI
        · exact Heap.lt_size hTO
        · obtain ⟨_, e1, _⟩ := h1.obj; exact Heap.lt_size e1
        · obtain ⟨_, e2, _⟩ := h2.obj; exact Heap.lt_size e2
      rw [upd_ne (Nat.ne_of_lt hlt)]
      exact (hf c hcm).1
  done := by
    intro X hP hw hK hc i pins s σ H E I hf st hg
    subst hP hw hK
    obtain ⟨hz, hTI, ⟨x0, y0, hTO⟩, h1, h2⟩ := st
    obtain ⟨xs, ys, qx, qy, hx, hy, hend⟩ := hg
    obtain ⟨its, rv, p, _⟩ := invS I qx
    obtain ⟨its2, rv2, p2, _⟩ := invS I qy
    have l1 := rv.length
    have l2 := rv2.length
    have hh : X.A.in1.handled = none := I.ok.hd hc
    refine wpAny_pyNext_zipD2_end (sep_of D) (drawsS hh b1 i1 a D.l1i1 its.toArray) (drawsS hh b2 i2 b D.l2i2 its2.toArray) hz hTI hTO ⟨h1, p⟩ ⟨h2, p2⟩ (by simp; omega) (by simp; omega) (by simp; omega) fun h' tk hk => ⟨rfl, ?_⟩
    exact I.turnedL (t' := tk) (ch := [z, TI, TO, i1, i2]) (fun c o hb q => hk c o (fun e => hb (by simp [e])) (fun e => hb (by simp [e])) (fun e => hb (by simp [e])) (fun e => hb (by simp [e])) q) hf
  self := fun A i s Q E st h => wpAny_pyIter_zip st.1 h
def iZipS (K : PySem.W.Frag) (ta : TA) : TI := fun σ H R => ta σ H fun vs H1 => ∃ b1 b2 a b xs ys, vs = [.ref a, .ref b] ∧ SqS K b1 H1 a xs ∧ SqS K b2 H1 b ys ∧ R (ItzS K b1 b2 a b) H1
theorem pi_zipS {X : Cx} {e e2 : Expr} {ta : TA} {p pos tpos : Pos} {elts : List Expr} {kk : Nat} (hg : Gl X "zip") (hm : X.mg "zip" = none) (ha : PA X [e, e2] ta)
    (hs : starEach [e, e2] X.env = (false, eval e X.env) :: starEach [e2] X.env := by rfl) (hpl : (backTo pos (starEach [e2] X.env)).any (·.1) = false := by rfl) :
    PI X (.Tuple elts kk tpos) (.Call (.Name "zip" p) [e, e2] [] pos) (iZipS X.K ta) := by
  refine ⟨fun pins s σ H R I h => ?_⟩
  refine Call_ (ld_blt I hg hm PyProof.Rows.boot_zip (PyProof.Rows.callWith_type1 (thn (ha.run pos pins s σ H _ I h) fun us s1 ⟨vs, H1, I1, r1, b1, b2, a, b, xs, ys, ex, qx, qy, q⟩ => ?_) hs hpl))
  subst ex
  cases r1 with
  | cons r rr =>
    cases rr with
    | cons r' rr =>
      cases rr
      cases r
      cases r'
      obtain ⟨its, rv, p1, l1⟩ := invS I1 qx
      obtain ⟨its2, rv2, p2, l2⟩ := invS I1 qy
      refine zip_begins2 (beginsS b1 a its.toArray) (beginsS b2 b its2.toArray) p1 p2 fun h' hz hTI hTO g1 g2 hsz hk => wpAny_pyIter_zip hz ?_
      have I2 : Inv X pins σ H1 { s1 with heap := h' } := I1.kept (t' := s1.toks) hk
      refine ⟨s1.heap.objs.size + 4, [s1.heap.objs.size + 4, s1.heap.objs.size + 2, s1.heap.objs.size + 3, s1.heap.objs.size, s1.heap.objs.size + 1], _, _, H1, rfl, I2, turn_zipS (PySem.W.ktu_apart s1.heap.objs.size a b l1 l2), ⟨hz, hTI, ⟨_, _, hTO⟩, iterS_new g1, iterS_new g2⟩, fun c hcm => ?_, q⟩
      have hle : s1.heap.objs.size ≤ c := by
        have e' : c = s1.heap.objs.size + 4 ∨ c = s1.heap.objs.size + 2 ∨ c = s1.heap.objs.size + 3 ∨ c = s1.heap.objs.size ∨ c = s1.heap.objs.size + 1 := by simpa using hcm
        rcases e' with z | z | z | z | z <;> subst z <;> first | exact Nat.le_add_right _ _ | exact Nat.le_refl _
      exact I1.fpOk hle (I1.hok.fresh hle)
theorem tp_seq {K : PySem.W.Frag} {F H : Hp} {x : V} {d : D} {ds : List D} (s : Same F H) (h : Tp K F H x d) (e : seqItems d = .ok ds) : ∃ b a xs, x = .ref a ∧ SqS K b H a xs ∧ DpAll K F xs ds := by
  cases d <;> first | (cases e; done) | skip
  · cases e; obtain ⟨a, xs, h1, h2, h3⟩ := tp_list h; exact ⟨true, a, xs, h1, h2, h3⟩
  · cases e; obtain ⟨a, xs, h1, h2, h3⟩ := tp_tup h; exact ⟨false, a, xs, h1, Same.tup s h2, h3⟩
theorem zip_ns {d e : D} (h : zipAA d e ≠ .stuck) : ∃ xs ys, seqItems d = .ok xs ∧ seqItems e = .ok ys ∧ zipAA d e = .ok (zipX xs ys) := by
  unfold zipAA at h ⊢
  cases c : seqItems d with
  | stuck => rw [c] at h; exact absurd rfl h
  | exc n => cases d <;> cases c
  | ok xs =>
    cases c2 : seqItems e with
    | stuck => rw [c, c2] at h; exact absurd rfl h
    | exc n => cases e <;> cases c2
    | ok ys => exact ⟨xs, ys, rfl, rfl, rfl⟩
section
variable {X : Cx} {W : WX} {ρ : Env X.K} {a b : Expr} {ra rb : Res D} {p pos tpos : Pos} {elts : List Expr} {kk : Nat}
theorem ig_zipAA (ha : EG X W ρ .T a ra) (hb : EG X W ρ .T b rb) (hm : X.mg "zip" = none) (hg : Gl X "zip" := by rfl) (hs : starEach [a, b] X.env = [(false, eval a X.env), (false, eval b X.env)] := by rfl) (hs2 : starEach [b] X.env = [(false, eval b X.env)] := by rfl) : IG X W ρ (.Tuple elts kk tpos) (.Call (.Name "zip" p) [a, b] [] pos) (bd2 ra rb zipAA) := by
  obtain ⟨t, h1, h2⟩ := ha
  obtain ⟨u, g1, g2⟩ := hb
  refine ⟨_, pi_zipS hg hm (pa_cons h1 (pa_cons g1 pa_nil hs2) (hs.trans (by rw [hs2]))) (hs.trans (by rw [hs2])) (by rw [hs2]; rfl), fun B H0 F H σ Q gd k => h2 B H0 F H σ _ gd (Kn.bd k aG_base fun d x F1 H1 _ e1 s1 q1 k1 => g2 B H0 F1 H1 σ _ (gd.go e1 s1) (Kn.bd k1 aG_base fun d2 y F2 H2 _ e2 s2 q2 k2 => ?_))⟩
  obtain ⟨ds, es, ed, ee, ez⟩ := zip_ns k2.ns
  obtain ⟨b1, l, xs, rfl, l1, l2⟩ := tp_seq s2 (Tp.go e2 q1) ed
  obtain ⟨b2, m, ys, rfl, m1, m2⟩ := tp_seq s2 q2 ee
  refine ⟨b1, b2, l, m, xs, ys, rfl, l1, m1, (k2.of_eq ez).ret (Ex.refl _ _) s2 fun F3 H3 e s => ?_⟩
  have l3 := l1.mono e.hh
  have m3 := m1.mono e.hh
  have n1 := DpAll.length l2
  have n2 := DpAll.length m2
  have n3 := zipX_len ds es
  refine ⟨⟨xs, ys, l3, m3, by omega, by omega, by omega⟩, fun i d hd => ?_⟩
  obtain ⟨y1, y2, p1, p2, rfl⟩ := zipX_get hd
  obtain ⟨v, v1, v2⟩ := DpAll.get l2 p1
  obtain ⟨w, w1, w2⟩ := DpAll.get m2 p2
  refine ⟨⟨xs, ys, v, w, l3, m3, v1, w1⟩, fun x H4 ⟨T, u1, u2, z1, z2, z3, z4, z5⟩ => ?_⟩
  have q3 := z4 xs l3
  have q4 := z5 ys m3
  rw [v1] at q3
  rw [w1] at q4
  cases q3; cases q4; subst z1; subst z3
  exact pair_step s z2 (Dp.mono e.ff _ _ v2) (Dp.mono e.ff _ _ w2)
end
end DL
/-! What is walked, list or tuple. -/
namespace DL
open PySem L2 PyProof.Rows
def enumA : D → Res (List D)
  | .list xs => .ok (enumX xs)
  | .tuple xs => .ok (enumX xs)
  | _ => .stuck
def revA : D → Res D
  | .list ds => .ok (.list ds.reverse)
  | .tuple ds => .ok (.tuple ds.reverse)
  | _ => .stuck
theorem bd_two {α : Type} {f g h : D → Res α} (e : ∀ d, h d = f d ∨ h d = g d) (r : Res D) : r.bd h = r.bd f ∨ r.bd h = r.bd g := by
  cases r with
  | ok d => exact e d
  | exc n => exact .inl rfl
  | stuck => exact .inl rfl
section
variable {X : Cx} {W : WX} {ρ : Env X.K} {a b : Expr} {ra rb : Res D} {p pos tpos : Pos} {elts : List Expr} {kk : Nat} {tg : Expr}
theorem if_seq (ha : EG X W ρ .V a ra) : IF' X W ρ tg a (ra.bd seqItems) := by
  rcases bd_two (f := lstItems) (g := tupItems) (h := seqItems) (fun d => by cases d <;> first | exact .inl rfl | exact .inr rfl) ra with e | e <;> rw [e]
  · exact if_list ha
  · exact if_tup ha.vt
theorem ig_seq (ha : EG X W ρ .T a ra) : IG X W ρ tg a (ra.bd seqItems) := by
  rcases bd_two (f := lstItems) (g := tupItems) (h := seqItems) (fun d => by cases d <;> first | exact .inl rfl | exact .inr rfl) ra with e | e <;> rw [e]
  · exact ig_list ha
  · exact (if_tup ha).g
theorem if_enumerateA (ha : EG X W ρ .V a ra) (hm : X.mg "enumerate" = none) (hg : Gl X "enumerate" := by rfl) (hs : starEach [a] X.env = [(false, eval a X.env)] := by rfl) : IF' X W ρ (.Tuple elts kk tpos) (.Call (.Name "enumerate" p) [a] [] pos) (ra.bd enumA) := by
  rcases bd_two (f := enumL) (g := enumT) (h := enumA) (fun d => by cases d <;> first | exact .inl rfl | exact .inr rfl) ra with e | e <;> rw [e]
  · exact if_enumerateL ha hm hg hs
  · exact if_enumerateT ha.vt hm hg hs
theorem eg_rev {k : Nat} {q1 q2 q3 : Pos} (ha : EG X W ρ .T a ra) : EG X W ρ .O (.Subscript a (.Slice none none (some (.UnaryOp .USub (.Constant (.int 1) k q1) q2)) q3) pos) (ra.bd revA) := by
  rcases bd_two (f := revV) (g := revT) (h := revA) (fun d => by cases d <;> first | exact .inl rfl | exact .inr rfl) ra with e | e <;> rw [e]
  · exact eg_revL ha
  · exact eg_revT ha
end
end DL
/-! What a def hands out: one's own list, or another thing. -/
namespace DL
open PySem L2 PyProof.Rows
end DL
/-! Numbers: sets of them, sorted ones; is True, is False. -/
namespace DL
open PySem L2 PySem.Spec PyProof.Rows
/-! ### plain -/
/-! ### the rules -/
end DL
/-! sorted(x): data that are alike, from a list, a tuple, or what is collected. -/
namespace DL
open PySem L2 PySem.Spec PyProof.Rows PySem.W
/-! ### plain -/
def alikeB (ds : List D) : Bool := ds.all fun d => ds.all fun e => alike d e
def tupHd : D → Bool
  | .tuple (_ :: _) => true
  | _ => false
def plainK : D → Bool
  | .none => false
  | .tuple _ => false
  | _ => true
def sortOk (ds : List D) : Bool := alikeB ds && (ds.all tupHd || ds.all plainK) && ds.all (fun d => decide (d.depth ≤ 8)) && fits ds.length
def sortD (ds : List D) : List D := ds.mergeSort (dataLe false id)
def sortR (ds : List D) : Res D := if sortOk ds then .ok (.list (sortD ds)) else .stuck
def sortedV : D → Res D
  | .list ds => sortR ds
  | .tuple ds => sortR ds
  | _ => .stuck
theorem sortOk_of {ds : List D} (h : sortOk ds = true) : AllAlike (ds.map id) ∧ Sortable (ds.map id) ∧ (∀ d ∈ ds, d.depth ≤ 8) ∧ ds.length ≤ sizeLine := by
  unfold sortOk at h
  rw [Bool.and_eq_true, Bool.and_eq_true, Bool.and_eq_true] at h
  obtain ⟨⟨⟨h1, h2⟩, h3⟩, h4⟩ := h
  rw [List.map_id]
  refine ⟨fun d hd d' hd' => ?_, ?_, fun d hd => of_decide_eq_true (List.all_eq_true.mp h3 d hd), fits_le h4⟩
  · exact List.all_eq_true.mp (List.all_eq_true.mp h1 d hd) d' hd'
  · rcases Bool.or_eq_true _ _ ▸ h2 with h2 | h2
    · refine .inl fun d hd => ?_
      have := List.all_eq_true.mp h2 d hd
      cases d with
      | tuple xs =>
        cases xs with
        | nil => cases this
        | cons x r => exact ⟨x, r, rfl⟩
      | _ => cases this
    · refine .inr fun d hd => ?_
      have := List.all_eq_true.mp h2 d hd
      exact ⟨(fun z => by subst z; cases this), (fun xs z => by subst z; cases this)⟩
/-! ### from values -/
section
variable {prog : Program} {w : World} {A : Around} {s : Shared}
/-- what is collected stands in old objects and new ones -/
def Collects (prog : Program) (w : World) (A : Around) (s : Shared) (x : Value) (vs : List Value) : Prop :=
  ∀ (E : Value → Shared → Prop) (R : List Value → Shared → Prop), (∀ h' tk, (∀ b o, s.heap.get? b = some o → h'.get? b = some o) → R vs { s with heap := h', toks := tk }) → wpAny (model prog w) A (collect x) R E s
theorem collects_list {l : Addr} {vs : List Value} (hl : s.heap.IsList l vs.toArray) (hz : vs.length ≤ sizeLine) : Collects prog w A s (.ref l) vs := fun E R h =>
  collect_list hl (h _ s.toks fun b o e => by
    have hlt : b < s.heap.objs.size := Heap.lt_size e
    rw [Heap.get?_update_ne _ _ _ _ (Nat.ne_of_lt hlt)]
    exact Heap.get?_push_of_some _ e) hz
theorem collects_tup {l : Addr} {vs : List Value} (hl : IsTup s.heap l vs.toArray) (hz : vs.length ≤ sizeLine) : Collects prog w A s (.ref l) vs := fun E R h => by
  obtain ⟨o, ho, hc, n, hd⟩ := hl
  have hT : Shared.TypeIs { s with heap := s.heap.push (seqObj "list" #[] 0) } (.ref l) "tuple" := ⟨o, Heap.get?_push_of_some _ ho, hc⟩
  have h2 : (s.heap.push (seqObj "list" #[] 0)).get? s.heap.objs.size = some (seqObj "list" #[] 0) := Heap.get?_push_size _ rfl
  have hu := get?_update_seq h2 (· ++ vs.toArray)
  unfold collect; refine wpAny_bind (wpAny_runValue (codeAny_builtin entry_proto_collect' (wpAny_bind (wpAny_newList (wpAny_pure ⟨Code.quiet_builtin _ (by decide +kernel), codeAny_builtin entry_list_iadd' ?_⟩)))))
  show wpAny _ _ (Builtin.List.listExtendWith (.ref s.heap.objs.size) (.ref l) _) _ _ _
  unfold Builtin.List.listExtendWith; refine wpAny_bind (wpAny_typeOf hT ?_)
  rw [if_pos (by rw [show (Value.type "tuple" == Value.type "tuple") = true from by rfl, Bool.or_true])]
  refine wpAny_bind (listItems_at (Heap.get?_push_of_some _ ho) hd (wpAny_bind (listItems_at (xs := #[]) (n := 0) h2 rfl ?_)))
  rw [if_neg (by simp)]
  refine wpAny_bind (listUpdate_at (xs := #[]) (n := 0) h2 rfl (wpAny_pure ?_) (Nat.zero_le _) (by show (#[] ++ vs.toArray).size ≤ sizeLine + 1; rw [Array.size_append, List.size_toArray, List.size_toArray, List.length_nil]; omega))
  show wpAny _ A (load s.heap.objs.size >>= _) _ _ _
  refine wpAny_bind (wpAny_load hu ?_)
  show wpAny _ _ (pure (#[] ++ vs.toArray : Array Value).toList) _ _ _
  rw [show (#[] ++ vs.toArray : Array Value).toList = vs by simp]
  exact wpAny_pure (h _ s.toks fun b o e => by
    have hlt : b < s.heap.objs.size := Heap.lt_size e
    rw [Heap.get?_update_ne _ _ _ _ (Nat.ne_of_lt hlt)]
    exact Heap.get?_push_of_some _ e)
/-- sorted(x), by what is collected -/
theorem sorted_any {x : Value} {vs : List Value} {ds : List D} {R : Value → D → Prop} {kw : List (Str × Value)} {rev : Bool} {Q : Value → Shared → Prop} {E : Value → Shared → Prop} (hkw : (kw = [] ∧ rev = false) ∨ kw = [(Str.ofString "reverse", .bool rev)])
    (hc : Collects prog w A.in1 s x vs) (e : EachIs R vs ds) (er : EachIs (fun v d => ∃ as, Reads s.heap v d as) vs ds) (ok : sortOk ds = true) (hu : A.units + 16 < cLine)
    (h : ∀ (h1 h' : Heap) (tk : Nat) (out : List Value) (n : Nat), (∀ b o, s.heap.get? b = some o → h1.get? b = some o) → (∀ b o, h1.get? b = some o → h'.get? b = some o) → h'.get? h1.objs.size = some (seqObj "list" out.toArray n) → out.length = ds.length → EachIs R out (ds.mergeSort (dataLe rev id)) → Q (.ref h1.objs.size) { s with heap := h', toks := tk }) :
    wpAny (model prog w) A (call (.builtin "sorted") [x] kw) Q E s := by
  obtain ⟨hal, hk, hdp, hL⟩ := sortOk_of ok
  have hlen : vs.length = ds.length := e.length
  have ha1 : argsOk "sorted" ⟨[x], kw⟩ := by
    rcases hkw with ⟨rfl, _⟩ | rfl
    · exact args_sorted1 _
    · exact args_sorted_rev _ _
  have ha2 : ∀ y, argsOk "list.sort" ⟨[.ref y], kw⟩ := fun y => by
    rcases hkw with ⟨rfl, _⟩ | rfl
    · exact args_list_sort _
    · exact args_list_sort_rev _ _
  refine PyProof.Rows.call_function_entry_kw kind_sorted plain_sorted entry_sorted ha1 ?_
  unfold Builtin.«sorted»; refine wpAny_bind (m := checkCount "sorted" 1 1 _) (wpAny_pure (wpAny_bind (hc _ _ fun h1 tk1 k1 => wpAny_bind (wpAny_newList ?_ (by rw [hlen]; exact hL)))))
  have hat : (h1.push (seqObj "list" vs.toArray 0)).get? h1.objs.size = some (seqObj "list" vs.toArray 0) := Heap.get?_push_size _ rfl
  show wpAny _ _ _ _ _ { s with heap := h1.push (seqObj "list" vs.toArray 0), toks := tk1 }
  have k2 : ∀ b o, s.heap.get? b = some o → (sortingHeap (h1.push (seqObj "list" vs.toArray 0)) h1.objs.size vs).get? b = some o := fun b o q =>
    sortingHeap_old (Nat.ne_of_lt (Heap.lt_size (k1 b o q))) (Heap.get?_push_of_some _ (k1 b o q))
  have er' : EachIs (fun v d => ∃ as, Reads (sortingHeap (h1.push (seqObj "list" vs.toArray 0)) h1.objs.size vs) v (id d) as) vs ds := er.mono fun _ _ ⟨as, r⟩ => ⟨as, PyProof.Rows.Reads.keeps k2 r⟩
  have S : SortsAt prog w A.in1.in1 { s with heap := sortingHeap (h1.push (seqObj "list" vs.toArray 0)) h1.objs.size vs, toks := tk1 } (dataKind (sortingHeap (h1.push (seqObj "list" vs.toArray 0)) h1.objs.size vs) (ds.map id)) vs :=
    SortsAt.data (s := { s with heap := sortingHeap (h1.push (seqObj "list" vs.toArray 0)) h1.objs.size vs, toks := tk1 }) (each_map (R := fun v d => ∃ as, Reads (sortingHeap (h1.push (seqObj "list" vs.toArray 0)) h1.objs.size vs) v d as) id er') hal hk (fun d hd => by
      rw [List.map_id] at hd
      have := hdp d hd
      show A.units + 1 + 1 + d.depth < cLine
      omega)
  have fin : ∀ P : PySem.Fin → Shared → Prop, P (.done (.ret .none)) { s with heap := sortedHeap (h1.push (seqObj "list" vs.toArray 0)) h1.objs.size vs (sortVals (dataKind (sortingHeap (h1.push (seqObj "list" vs.toArray 0)) h1.objs.size vs) (ds.map id)) rev vs vs).toArray, toks := tk1 } →
      ∀ E', wpAny (model prog w) A.in1.in1 (Builtin.«list.sort» ⟨[.ref h1.objs.size], kw⟩) P E' { s with heap := h1.push (seqObj "list" vs.toArray 0), toks := tk1 } := fun P hP E' => by
    rcases hkw with ⟨rfl, rfl⟩ | rfl
    · exact list_sort_vals (s := { s with heap := h1.push (seqObj "list" vs.toArray 0), toks := tk1 }) hat S (by rw [hlen]; exact hL) hP
    · exact list_sort_rev_vals (s := { s with heap := h1.push (seqObj "list" vs.toArray 0), toks := tk1 }) hat S (by rw [hlen]; exact hL) hP
  refine wpAny_bind (wpAny_holding (wpAny_call_entry_kw slot_list_sort ⟨_, hat, rfl⟩ entry_list_sort (fin _ ⟨_, rfl, wpAny_pure ⟨_, rfl, ?_⟩⟩ _) (ha2 _)))
  obtain ⟨n, hn⟩ := sortedHeap_at (vs := vs) (out := (sortVals (dataKind (sortingHeap (h1.push (seqObj "list" vs.toArray 0)) h1.objs.size vs) (ds.map id)) rev vs vs).toArray) hat
  refine h h1 _ tk1 _ n k1 (fun b o q => ?_) hn (by rw [sortVals_length rev rfl]; exact hlen) (sortVals_data rev e er' hal)
  rw [sortedHeap_old (Nat.ne_of_lt (Heap.lt_size q)) (Heap.lt_size (Heap.get?_push_of_some _ q))]
  exact Heap.get?_push_of_some _ q
end
/-! ### the rule -/
def RelD (K : PySem.W.Frag) (F : Hp) (u : Value) (d : D) : Prop := ∃ v, RelV v u ∧ Dp K F v d
theorem each_of {K : PySem.W.Frag} {F : Hp} : ∀ {xs : List V} {us : List Value} {ds : List D}, Vals xs us → DpAll K F xs ds → EachIs (RelD K F) us ds
  | _, _, _, .nil, .nil => .nil
  | _, _, _, .cons r t, .cons h q => .cons ⟨_, r, h⟩ (each_of t q)
theorem of_each {K : PySem.W.Frag} {F : Hp} : ∀ {us : List Value} {ds : List D}, EachIs (RelD K F) us ds → ∃ ys : List V, Vals ys us ∧ DpAll K F ys ds
  | _, _, .nil => ⟨[], .nil, .nil⟩
  | _, _, .cons ⟨v, r, h⟩ t => by
    obtain ⟨ys, h1, h2⟩ := of_each t
    exact ⟨v :: ys, .cons r h1, .cons h h2⟩
theorem each_reads {X : Cx} {pins : List (Addr × Obj)} {σ : L2.St} {F H : Hp} {s : Shared} (I : Inv X pins σ H s) (fh : Same F H) : ∀ {us : List Value} {ds : List D}, EachIs (RelD X.K F) us ds → EachIs (fun v d => ∃ as, Reads s.heap v d as) us ds
  | _, _, .nil => .nil
  | _, _, .cons ⟨v, r, h⟩ t => .cons (Dp.reads I _ v _ (Dp.mono fh _ _ h) r) (each_reads I fh t)
/-- behind a sort: the new list, tracked -/
theorem sorted_laid {X : Cx} {pins : List (Addr × Obj)} {σ : L2.St} {F H : Hp} {s : Shared} {h1 h' : Heap} {tk n : Nat} {out : List Value} {ds : List D} (I : Inv X pins σ H s) (k1 : ∀ b o, s.heap.get? b = some o → h1.get? b = some o) (k2 : ∀ b o, h1.get? b = some o → h'.get? b = some o)
    (hn : h'.get? h1.objs.size = some (seqObj "list" out.toArray n)) (hz : out.length ≤ sizeLine) (e : EachIs (RelD X.K F) out ds) : ∃ ys, DpAll X.K F ys ds ∧ H h1.objs.size = none ∧ Inv X pins σ (upd H h1.objs.size (.lst ys)) { s with heap := h', toks := tk } := by
  obtain ⟨ys, r, q⟩ := of_each e
  have I1 : Inv X pins σ H { s with heap := h1, toks := tk } := I.kept k1
  exact ⟨ys, q, I1.hok.fresh (Nat.le_refl _), I1.laid (t' := tk) k2 (Nat.le_refl _) ⟨by rw [r.length]; exact hz, out, n, r, hn⟩⟩
def rSortD (K : PySem.W.Frag) : List V → Hp → VK → Prop := fun vs H Q => ∃ a F ds xs, vs = [.ref a] ∧ Same F H ∧ (SqL K H a xs ∨ SqT K H a xs) ∧ DpAll K F xs ds ∧ sortOk ds = true ∧ ∀ p ys, H p = none → DpAll K F ys (sortD ds) → Q (.ref p) (upd H p (.lst ys))
section
variable {X : Cx} {W : WX} {ρ : Env X.K} {e a : Expr} {r ra : Res D} {pos p p2 q : Pos}
theorem cr_sortD (hu : X.A.units + 16 < cLine) : CallR X (.builtin "sorted") (rSortD X.K) := by
  intro pins s σ H vs us Q I r h
  obtain ⟨a, F, ds, xs, rfl, fh, hx, dp, ok, q⟩ := h
  rw [Vals.ref1 r]
  have key : ∃ its, Vals xs its ∧ Collects X.prog X.w X.A.in1 s (.ref a) its := by
    rcases hx with hx | hx
    · obtain ⟨its, rv, pl, hz⟩ := I.list hx
      exact ⟨its, rv, collects_list pl.isList (by rw [← rv.length]; exact hz)⟩
    · obtain ⟨its, rv, pl, hz⟩ := I.tuple hx
      exact ⟨its, rv, collects_tup pl (by rw [← rv.length]; exact hz)⟩
  obtain ⟨its, rv, hc⟩ := key
  have e := each_of rv dp
  refine sorted_any (.inl ⟨rfl, rfl⟩) hc e (each_reads I fh e) ok hu fun h1 h' tk out n k1 k2 hn hl he => ?_
  obtain ⟨ys, g1, g2, J⟩ := sorted_laid (tk := tk) I k1 k2 hn (by rw [hl]; exact (sortOk_of ok).2.2.2) he
  exact ⟨.ref _, _, J, rfl, q _ ys g2 g1⟩
theorem b_sorted [C : Ctx X W] : C1D X W (.builtin "sorted") .O sortedV := by
  refine ⟨_, cr_sortD (by have := C.hu; omega), fun F H σ x d Q s h k => ?_⟩
  have fin : ∀ {a : Addr} {xs : List V} {ds : List D}, (SqL X.K H a xs ∨ SqT X.K H a xs) → DpAll X.K F xs ds → x = .ref a → sortedV d = sortR ds → rSortD X.K [x] H Q := fun {a xs ds} hx dp ex ed => by
    subst ex
    cases ok : sortOk ds with
    | false => exact absurd (ed.trans (by unfold sortR; rw [ok]; rfl)) k.ns
    | true => exact ⟨a, F, ds, xs, rfl, s, hx, dp, ok, fun p ys hp q => kn_newL (k.of_eq (ed.trans (by unfold sortR; rw [ok]; rfl))) s hp q⟩
  cases d <;> first | exact absurd rfl k.ns | skip
  · obtain ⟨a, xs, rfl, q1, q2⟩ := tp_list h
    exact fin (.inl q1) q2 rfl rfl
  · obtain ⟨a, xs, rfl, q1, q2⟩ := tp_tup h
    exact fin (.inr (Same.tup s q1)) q2 rfl rfl
theorem eg_sorted [C : Ctx X W] (ha : EG X W ρ .T a ra) (hm : X.mg "sorted" = none) (hg : Gl X "sorted" := by rfl) (he : starEach [a] X.env = (false, eval a X.env) :: starEach [] X.env := by rfl) (hpl : (backTo pos (starEach [] X.env)).any (·.1) = false := by rfl) :
    EG X W ρ .O (.Call (.Name "sorted" p) [a] [] pos) (ra.bd sortedV) := eg_cB1 b_sorted ha hm DL.boot_sorted hg (by decide) (by decide) he hpl
end
end DL
/-! Exceptions: raise, statements of a call alone, what an except suite asks of the exception, try. -/
namespace DL
open PySem L2 PySem.Spec PyProof.Rows
/-- a global that is a class of exceptions of one's own, without an own __init__ -/
structure ExF (K : PySem.W.Frag) (mg : Str → Option Value) (x : Str) : Prop where
  ex : ∃ C, mg x = some (.ref C) ∧ PySem.W.excIn K C He.veBase "ValueError.__new__" = true ∧ PySem.W.keepIn K (.ref C) = true ∧ PySem.W.subIn K (.ref C) (.type "BaseException") = some true ∧ PySem.W.typeIn K (.ref C) = some (.type "type")
section
variable {X : Cx} {W : WX} {rk m : Md} {ρ : Env X.K} {S T : Type} {st : Stmt} {ss rest : List Stmt} {e a c : Expr} {r ra rb : Res D} {rc : Res Bool} {fin : T → Fin X.K} {pos p p2 p3 p4 : Pos}
theorem sv_raise [C : Ctx X W] {x m : Str} {j : Nat} (h : ExF X.K X.mg x) (hg : Gl X x := by rfl) (hdb : (x == ("__debug__" : Str)) = false := by decide) : SV X W rk ρ [.Raise (some (.Call (.Name x p) [.Constant (.str m) j p2] [] p3)) none p4] (.exc x) fin := by
  obtain ⟨c, h1, h2, h3, h4, h5⟩ := h
  exact ⟨_, pss_one (L2N.ps_raise C.calm C.tk (L2N.pmk_own PySem.F.excBase_ValueError h2 h1 h3 (raises_own h4 h5) hg hdb)), fun B H0 F H σ D g q => q.xc x rfl H _ σ h1 g.ex.hh⟩
/-- a call alone -/
theorem s1_expr (he : EG X W ρ m e r) (hs : swapsWith e none pos.line X.env = pure false := by rfl) : S1 X W rk ρ (.Expr e pos) r (fun _ => .nx ρ) := by
  obtain ⟨t, h1, h2⟩ := he
  exact ⟨_, ps_expr h1 hs, fun B H0 F H σ D g q => h2 B H0 F H σ _ g ⟨q.ns, fun d ed v F' H' x s a => q.ok d ed F' H' _ (g.go x s), fun n en H' C c s => q.xc n en H' C σ c (g.ex.hh.trans s)⟩⟩
/-! ### count, index of data -/
def countL (ds : List D) (e : D) : Res D := if SeqAt.shaped (.list ds) && SeqAt.shaped e then .ok (.int ((ds.countP fun z => PyData.eqv z e : Nat) : Int)) else .stuck
def indexL (ds : List D) (e : D) : Res D := if SeqAt.shaped (.list ds) && SeqAt.shaped e then (match ds.findIdx? (fun z => PyData.eqv z e) with | some j => .ok (.int (j : Nat)) | none => .stuck) else .stuck
def rCountD (K : PySem.W.Frag) : V → List V → Hp → VK → Prop := fun x xs H Q => ∃ (a : Addr) (y : V) (d : D) (ds : List D), x = V.ref a ∧ xs = [y] ∧ Dp K H (V.ref a) (.list ds) ∧ Dp K H y d ∧ SeqAt.shaped (.list ds) = true ∧ SeqAt.shaped d = true ∧
  Q (.int ((ds.countP fun z => PyData.eqv z d : Nat) : Int)) H
theorem mt_countD (hu : X.A.units + 65 < cLine) : MtR X "list.count" (rCountD X.K) := by
  intro pins s σ H x xs v us Q I rx rxs h
  obtain ⟨a, y, d, ds, rfl, rfl, hl, hy, sl, sd, q⟩ := h
  cases rx
  obtain ⟨uy, rfl, ry⟩ := rxs.one
  obtain ⟨bs, r1⟩ := Dp.reads I d y uy hy ry
  have lay := SeqAt.canLay_of_shaped sl
  cases hl with
  | lst hs ha =>
    obtain ⟨its, rv, ⟨⟨cls, dd, data, sls⟩, n, ho, hc, hdn, hdt⟩, _⟩ := I.list hs
    simp only at hc hdt
    subst hc hdt
    obtain ⟨as, h4⟩ := Dp.readsAll I ds _ its ha rv
    have em : its.map (SeqAt.readOf s.heap) = ds := SeqAt.readsAll_map ds its as lay h4
    refine call_meets PySem.F.slot_list_count ⟨_, ho, rfl⟩ PySem.F.entry_list_count (PySem.F.args_list_count_2 _ _)
      (SeqAt.list_countAt a its.toArray n dd sls uy fun u => PyData.eqv (SeqAt.readOf s.heap u) d) ⟨ho, SeqAt.items_eqAt (vs := its.toArray) (show ReadsAll s.heap its.toArray.toList ds as from h4) r1 lay (SeqAt.canLay_of_shaped sd) (room_in_shaped sd hu), ?_⟩
    have ec : its.toArray.toList.countP (fun u => PyData.eqv (SeqAt.readOf s.heap u) d) = ds.countP fun z => PyData.eqv z d := by
      rw [← em, List.countP_map]
      rfl
    rw [ec]
    exact ⟨.int ((ds.countP fun z => PyData.eqv z d : Nat) : Int), H, I.tok _, ⟨s.toks, rfl⟩, q⟩
/-- a method of a list, of one argument, that changes nothing -/
theorem eg_lm {id : String} {nm : Str} {rr : V → List V → Hp → VK → Prop} {g : List D → D → Res D} {apos : Pos} (slot : Slot "list" nm id) (hty : typeOf (.builtin id) = pure (.type "method_descriptor")) (hm : MtR X id rr)
    (hg : ∀ F H σ l ds y d Q, Same F H → Tp X.K F H (.ref l) (.list ds) → Tp X.K F H y d → Kn X W F H σ (g ds d) (Acc X.K .V) Q → rr (.ref l) [y] H Q) (ha : EG X W ρ .T a ra) (hb : EG X W ρ .T c rb)
    (hbase : attributeBase a nm X.env (eval a X.env) = eval a X.env := by rfl)
    (hfew : ((backTo p (starEach [c] X.env)).all (fun x => !x.1) && (backToKw p (keywordEach [] X.env)).all (fun x => x.1.isSome) && decide (([c] : List Expr).length + ([] : List Keyword).length + (if ([] : List Keyword).isEmpty then 0 else 1) < 30)) = true := by rfl)
    (hline : (apos.endLine == p.line) = true := by rfl) (hs : starEach [c] X.env = (false, eval c X.env) :: starEach [] X.env := by rfl) (hplain : (backTo p (starEach [] X.env)).any (·.1) = false := by rfl) :
    EG X W ρ .V (.Call (.Attribute a nm apos) [c] [] p) (ra.bd fun d => onL d fun ds => rb.bd fun e => g ds e) := by
  obtain ⟨ta, a1, a2⟩ := ha
  obtain ⟨tb, b1, b2⟩ := hb
  refine ⟨_, pe_bm PySem.F.plainAttrs_list slot hty hm a1 (pa_cons b1 pa_nil hs) hbase hfew hline hs hplain, fun B H0 F H σ Q gd k => a2 B H0 F H σ _ gd (Kn.bd k acc_base fun d1 x F1 H1 z1 e1 s1 q1 k1 => ?_)⟩
  clear z1
  obtain ⟨ds, rfl⟩ := onL_ns k1.ns
  rw [onL_list] at k1
  have q1 : Tp X.K F1 H1 x (.list ds) := q1
  obtain ⟨l, xs, rfl, g1, g2⟩ := tp_list q1
  exact ⟨.inl ⟨rfl, _, g1⟩, b2 B H0 F1 H1 σ _ (gd.go e1 s1) (Kn.bd k1 acc_base fun d2 y F2 H2 _ e2 s2 q2 k2 => hg F2 H2 σ l ds y d2 Q s2 (Tp.go e2 q1) q2 k2)⟩
theorem od_countL {F H : Hp} {σ : L2.St} {l : Addr} {ds : List D} {y : V} {d : D} {Q : VK} (s : Same F H) (h1 : Tp X.K F H (.ref l) (.list ds)) (h2 : Tp X.K F H y d) (k : Kn X W F H σ (countL ds d) (Acc X.K .V) Q) : rCountD X.K (.ref l) [y] H Q := by
  cases c : (SeqAt.shaped (.list ds) && SeqAt.shaped d) with
  | false => exact absurd (by unfold countL; rw [c]; rfl) k.ns
  | true =>
    have k3 := k.of_eq (r' := .ok (.int ((ds.countP fun z => PyData.eqv z d : Nat) : Int))) (by unfold countL; rw [c]; rfl)
    rw [Bool.and_eq_true] at c
    exact ⟨l, y, d, ds, rfl, rfl, Tp.dp s h1, Tp.dp s h2, c.1, c.2, kn_flat k3 s rfl (.int _)⟩
theorem od_indexL {F H : Hp} {σ : L2.St} {l : Addr} {ds : List D} {y : V} {d : D} {Q : VK} (s : Same F H) (h1 : Tp X.K F H (.ref l) (.list ds)) (h2 : Tp X.K F H y d) (k : Kn X W F H σ (indexL ds d) (Acc X.K .V) Q) : rIndexD X.K (.ref l) [y] H Q := by
  cases c : (SeqAt.shaped (.list ds) && SeqAt.shaped d) with
  | false => exact absurd (by unfold indexL; rw [c]; rfl) k.ns
  | true =>
    cases f : ds.findIdx? (fun z => PyData.eqv z d) with
    | none => exact absurd (by unfold indexL; rw [c, f]; rfl) k.ns
    | some j =>
      have k3 := k.of_eq (r' := .ok (.int (j : Nat))) (by unfold indexL; rw [c, f]; rfl)
      rw [Bool.and_eq_true] at c
      obtain ⟨hj, h3, h4⟩ := List.findIdx?_eq_some_iff_getElem.mp f
      refine ⟨l, y, d, ds, j, ds[j], rfl, rfl, Tp.dp s h1, Tp.dp s h2, c.1, c.2, List.getElem?_eq_getElem hj, h3, fun i z hi hz => ?_, kn_flat k3 s rfl (.int _)⟩
      have := h4 i hi
      rw [List.getElem?_eq_getElem (by omega)] at hz
      cases hz
      simpa using this
theorem eg_count [C : CtxB X W] {apos : Pos} (ha : EG X W ρ .T a ra) (hb : EG X W ρ .T c rb)
    (hbase : attributeBase a "count" X.env (eval a X.env) = eval a X.env := by rfl)
    (hfew : ((backTo p (starEach [c] X.env)).all (fun x => !x.1) && (backToKw p (keywordEach [] X.env)).all (fun x => x.1.isSome) && decide (([c] : List Expr).length + ([] : List Keyword).length + (if ([] : List Keyword).isEmpty then 0 else 1) < 30)) = true := by rfl)
    (hline : (apos.endLine == p.line) = true := by rfl) (hs : starEach [c] X.env = (false, eval c X.env) :: starEach [] X.env := by rfl) (hplain : (backTo p (starEach [] X.env)).any (·.1) = false := by rfl) :
    EG X W ρ .V (.Call (.Attribute a "count" apos) [c] [] p) (ra.bd fun d => onL d fun ds => rb.bd fun e => countL ds e) :=
  eg_lm PySem.F.slot_list_count PySem.F.type_list_count (mt_countD (by have := C.hu; omega)) (fun _ _ _ _ _ _ _ _ s h1 h2 k => od_countL s h1 h2 k) ha hb hbase hfew hline hs hplain
theorem eg_index [C : CtxB X W] {apos : Pos} (ha : EG X W ρ .T a ra) (hb : EG X W ρ .T c rb)
    (hbase : attributeBase a "index" X.env (eval a X.env) = eval a X.env := by rfl)
    (hfew : ((backTo p (starEach [c] X.env)).all (fun x => !x.1) && (backToKw p (keywordEach [] X.env)).all (fun x => x.1.isSome) && decide (([c] : List Expr).length + ([] : List Keyword).length + (if ([] : List Keyword).isEmpty then 0 else 1) < 30)) = true := by rfl)
    (hline : (apos.endLine == p.line) = true := by rfl) (hs : starEach [c] X.env = (false, eval c X.env) :: starEach [] X.env := by rfl) (hplain : (backTo p (starEach [] X.env)).any (·.1) = false := by rfl) :
    EG X W ρ .V (.Call (.Attribute a "index" apos) [c] [] p) (ra.bd fun d => onL d fun ds => rb.bd fun e => indexL ds e) :=
  eg_lm PySem.F.slot_list_index PySem.F.type_list_index (mt_indexD (by have := C.hu; omega)) (fun _ _ _ _ _ _ _ _ s h1 h2 k => od_indexL s h1 h2 k) ha hb hbase hfew hline hs hplain
/-! ### isinstance of the exception that is handled -/
def cIs {K : PySem.W.Frag} (x : V) : Cell K := ⟨fun _ _ v as => v = some x ∧ as = [], fun _ _ h => h, fun h a ha => by obtain ⟨_, rfl⟩ := h; cases ha⟩
theorem call_isP {D : Addr} {q : Addr × Obj} (hq : q ∈ X.pn) (G : ExcC X.K D) (hz : Zc (.ref D) none q.2) (hf : ∃ vs, q.2.data = .fields vs) : CallR X (.builtin "isinstance") (rIsE X.K D q.1) := by
  intro pins s σ H xs us Q I r h
  obtain ⟨c, cv, b, rfl, hcv, e, w⟩ := h
  cases r with
  | cons rx rr =>
    obtain ⟨u2, rfl, rt⟩ := Vals.one rr
    cases rx
    cases hcv _ rt
    have here := (I.pin q (List.mem_append_left _ hq)).1
    obtain ⟨vs, hv⟩ := hf
    obtain ⟨a0, ⟨oc, od, oda, osl⟩⟩ := q
    obtain ⟨h1, h2⟩ := hz
    dsimp only at h1 h2 hv here
    subst h1 h2 hv
    exact PySem.W.kia_one (PySem.W.handS_kitx_exc G.hg G.hk G.hs G.hd G.ha G.hn G.ht G.hm) I.kIn ⟨here, rfl, rfl, trivial⟩ e (fun z => nomatch z) fun tk => ⟨.bl b, H, I.kept (t' := tk) fun _ _ z => z, rfl, w⟩
/-- what the handled exception's class D says of a name -/
structure IsE (K : PySem.W.Frag) (mg : Str → Option Value) (D : Addr) (y : Str) (b : Bool) : Prop where
  ex : ∃ (v : V) (u : Value), (∀ w, RelV v w → w = u) ∧ PySem.W.kitOne K (.ref D) u = some b ∧ RelV v u ∧ (mg y = some u ∨ (mg y = none ∧ bootBuiltins y = some u ∧ y ≠ "__name__"))
theorem eg_isE (i : Nat) {q : Addr × Obj} {D : Addr} {x y : Str} {b : Bool} {p2 p3 : Pos} (hρ : ρ[i]? = some (cIs (.ref q.1))) (hq : q ∈ X.pn) (G : ExcC X.K D) (hz : Zc (.ref D) none q.2) (hf : ∃ vs, q.2.data = .fields vs) (k : IsE X.K X.mg D y b) (hm : X.mg "isinstance" = none)
    (hN : X.N[i]? = some x := by rfl) (hv : Vis X.env.scope x := by first | exact Or.inl rfl | exact Or.inr (Or.inl rfl) | exact Or.inr (Or.inr rfl)) (hd : (x == ("__debug__" : Str)) = false := by decide) (hcd : (x == ("__classdict__" : Str)) = false := by decide)
    (hg : Gl X "isinstance" := by rfl) (hg2 : Gl X y := by rfl) (hd2 : (y == ("__debug__" : Str)) = false := by decide)
    (he : starEach [.Name x p2, .Name y p3] X.env = (false, eval (.Name x p2) X.env) :: starEach [.Name y p3] X.env := by rfl) (he2 : starEach [.Name y p3] X.env = (false, eval (.Name y p3) X.env) :: starEach [] X.env := by rfl) (hpl : (backTo pos (starEach [.Name y p3] X.env)).any (·.1) = false := by rfl) :
    EG X W ρ .V (.Call (.Name "isinstance" p) [.Name x p2, .Name y p3] [] pos) (.ok (.bool b)) := by
  obtain ⟨v, u, ku, kb, kr, kn⟩ := k
  have hy : PE X (.Name y p3) (tC v) := by
    rcases kn with kn | ⟨kn, k2, k3⟩
    · exact pe_glob hg2 kn kr hd2
    · exact pe_bltn hg2 kn k2 kr k3 hd2
  refine ⟨_, pe_callB (call_isP hq G hz hf) hg hm (by decide +kernel) (pa_cons (pe_var hN hv hd hcd) (pa_cons hy pa_nil he2) he) (by decide) (by decide) he hpl, fun B H0 F H σ Q gd kk => ?_⟩
  obtain ⟨_, fh, ass, sl, _⟩ := gd
  obtain ⟨w, as, h1, _, h3, _⟩ := sl.get hρ
  subst h3
  exact ⟨_, h1, v, u, b, rfl, ku, kb, kn_flat kk fh rfl (.bl _)⟩
end
end DL
/-! A def that is called within an except suite with the suite's exception; try: x = e / except SlipError as y: x = _law_word(y). -/
namespace DL
open PySem L2 PySem.Spec PyProof.Rows
/-- such a def: q is the exception that the suite holds; nothing is raised -/
structure FnW (P : Program) (w : World) (K : PySem.W.Frag) (mg : Str → Option Value) (base : Heap) (CX : CXT) (k : Nat) (f : Addr) (fd : FuncData) (ps : List Str) (sp : Addr × Obj → Sp) : Prop where
  len : ∀ q vs H Q E, sp q vs H Q E → vs.length = ps.length
  run : ∀ (q : Addr × Obj) (A : Around) (outer : List PySem.Env) (s : Shared) (H : Hp) (args : Args) (vs : List V) (us : List Value) (Q : VK) (E : XK),
    L2H.RoomH k A → L2H.PinOk outer H s q → Env0 P w K mg base A outer s H → BindsTo s fd args (ps.zip us) → Vals vs us → sp q vs H Q E → codeAny (model P w) A (.call (.ref f) args) (CR CX outer P w H s Q E) s
theorem fnW_of {CX : CXT} {P : Program} {w : World} {K : PySem.W.Frag} {mg : Str → Option Value} {base : Heap} {k : Nat} {x qual : Str} {st : Stmt} {f : Addr} {fd : FuncData} {N ps : List Str} {sp : Addr × Obj → Sp} (F : Fun K x qual st f fd) (S : FnScope N ps (defScope st))
    (len : ∀ q vs H Q E, sp q vs H Q E → vs.length = ps.length)
    (bod : ∀ (q : Addr × Obj) (cdv : Value) (A : Around) (outer : List PySem.Env) (s : Shared) (H : Hp) (vs : List V) (Q : VK) (E : XK), L2H.RoomH k (A.deeper (envOfC qual (defScope st) s.heap.objs.size f cdv)) → sp q vs H Q E →
      ∃ t, PSs (L2H.cxH CX P w K mg base N qual (defScope st) f cdv A outer s H E q) (defBody st) t ∧ t { nx := fun _ H' => Q .non H', rt := Q } (L2.start N vs) H) : FnW P w K mg base CX (k + 1) f fd ps sp := by
  obtain ⟨oc, od, kV, doc, pm, an, cdv, ct, osl, rfl, lk, hcd⟩ := F.ex
  refine ⟨len, fun q A outer s H args vs us Q E room pin e0 bind rel hsp => ?_⟩
  have here : K.In s.heap := e0.mod.kin.keeps fun a o h => (e0.bs a o h).1
  have noLim : s.heap.NoLimit := e0.mod.nolimit.keeps fun a o h => (e0.bs a o h).1
  have kinds : ∀ y ∈ ps.zip us, (defScope st).names.lookup y.1 = some .local ∨ ((defScope st).names.lookup y.1 = some .cell ∧ ((cellsFrom (s.heap.objs.size + 1) (defScope st).names []).lookup y.1).isSome = true) := by
    rintro ⟨y, u⟩ hy
    exact (S.par y (List.of_mem_zip hy).1).imp id fun z => ⟨z, PySem.W.cellsFrom_some _ _ _ (.inl z)⟩
  refine codeAny_call_function room.depth (here _ _ lk) rfl S.co S.gen rfl (PySem.W.codeRec_of here hcd) (bind _ _ _ _ (wpAny_newFunctionEnv_cells S.kind kinds ?_))
  intro en een s1 made
  subst een
  obtain ⟨t, run, post⟩ := bod q cdv A outer s H vs Q E (room.deeper _) hsp
  have I := L2H.inv_startH (CX := CX) (E := E) S pin e0 (len _ _ _ _ _ hsp) rel made
  refine ⟨noLim.keeps made.toInCall.keep, codeAny_func (wpAny_mono (run.run [] s1 _ H _ I post) (fun fl s2 h2 => ?_) fun _ _ h => h)⟩
  cases fl with
  | next =>
    obtain ⟨σ2, H2, J, h⟩ := h2
    exact ⟨.non, H2, J.os, J.bare, J.base, J.hok, rfl, h⟩
  | ret u =>
    obtain ⟨v, σ2, H2, J, rv, h⟩ := h2
    exact ⟨v, H2, J.os, J.bare, J.base, J.hok, rv, h⟩
  | brk => exact h2.elim fun _ ⟨_, _, z⟩ => z.elim
  | cont => exact h2.elim fun _ ⟨_, _, z⟩ => z.elim
section
variable {X : Cx} {W : WX} {rk m : Md} {ρ : Env X.K} {CX : CXT} {k : Nat} {f : Addr} {fd : FuncData} {ps : List Str} {E : L2.St → XK} {x : Str} {pos p : Pos} {e : Expr} {es : List Expr} {t : TA}
theorem pe_callW {q : Addr × Obj} {sp : Addr × Obj → Sp} (F : FnW X.prog X.w X.K X.mg X.base CX k f fd ps sp) (hr : L2H.RoomH k X.A) (hq : q ∈ X.pn) (hg : Gl X x) (hm : X.mg x = some (.ref f)) (hk : PySem.W.keepIn X.K (.ref f) = true) (hb : Binds X.K fd ps [])
    (hx : ∀ σ, PassesAt CX X σ (E σ)) (ha : PA X (e :: es) t) (hdb : (x == ("__debug__" : Str)) = false := by decide) (he : starEach (e :: es) X.env = (false, eval e X.env) :: starEach es X.env := by rfl) (hpl : (backTo pos (starEach es X.env)).any (·.1) = false := by rfl) :
    PE X (.Call (.Name x p) (e :: es) [] pos) (tCallS (sp q) E t) := by
  refine ⟨fun pins s σ H Q I h => wpAny_Call_Name_kw (ld_glob I hg hm (PySem.W.callWith_K (h₀ := X.base) I.ok.mod.kin hk (thn (ha.run pos pins s σ H _ I h) fun us s1 => ?_) he hpl) hdb)⟩
  rintro ⟨vs, H1, I1, rel, h1⟩
  refine ⟨I1.kIn, ?_⟩
  obtain ⟨g1, g2, g3, g4, g5⟩ := I1.pin q (List.mem_append_left _ hq)
  have bd := hb s1 us I1.kIn (by rw [List.append_nil, ← rel.length]; exact F.len _ _ _ _ _ h1)
  rw [List.append_nil] at bd
  have pin : L2H.PinOk X.stack H1 s1 q := ⟨g1, g2, fun z => (List.mem_cons.mp (I1.stkSub q.1 z)).elim g3 g4, g5⟩
  refine wpAny_call (codeAny_mono (F.run q X.A X.stack s1 H1 ⟨us, []⟩ vs us Q (E σ) hr pin I1.env0 bd rel h1) fun res s2 h2 => ?_)
  match res, h2 with
  | .error er, h2 => exact hx σ pins H1 s1 er s2 I1 h2
  | .ok (.ret u), h2 => exact I1.after h2
  | .ok .next, h2 => exact h2.elim
  | .ok .brk, h2 => exact h2.elim
  | .ok .cont, h2 => exact h2.elim
end
/-! ### words -/
def slips : List (Str × Str) := [("TooFew", "few"), ("NoCurve", "curve"), ("NoPaper", "paper"), ("NoPlace", "place"), ("NoNumber", "number"), ("Heard", "heard"), ("NotHeard", "not heard"), ("NothingLeft", "nothing"), ("NoText", "text"), ("NoRow", "row")]
def wordOf (n : Str) : Option Str := slips.lookup n
/-- what the heap says of these classes -/
structure WordC (K : PySem.W.Frag) (mg : Str → Option Value) : Prop where
  all : ∀ n w, wordOf n = some w → ∃ D S, mg n = some (.ref D) ∧ ExcC K D ∧ mg "SlipError" = some (.ref S) ∧ PySem.W.exmOne K (.ref D) (.ref S) = some true ∧
    (∀ n', n' ∈ slips.map (·.1) → ∃ D', mg n' = some (.ref D') ∧ PySem.W.kitOne K (.ref D) (.ref D') = some (decide (n = n'))) ∧ PySem.W.kitOne K (.ref D) (.type "ValueError") = some true
  noV : mg "ValueError" = none
/-- the def that tells an exception's word -/
def spW (K : PySem.W.Frag) (mg : Str → Option Value) (q : Addr × Obj) : Sp := fun vs H Q _ => vs = [.ref q.1] ∧ ∃ D n w, ExcC K D ∧ Zc (.ref D) none q.2 ∧ (∃ us, q.2.data = .fields us) ∧ mg n = some (.ref D) ∧ wordOf n = some w ∧ ∀ H', Same H H' → Q (.str w) H'
structure DefW (P : Program) (w : World) (K : PySem.W.Frag) (mg : Str → Option Value) (base : Heap) (x : Str) (k : Nat) : Prop where
  ex : ∃ f fd ps, FnW P w K mg base (L2N.CX P w) k f fd ps (spW K mg) ∧ mg x = some (.ref f) ∧ PySem.W.keepIn K (.ref f) = true ∧ Binds K fd ps []
def wordR (r : Res D) : Res D := match r with
  | .ok d => .ok d
  | .exc n => match wordOf n with | some w => .ok (.str w) | none => .stuck
  | .stuck => .stuck
theorem wordR_exc (n : Str) : wordR (.exc n) = match wordOf n with | some w => .ok (.str w) | none => .stuck := rfl
@[simp] theorem wordR_ok (d : D) : wordR (.ok d) = .ok d := id rfl
section
variable {X : Cx} {W : WX} {rk m : Md} {ρ : Env X.K} {k : Nat} {r : Res D}
theorem Good.drop {B H0 F H : Hp} {σ : L2.St} {v : Option V} {i : Nat} (g : Good B H0 F H ρ σ) : Good B H0 F H (ρ.set i cAny) (σ.set i v) := by
  obtain ⟨ex, fh, ass, sl, nd, ow⟩ := g
  refine ⟨ex, fh, ass.set i [], sl.set (c := cAny) rfl, nodup_flatten_set nd List.nodup_nil (fun _ z => nomatch z), fun a ha => ?_⟩
  rcases mem_flatten_set ha with z | z
  · exact ow a z
  · cases z
theorem tr_ctx (C : Ctx X W) {pn : List (Addr × Obj)} {xe : Value → Shared → Prop} {W' : WX} (tk : L2N.Takes (X.tr pn xe) W') (po : PassesOwn (model X.prog X.w) X.A X.env xe) : Ctx (X.tr pn xe) W' :=
  { tk := tk, po := po, nd := C.nd, hu := C.hu, calm := C.calm }
/-- what the suite wishes -/
def tsW (K : PySem.W.Frag) (mg : Str → Option Value) (i ix : Nat) : Addr → Value → Option Addr → TS := fun a cls d D σ H => ∃ Dd n w, cls = .ref Dd ∧ d = none ∧ ExcC K Dd ∧ mg n = some (.ref Dd) ∧ wordOf n = some w ∧ σ[i]? = some (some (.ref a)) ∧
  ∀ H', Same H H' → D.nx (σ.set ix (some (.str w))) H'
variable {x y f : Str} {p1 p2 p3 p4 p5 p6 p7 p8 p8' pos : Pos} {e : Expr} {i ix : Nat}
theorem suite_word [C : Ctx X W] (Dw : DefW X.prog X.w X.K X.mg X.base f k) (hr : Room k X.A) {a : Addr} {oe : Obj} {cls : Value} {d : Option Addr} {pn : List (Addr × Obj)} (hz : L2N.Zn cls d oe) (hf : ∃ vs, oe.data = .fields vs) (hi : X.N[i]? = some y) (hix : X.N[ix]? = some x)
    (hg : Gl X f) (hdf : (f == ("__debug__" : Str)) = false) (hx : Loc X.env.scope x) (hv : Vis X.env.scope y) (hd : (y == ("__debug__" : Str)) = false) (hcd : (y == ("__classdict__" : Str)) = false) (hst : starEach [.Name y p1] X.env = (false, eval (.Name y p1) X.env) :: starEach [] X.env) (hpl : (backTo p3 (starEach [] X.env)).any (·.1) = false)
    (hs : swapsWith (.Call (.Name f p2) [.Name y p1] [] p3) (some (.Name x p4)) p5.line X.env = pure false) (hfn : X.fn x = true ∨ X.env.scope.names.lookup x = some .local) :
    PSs (X.suite a ((a, oe) :: pn)) [.Assign [.Name x p4] (.Call (.Name f p2) [.Name y p1] [] p3) p5] (tsW X.K X.mg i ix a cls d) := by
  obtain ⟨f0, fd, ps, F, hm, hk, hb⟩ := Dw
  refine ⟨fun pins s σ H D I ⟨Dd, n, w, e1, e2, G, hmn, hw, hσ, post⟩ => ?_⟩
  subst e1 e2
  have ps : PSs (X.suite a ((a, oe) :: pn)) [.Assign [.Name x p4] (.Call (.Name f p2) [.Name y p1] [] p3) p5] _ := pss_one (ps_set (X := X.suite a ((a, oe) :: pn)) C.nd hix hx
    (pe_callW (X := X.suite a ((a, oe) :: pn)) (CX := L2N.CX X.prog X.w) (E := fun _ => E0) (q := (a, oe)) F ⟨hr.dp, hr.un⟩ List.mem_cons_self hg hm hk hb (fun σ pins H s e s' I c => by
      obtain ⟨_, _, _, _, _, _, _, _, _, _, _, _, z⟩ := c
      exact z.elim) (pa_cons (pe_var hi hv hd hcd) pa_nil hst) hdf hst hpl) hs hfn)
  exact ps.run pins s σ H D I ⟨_, hσ, rfl, Dd, n, w, G, hz.zc, hf, hmn, hw, post⟩
/-- try: x = e / except SlipError as y: x = f(y) -/
theorem s1_tryWordG [C : Ctx X W] (i ix : Nat) (Dw : DefW X.prog X.w X.K X.mg X.base f k) (hr : Room k X.A) (Wc : WordC X.K X.mg)
    (he : ∀ (pn : List (Addr × Obj)) (xe : Value → Shared → Prop) (W' : WX), Ctx (X.tr pn xe) W' → EG (X.tr pn xe) W' ρ m e r) {c : D → Cell X.K}
    (hc : ∀ {B H0 F H F' H' : Hp} {ρ : Env X.K} {σ : L2.St} {d : D} {v : V} {i : Nat}, Good B H0 F H ρ σ → Ex F H F' H' → Same F' H' → Acc X.K m H F' H' d v → Good B H0 F' H' (ρ.set i (c d)) (σ.set i (some v)))
    (hse : ∀ c : Cell X.K, ((ρ.set i cAny).set ix c).set i cAny = (ρ.set i cAny).set ix c) (hsw : ∀ c : Cell X.K, (ρ.set ix c).set i cAny = (ρ.set i cAny).set ix c) (hlt : i < ρ.length)
    (hstk : X.stack = X.env :: X.outer := by rfl) (hfr : X.env.frame = some X.env.locals := by rfl) (hln : X.env.kindOf y = some .local := by rfl) (hgS : Gl X "SlipError" := by rfl)
    (hi : X.N[i]? = some y := by rfl) (hix : X.N[ix]? = some x := by rfl) (hg : Gl X f := by rfl) (hdf : (f == ("__debug__" : Str)) = false := by decide) (hx : Loc X.env.scope x := by first | exact Or.inl rfl | exact Or.inr rfl)
    (hv : Vis X.env.scope y := by first | exact Or.inl rfl | exact Or.inr (Or.inl rfl) | exact Or.inr (Or.inr rfl)) (hd : (y == ("__debug__" : Str)) = false := by decide) (hcd : (y == ("__classdict__" : Str)) = false := by decide)
    (hst : starEach [.Name y p1] X.env = (false, eval (.Name y p1) X.env) :: starEach [] X.env := by rfl) (hpl : (backTo p3 (starEach [] X.env)).any (·.1) = false := by rfl)
    (hs : swapsWith (.Call (.Name f p2) [.Name y p1] [] p3) (some (.Name x p4)) p5.line X.env = pure false := by rfl) (hfn : X.fn x = true ∨ X.env.scope.names.lookup x = some .local := by first | exact .inl rfl | exact .inr rfl)
    (hs2 : swapsWith e (some (.Name x p6)) p7.line X.env = pure false := by rfl) :
    S1 X W rk ρ (.Try [.Assign [.Name x p6] e p7] [.ExceptHandler (some (.Name "SlipError" p8)) (some y) [.Assign [.Name x p4] (.Call (.Name f p2) [.Name y p1] [] p3) p5] p8'] [] [] pos) (wordR r) (fun d => .nx ((ρ.set i cAny).set ix (c d))) := by
  obtain ⟨_, S, _, _, hS, _⟩ := Wc.all "TooFew" "few" (by decide)
  have run := L2N.ps_try_as (X := X) (i := i) (np := p8) (pos' := p8') (pos := pos) (body := [.Assign [.Name x p6] e p7]) (c := .ref S) (Wout := W) (ts := tsW X.K X.mg i ix) hstk hfr C.nd hi hln ⟨hgS, by decide, .inl hS⟩ C.tk
    (tb := fun W' => tAsg (tS X.K X W' ρ m r) (gName ix)) (fun W' pn xe tk po => pss_one (ps_set (X := X.tr pn xe) C.nd hix hx ((he pn xe W' (tr_ctx C tk po)).sem (Y := X) rfl) hs2 hfn))
    (fun a oe cls d pn hz hf => suite_word Dw hr hz hf hi hix hg hdf hx hv hd hcd hst hpl hs hfn)
  refine ⟨_, run, fun B H0 F H σ D g q => ⟨B, H0, F, g, fun z => q.ns (by rw [z]; rfl), fun d ed v F' H' xx s a => ?_, fun n en H' Cv hC ss => ?_⟩⟩
  · have g1 := hc (i := ix) g xx s a
    obtain ⟨F2, _, g2⟩ := wk_any i B H0 F' H' _ g1
    rw [hsw] at g2
    exact q.ok d (by rw [ed]; rfl) F2 H' _ g2
  · subst en
    have : ∃ w, wordOf n = some w := by
      cases ew : wordOf n with
      | some w => exact ⟨w, rfl⟩
      | none => exact absurd (by rw [wordR_exc, ew]) q.ns
    obtain ⟨w, hw⟩ := this
    obtain ⟨Dd, S', hmn, G, hS', hex, _⟩ := Wc.all n w hw
    rw [hS] at hS'
    cases hS'
    rw [hmn] at hC
    cases hC
    refine ⟨true, hex, fun _ a ha => ⟨Dd, n, w, rfl, rfl, G, hmn, hw, ?_, fun H2 s2 => ?_⟩, fun z => Bool.noConfusion z⟩
    · rw [List.getElem?_set_self]
      obtain ⟨_, _, ass, sl, _⟩ := id g
      have := sl.len
      omega
    · have g1 : Good B H0 F H2 ρ σ := g.go ⟨Same.refl _, ss.trans s2, fun _ _ => rfl⟩ (g.fh.trans (ss.trans s2))
      have g2 := hc (i := ix) (d := .str w) (v := .str w) (g1.drop (i := i) (v := some (.ref a))) (Ex.refl _ _) g1.fh (acc_flat' rfl rfl (.str _))
      have g3 := g2.drop (i := i) (v := none)
      rw [hse] at g3
      exact q.ok (.str w) (by rw [wordR_exc, hw]) F H2 _ g3
end
/-! ### the def that tells the word -/
theorem boot_ValueError : bootBuiltins "ValueError" = some (.type "ValueError") := by decide +kernel
theorem word_mem {n w : Str} (h : wordOf n = some w) : (n, w) ∈ slips := by
  have : ∀ l : List (Str × Str), l.lookup n = some w → (n, w) ∈ l := fun l => by
    induction l with
    | nil => exact fun z => nomatch z
    | cons a l ih =>
      obtain ⟨a, b⟩ := a
      rw [List.lookup_cons]
      cases e : n == a with
      | true => intro h; cases h; rw [beq_iff_eq.mp e]; exact List.mem_cons_self
      | false => exact fun h => List.mem_cons_of_mem _ (ih h)
  exact this _ h
theorem fnWord {P : Program} {w : World} {K : PySem.W.Frag} {mg : Str → Option Value} {base : Heap} {x qual y : Str} {st : Stmt} {f : Addr} {fd : FuncData} {N : List Str} {g : Str → Res D} (F : Fun K x qual st f fd) (S : FnScope N [y] (defScope st))
    (hg : ∀ n w, wordOf n = some w → g n = .ok (.str w)) (Wc : WordC K mg)
    (hb : ∀ (q : Addr × Obj) (cdv : Value) (A : Around) (outer : List PySem.Env) (s : Shared) (H : Hp) (E : XK) (D : Addr) (n : Str), ExcC K D → Zc (.ref D) none q.2 → (∃ us, q.2.data = .fields us) → (∀ y ∈ slips.map (·.1), IsE K mg D y (decide (n = y))) → IsE K mg D "ValueError" true →
      CtxB (L2H.cxH (L2N.CX P w) P w K mg base N qual (defScope st) f cdv A outer s H E q) (Wf E) →
      SV (L2H.cxH (L2N.CX P w) P w K mg base N qual (defScope st) f cdv A outer s H E q) (Wf E) .V (cIs (.ref q.1) :: List.replicate (N.length - 1) cAny) (defBody st) (g n) Fin.rt) : FnW P w K mg base (L2N.CX P w) 1 f fd [y] (spW K mg) := by
  refine fnW_of F S (fun q vs H Q E h => by rw [h.1]; rfl) fun q cdv A outer s H vs Q E hr h => ?_
  obtain ⟨rfl, D, n, w0, G, hz, hf, hm, hw, post⟩ := h
  obtain ⟨D', S0, hm', G', hS, _, hk, hv⟩ := Wc.all n w0 hw
  rw [hm] at hm'
  cases hm'
  have hI : ∀ y ∈ slips.map (·.1), IsE K mg D y (decide (n = y)) := fun y hy => by
    obtain ⟨D2, h1, h2⟩ := hk y hy
    exact ⟨.ref D2, .ref D2, fun w e => e, h2, rfl, .inl h1⟩
  have hV : IsE K mg D "ValueError" true := ⟨.ty "ValueError", .type "ValueError", fun w e => e, hv, rfl, .inr ⟨Wc.noV, boot_ValueError, by decide⟩⟩
  have hu : (A.deeper (envOfC qual (defScope st) s.heap.objs.size f cdv)).units + 90 < cLine := by
    have := hr.un
    omega
  obtain ⟨t, t1, t2⟩ := hb q cdv A outer s H E D n G hz hf hI hV { tk := L2N.takes_of rfl rfl rfl rfl, po := passes_of (K := fun e s'' => L2N.CX P w outer H s E e s'') rfl, nd := S.nd, hu := hu }
  refine ⟨t, t1, t2 (fun _ => none) H (fun _ => none) H _ _ ⟨Ex.refl _ _, (fun a o e => nomatch e), List.replicate (1 + (N.length - 1)) [], ?_, by rw [flat_nil]; exact List.nodup_nil, fun a ha => by rw [flat_nil] at ha; cases ha⟩ ⟨by rw [hg n w0 hw]; exact ok_ns _, fun d ed => ?_, fun m em => ?_⟩⟩
  · have h0 : ∀ m, Slots (fun _ => none) H (List.replicate m (cAny : Cell K)) (List.replicate m none) (List.replicate m []) := fun m => by
      induction m with
      | zero => trivial
      | succ m ih => exact ⟨rfl, ih⟩
    rw [Nat.add_comm]
    exact ⟨⟨rfl, rfl⟩, h0 _⟩
  · rw [hg n w0 hw] at ed
    cases ed
    exact fun v F' H' e s a => by
      have a : Dp K F' v (.str w0) := a
      cases a
      exact post H' e.hh
  · rw [hg n w0 hw] at em; cases em
theorem defW_mk {P : Program} {w : World} {K : PySem.W.Frag} {mg : Str → Option Value} {base : Heap} {x : Str} {st : Stmt} {k : Nat} {f : Addr} {fd : FuncData} {ps : List Str} (F : Fun K x x st f fd) (hm : mg x = some (.ref f)) (hb : Binds K fd ps []) (h : FnW P w K mg base (L2N.CX P w) k f fd ps (spW K mg)) :
    DefW P w K mg base x k := ⟨f, fd, ps, h, hm, F.kp, hb⟩
end DL
/-! Dicts whose keys are tuples (nested ones too), of one's own; values plain data. -/
namespace DL
open PySem L2
mutual
/-- a value as a key -/
def keyOf : D → Option NestedKey
  | .none => some .none
  | .bool b => some (.num (if b = true then 1 else 0))
  | .int i => some (.num i)
  | .str x => some (.text x)
  | .tuple ds => (keysOf ds).map .tup
  | .list _ => none
  | .dict _ => none
def keysOf : List D → Option (List NestedKey)
  | [] => some []
  | d :: ds => match keyOf d, keysOf ds with
    | some k, some ks => some (k :: ks)
    | _, _ => none
end
/-- a tuple as a key -/
def keyT (d : D) : Option NestedKey := if isTupV d then (keyOf d).filter fun k => decide (k.depth ≤ 8) else none
theorem keyT_ok {d : D} {k : NestedKey} (h : keyT d = some k) : (∃ ds, d = .tuple ds) ∧ keyOf d = some k ∧ k.depth ≤ 8 := by
  unfold keyT at h
  split at h
  · rename_i t
    obtain ⟨h1, h2⟩ := Option.filter_eq_some_iff.mp h
    exact ⟨by cases d <;> first | cases t; done | exact ⟨_, rfl⟩, h1, of_decide_eq_true h2⟩
  · cases h
section
variable {X : Cx} {pins : List (Addr × Obj)} {σ : L2.St} {H : Hp} {s : Shared}
mutual
theorem Dp.key (I : Inv X pins σ H s) : ∀ (d : D) (k : NestedKey) (v : V) (u : Value), Dp X.K H v d → RelV v u → keyOf d = some k → NestedIs s.heap k u
  | .none, k, _, _, h, r, e => by cases h; cases r; cases e; exact .none
  | .bool b, k, _, _, h, r, e => by cases h; cases r; cases e; exact .bool rfl
  | .int i, k, _, _, h, r, e => by
    cases h
    obtain ⟨t, rfl⟩ := r
    cases e
    exact .int i t
  | .str x, k, _, _, h, r, e => by
    cases h
    obtain ⟨t, rfl⟩ := r
    cases e
    exact .text x t
  | .list _, _, _, _, _, _, e => by cases e
  | .dict _, _, _, _, _, _, e => by cases e
  | .tuple ds, k, v, u, h, r, e => by
    unfold keyOf at e
    obtain ⟨ks, h1, rfl⟩ := Option.map_eq_some_iff.mp e
    cases h with
    | tup hs ha =>
      cases r
      obtain ⟨its, rv, ⟨o, ho, hc, n, hd⟩, _⟩ := I.tuple hs
      exact .tup ho hc hd (by simpa using Dp.keys I ds ks _ its ha rv h1)
theorem Dp.keys (I : Inv X pins σ H s) : ∀ (ds : List D) (ks : List NestedKey) (vs : List V) (us : List Value), DpAll X.K H vs ds → Vals vs us → keysOf ds = some ks → NestedAll s.heap ks us
  | [], ks, _, _, h, r, e => by cases h; cases r; cases e; exact .nil
  | d :: ds, ks, _, _, h, r, e => by
    unfold keysOf at e
    cases h with
    | cons h1 h2 =>
      cases r with
      | cons r1 r2 =>
        cases e1 : keyOf d with
        | none => rw [e1] at e; cases e
        | some k =>
          cases e2 : keysOf ds with
          | none => rw [e1, e2] at e; cases e
          | some ks' =>
            rw [e1, e2] at e
            cases e
            exact .cons (Dp.key I d k _ _ h1 r1 e1) (Dp.keys I ds ks' _ _ h2 r2 e2)
end
end
/-! ### what stands there -/
abbrev Ent : Type := NestedKey × Addr × V
abbrev EntR : List Ent → List (NestedKey × Addr × Value) → Prop := Paired fun p q => p.1 = q.1 ∧ p.2.1 = q.2.1 ∧ RelV p.2.2 q.2.2
def DRaw (w : World) (a : Addr) (xs : List Ent) (ep : Nat) (h : Heap) : Prop :=
  (a == sysModules) = false ∧ (xs.map (·.1)).Nodup ∧ ∃ (vs : List (NestedKey × Addr × Value)) (o : Obj) (es : Array DictEntry), EntR xs vs ∧ h.get? a = some o ∧ o.ExactDict ∧ o.data = .dict es ep ∧ es.toList = vs.map fun x => ⟨x.1.hash w, .ref x.2.1, x.2.2⟩
abbrev HDct (w : World) (a : Addr) (xs : List Ent) (ep : Nat) : HO := .ext (DRaw w a xs ep)
def Ents (K : PySem.W.Frag) (F : Hp) : List (D × D) → List Ent → Prop := Paired fun p x => keyT p.1 = some x.1 ∧ Dp K F (.ref x.2.1) p.1 ∧ Dp K F x.2.2 p.2
theorem Ents.mono {K : PySem.W.Frag} {F F' : Hp} (s : Same F F') {kvs : List (D × D)} {xs : List Ent} (h : Ents K F kvs xs) : Ents K F' kvs xs := Paired.mapP h fun _ _ z => ⟨z.1, Dp.mono s _ _ z.2.1, Dp.mono s _ _ z.2.2⟩
theorem entR_keys : ∀ {xs : List Ent} {vs : List (NestedKey × Addr × Value)}, EntR xs vs → xs.map (·.1) = vs.map (·.1)
  | _, _, .nil => rfl
  | _, _, .cons h t => by rw [List.map_cons, List.map_cons, h.1, entR_keys t]
section
variable {X : Cx} {pins : List (Addr × Obj)} {σ : L2.St} {H : Hp} {s : Shared} {a : Addr} {xs : List Ent} {ep : Nat} {kvs : List (D × D)}
theorem draw_of (I : Inv X pins σ H s) (h : H a = some (HDct X.w a xs ep)) (e : Ents X.K H kvs xs) : (a == sysModules) = false ∧ ∃ vs, EntR xs vs ∧ s.heap.DictOfH (nestedKind X.prog X.w) a vs ∧ ∃ o es, s.heap.get? a = some o ∧ o.ExactDict ∧ o.data = .dict es ep ∧ es.toList = vs.map fun x => ⟨x.1.hash X.w, .ref x.2.1, x.2.2⟩ := by
  have ok : ObjOk X.prog X.w H s.heap a (HDct X.w a xs ep) := I.hok a _ h
  obtain ⟨⟨h1, h2, vs, o, es, h3, h4, h5, h6, h7⟩, ok2⟩ := ok
  clear ok2
  refine ⟨h1, vs, h3, ⟨o, es, ep, h4, h5, h6, h7, ?_, by rw [← entR_keys h3]; exact h2⟩, o, es, h4, h5, h6, h7⟩
  clear h7 h6 h2 h
  induction h3 generalizing kvs with
  | nil => exact fun x hx => nomatch hx
  | @cons p q ps qs hq t ih =>
    cases e with
    | cons e1 e2 =>
      intro x hx
      rcases List.mem_cons.mp hx with rfl | hx
      · obtain ⟨k1, k2, k3⟩ := keyT_ok e1.1
        exact ⟨hq.1 ▸ Dp.key I _ _ _ _ e1.2.1 (by rw [← hq.2.1]; rfl) k2, hq.1 ▸ k3⟩
      · exact ih e2 x hx
theorem draw_new {P : Program} {w : World} {H' : Hp} {h' : Heap} {vs : List (NestedKey × Addr × Value)} (hs : (a == sysModules) = false) (r : EntR xs vs) (d : h'.DictOfH (nestedKind P w) a vs) : ∃ ep, ObjOk P w H' h' a (HDct w a xs ep) := by
  obtain ⟨o, es, ep, h1, h2, h3, h4, h5, h6⟩ := d
  exact ⟨ep, ⟨hs, by rw [entR_keys r]; exact h6, vs, o, es, r, h1, h2, h3, h4⟩, ⟨o, h1⟩, fun g1 g2 ⟨q1, q2, vs', o', es', q3, q4, q5⟩ k => ⟨q1, q2, vs', o', es', q3, k _ q4, q5⟩⟩
end
/-! ### the data side -/
def sameK (e : D) (p : D × D) : Bool := decide (keyT p.1 = keyT e)
def valD (kvs : List (D × D)) (e : D) : Option D := (kvs.find? (sameK e)).map (·.2)
def putD (kvs : List (D × D)) (e v : D) : List (D × D) := if (kvs.find? (sameK e)).isSome then kvs.map (fun p => if sameK e p then (p.1, v) else p) else kvs ++ [(e, v)]
def putX (xs : List Ent) (k : NestedKey) (b : Addr) (v : V) : List Ent := if (xs.find? fun x => decide (x.1 = k)).isSome then xs.map (fun x => if x.1 = k then (x.1, x.2.1, v) else x) else xs ++ [(k, b, v)]
section
variable {K : PySem.W.Frag} {F : Hp} {kvs : List (D × D)} {xs : List Ent} {e : D} {k : NestedKey}
theorem entR_find (k : NestedKey) : ∀ {xs : List Ent} {vs : List (NestedKey × Addr × Value)}, EntR xs vs → RelO ((xs.find? fun x => decide (x.1 = k)).map (·.2.2)) ((atKey vs k).map (·.2))
  | _, _, .nil => trivial
  | _, _, .cons (a := p) (b := q) h t => by
    have ih := entR_find k t
    unfold atKey at ih ⊢
    rw [List.find?_cons, List.find?_cons, h.1]
    by_cases c : q.1 = k
    · simp only [c, decide_true]; exact h.2.2
    · simp only [c, decide_false]; exact ih
theorem entR_isSome {vs : List (NestedKey × Addr × Value)} (h : EntR xs vs) : (xs.find? fun x => decide (x.1 = k)).isSome = (atKey vs k).isSome := by
  have := (entR_find k h).isSome_eq
  rwa [Option.isSome_map, Option.isSome_map] at this
theorem entR_put {vs : List (NestedKey × Addr × Value)} {b : Addr} {v : V} {u : Value} (h : EntR xs vs) (r : RelV v u) : EntR (putX xs k b v) (storedH vs k b u) := by
  unfold putX storedH
  rw [entR_isSome h]
  split
  · rename_i z; clear z
    induction h with
    | nil => exact .nil
    | @cons p q ps qs hq t ih =>
      rw [List.map_cons, List.map_cons]
      refine .cons ?_ ih
      unfold putAt
      by_cases c : q.1 = k
      · rw [if_pos (hq.1.trans c), if_pos c]; exact ⟨hq.1, hq.2.1, r⟩
      · rw [if_neg (fun z => c (hq.1.symm.trans z)), if_neg c]; exact hq
  · exact Paired.snoc h ⟨rfl, rfl, r⟩
end
/-! ### mirrors -/
def getD (d e : D) : Res D := match d with
  | .dict kvs => if (keyT e).isSome then (match valD kvs e with | some v => .ok v | none => .stuck) else .stuck
  | _ => .stuck
def setD (d e v : D) : Res D := match d with
  | .dict kvs => if (keyT e).isSome && decide (kvs.length < 16777216) then .ok (.dict (putD kvs e v)) else .stuck
  | _ => .stuck
def dictKeys (d : D) : Res (List D) := match d with
  | .dict kvs => .ok (kvs.map (·.1))
  | _ => .stuck
section
variable {X : Cx} {W : WX} {rk m : Md} {ρ : Env X.K} {e a c : Expr} {r ra rb : Res D} {pos p p2 p3 : Pos} {x : Str} {d : D}
theorem draw_ok {P : Program} {w : World} {H' : Hp} {h' : Heap} {a : Addr} {xs : List Ent} {ep : Nat} (d : DRaw w a xs ep h') : ObjOk P w H' h' a (HDct w a xs ep) := by
  obtain ⟨q1, q2, vs, o, es, q3, q4, q5⟩ := d
  exact ⟨⟨q1, q2, vs, o, es, q3, q4, q5⟩, ⟨o, q4⟩, fun g1 g2 ⟨q1, q2, vs', o', es', q3, q4, q5⟩ k => ⟨q1, q2, vs', o', es', q3, k _ q4, q5⟩⟩
theorem pe_dnewX : PE X (.Dict [] [] pos) (fun _ H Q => ∀ p, H p = none → Q (.ref p) (upd H p (HDct X.w p [] 0))) := ⟨fun pins s σ H Q I h =>
  wpAny_Dict_empty ⟨.ref s.heap.objs.size, _, I.laid (a := s.heap.objs.size) (o := HDct X.w s.heap.objs.size [] 0) (t' := s.toks) (fun _ _ q => Heap.get?_push_of_some _ q) (Nat.le_refl _)
    (draw_ok ⟨beq_eq_false_iff_ne.mpr (Nat.ne_of_gt I.big), List.nodup_nil, [], _, #[], .nil, Heap.get?_push_size _ rfl, ⟨rfl, rfl, rfl⟩, rfl, rfl⟩), rfl, h _ (I.hok.fresh (Nat.le_refl _))⟩⟩
theorem key_is {pins : List (Addr × Obj)} {σ : L2.St} {H : Hp} {s : Shared} {b : Addr} {e : D} {k : NestedKey} (I : Inv X pins σ H s) (h : Dp X.K H (.ref b) e) (hk : keyT e = some k) : (nestedKind X.prog X.w).is s.heap k b := by
  obtain ⟨_, h1, h2⟩ := keyT_ok hk
  exact ⟨Dp.key I _ _ _ _ h rfl h1, h2⟩
theorem dp_key {K : PySem.W.Frag} {F : Hp} {x : V} {e : D} {k : NestedKey} (h : Dp K F x e) (hk : keyT e = some k) : ∃ b, x = .ref b := by
  obtain ⟨⟨ds, rfl⟩, _⟩ := keyT_ok hk
  cases h with
  | tup _ _ => exact ⟨_, rfl⟩
/-- d[e] -/
def rGetX (K : PySem.W.Frag) (w : World) (x y : V) (H : Hp) (Q : VK) : Prop := ∃ a xs ep kvs b e k v, x = .ref a ∧ H a = some (HDct w a xs ep) ∧ Ents K H kvs xs ∧ y = .ref b ∧ Dp K H (.ref b) e ∧ keyT e = some k ∧ (xs.find? fun x => decide (x.1 = k)).map (·.2.2) = some v ∧ Q v H
theorem pe_dgetX {o i : Expr} {td ty : TE} (hu : X.A.units + 20 < cLine) (ho : PE X o td) (hi : PE X i ty) (hs : NoSl i) : PE X (.Subscript o i pos) (fun σ H Q => td σ H fun x H1 => ty σ H1 fun y H2 => rGetX X.K X.w x y H2 Q) := by
  refine ⟨fun pins s σ H Q I h => ?_⟩
  refine subD_of PySem.F.slot_dict_getitem.lookup hs (thn (ho.run pins s σ H _ I h) fun u s1 ⟨x, H1, I1, rx, q1⟩ => thn (hi.run pins s1 σ H1 _ I1 q1) fun iv s2 ⟨y, H2, I2, ry, q2⟩ => ?_)
  obtain ⟨a, xs, ep, kvs, b, e, k, v, rfl, hH, he, rfl, hd, hk, hv, q⟩ := q2
  cases rx
  cases ry
  obtain ⟨hs, vs, r, dd, _⟩ := draw_of I2 hH he
  have rr := entR_find k r
  rw [hv] at rr
  cases c : atKey vs k with
  | none => rw [c] at rr; exact rr.elim
  | some q0 =>
    rw [c] at rr
    exact ⟨dd.typeIs, wpAny_getItem_heap (knd := nestedKind X.prog X.w) (by show X.A.units + 1 + 8 < cLine; omega) (key_is I2 hd hk) dd c ⟨v, H2, I2.tok _, rr, q⟩⟩
end
end DL
/-! Dicts of one's own: d[k] = v, walks, sorted. -/
namespace DL
open PySem PySem.W PySem.Spec L2
section
variable {X : Cx} {W : WX} {rk m : Md} {ρ : Env X.K} {e a c : Expr} {r ra rb : Res D} {pos p p2 p3 : Pos} {x : Str} {d : D}
/-! ### walked -/
def ItD (w : World) (a : Addr) (xs : List Ent) (ep : Nat) : It := ⟨fun i H => H a = some (HDct w a xs ep) ∧ i < xs.length, fun i H x H' => H' = H ∧ ∃ q, xs[i]? = some q ∧ x = .ref q.2.1, fun i H => H a = some (HDct w a xs ep) ∧ xs.length ≤ i⟩
theorem raw_of {pins : List (Addr × Obj)} {σ : L2.St} {H : Hp} {s : Shared} {a : Addr} {xs : List Ent} {ep : Nat} (I : Inv X pins σ H s) (h : H a = some (HDct X.w a xs ep)) : (a == sysModules) = false ∧ ∃ es, s.heap.DictRaw a es ep ∧ es.size = xs.length ∧ ∀ i (hi : i < es.size), ∃ q, xs[i]? = some q ∧ es[i].key = .ref q.2.1 ∧ RelV q.2.2 es[i].val := by
  have ok : ObjOk X.prog X.w H s.heap a (HDct X.w a xs ep) := I.hok a _ h
  obtain ⟨⟨h1, h2, vs, o, es, h3, h4, h5, h6, h7⟩, ok2⟩ := ok
  have hl : es.size = vs.length := by rw [← Array.length_toList, h7, List.length_map]
  refine ⟨h1, es, ⟨o, h4, h5, h6⟩, by rw [hl, Paired.length h3], fun i hi => ?_⟩
  have e1 : es[i] = (⟨(vs[i]'(by omega)).1.hash X.w, .ref (vs[i]'(by omega)).2.1, (vs[i]'(by omega)).2.2⟩ : DictEntry) := by
    have : es.toList[i]'(by simpa using hi) = _ := List.getElem_of_eq h7 _
    rw [List.getElem_map] at this
    rw [← this]
    simp
  have gt : ∀ {l : List Ent} {m : List (NestedKey × Addr × Value)} (i : Nat) (q : NestedKey × Addr × Value), EntR l m → m[i]? = some q → ∃ p, l[i]? = some p ∧ p.2.1 = q.2.1 ∧ RelV p.2.2 q.2.2 := by
    intro l m i q r e
    induction r generalizing i with
    | nil => simp at e
    | @cons p' q' ps qs hq t ih =>
      cases i with
      | zero => simp at e; subst e; exact ⟨p', by simp, hq.2⟩
      | succ i => obtain ⟨p, g1, g2⟩ := ih i (by simpa using e); exact ⟨p, by simpa using g1, g2⟩
  obtain ⟨p, g1, g2, g3⟩ := gt i _ h3 (List.getElem?_eq_getElem (by omega))
  rw [e1]
  exact ⟨p, g1, by rw [g2], g3⟩
theorem turn_dct {P : Program} {w : World} {K : PySem.W.Frag} {tg : Expr} {a : Addr} {xs : List Ent} {ep : Nat} (it : Addr) : Turn P w K tg (ItD w a xs ep) [it] it (fun i h => h.IsKeyIter it a i xs.length ep) where
  mem := by simp
  obj := fun i h st b hb => by
    have e : b = it := by simpa using hb
    subst e
    obtain ⟨oi, e, c, dd⟩ := st
    exact ⟨oi, e, fun v z => by rw [dd] at z; cases z⟩
  keep := fun i h h' st k => st.at fun oi e => k it (by simp) oi e
  item := by
    intro X hP hw hK hc i pins s σ H E I hf st hg
    subst hP hw hK
    obtain ⟨hd, hi⟩ := hg
    obtain ⟨f0, f1, f2, f3, f4, f5⟩ := hf it (by simp)
    obtain ⟨_, es, raw, hsz, ent⟩ := raw_of I hd
    have hi' : i < es.size := by omega
    obtain ⟨q, hq, hkey, _⟩ := ent i hi'
    rw [← hsz] at st
    refine wpAny_pyNext_keys_item_raw st raw hi' fun h' st' sb => ?_
    have I1 : Inv X pins σ H { s with heap := h' } := I.turned (t' := s.toks) (fun b ob hb e => (sb.2 b hb).trans e) f0 f1 f3 f4 f5
    obtain ⟨oi, e, c, dd⟩ := id st'
    refine ⟨es[i].key, rfl, go_of (s := { s with heap := h' }) e c dd (by decide) ⟨.ref q.2.1, H, I1, hkey, ⟨rfl, q, hq, rfl⟩, ?_, fun b hb => (hf b hb).1⟩⟩
    show h'.IsKeyIter it a (i + 1) xs.length ep
    rw [← hsz]
    exact st'
  done := by
    intro X hP hw hK hc i pins s σ H E I hf st hg
    subst hP hw hK
    obtain ⟨hd, hi⟩ := hg
    obtain ⟨f0, f1, f2, f3, f4, f5⟩ := hf it (by simp)
    obtain ⟨_, es, raw, hsz, ent⟩ := raw_of I hd
    rw [← hsz] at st
    exact wpAny_pyNext_keys_end_raw (I.ok.hd hc) st raw (by omega) fun h' eb => ⟨rfl, I.turned (t' := s.toks) (fun b ob hb e => eb b ob hb e) f0 f1 f3 f4 f5⟩
  self := fun A i s Q E st h => wpAny_pyIter_keyiter st h
theorem pi_dct {tg o : Expr} {td : TE} (ho : PE X o td) : PI X tg o (fun σ H R => td σ H fun x H1 => ∃ a xs ep, x = .ref a ∧ H1 a = some (HDct X.w a xs ep) ∧ R (ItD X.w a xs ep) H1) := by
  refine ⟨fun pins s σ H R I h => thn (ho.run pins s σ H _ I h) fun u s1 ⟨x, H1, I1, rx, a, xs, ep, ex, hH, q⟩ => ?_⟩
  subst ex
  cases rx
  obtain ⟨hs, es, raw, hsz, _⟩ := raw_of I1 hH
  have I2 : Inv X pins σ H1 { s1 with heap := s1.heap.push { cls := .type "dict_keyiterator", data := .fields #[.ref a, .int 0 0, .int es.size 0, .int ep 0] } } := I1.kept (t' := s1.toks) fun b o e => Heap.get?_push_of_some _ e
  refine wpAny_pyIter_dict_raw hs raw ⟨s1.heap.objs.size, [s1.heap.objs.size], _, _, H1, rfl, I2, turn_dct _, ⟨_, Heap.get?_push_size _ rfl, rfl, by simp [hsz]⟩, fun b hb => ?_, q⟩
  have e : b = s1.heap.objs.size := by simpa using hb
  subst e
  exact I1.fpOk (Nat.le_refl _) (I1.hok.fresh (Nat.le_refl _))
/-! ### sorted(d) -/
end
end DL
/-! Lists of lists of one's own: x[i][j] = v, x.append(a list of one's own); looking at them without giving them away. -/
namespace DL
open PySem L2
def RowsOk (K : PySem.W.Frag) (F H : Hp) : List V → List Addr → List D → Prop
  | [], [], [] => True
  | x :: xs, b :: bs, d :: ds => (∃ ys es, x = .ref b ∧ d = .list es ∧ H b = some (.lst ys) ∧ DpAll K F ys es) ∧ RowsOk K F H xs bs ds
  | _, _, _ => False
section
variable {K : PySem.W.Frag} {F F' H H' : Hp}
theorem RowsOk.mono (s : Same F F') : ∀ {xs : List V} {bs : List Addr} {ds : List D}, (∀ a ∈ bs, H' a = H a) → RowsOk K F H xs bs ds → RowsOk K F' H' xs bs ds
  | [], [], [], _, _ => trivial
  | x :: xs, b :: bs, d :: ds, e, h => by
    obtain ⟨⟨ys, es, h1, h2, h3, h4⟩, h5⟩ := h
    exact ⟨⟨ys, es, h1, h2, by rw [e b (by simp)]; exact h3, DpAll.mono s _ _ h4⟩, RowsOk.mono s (fun a ha => e a (by simp [ha])) h5⟩
  | [], [], _ :: _, _, h => by cases h
  | [], _ :: _, _, _, h => by cases h
  | _ :: _, [], _, _, h => by cases h
  | _ :: _, _ :: _, [], _, h => by cases h
theorem RowsOk.there : ∀ {xs : List V} {bs : List Addr} {ds : List D}, RowsOk K F H xs bs ds → ∀ a ∈ bs, H a ≠ none
  | [], [], [], _, a, ha => by cases ha
  | x :: xs, b :: bs, d :: ds, h, a, ha => by
    obtain ⟨⟨ys, es, h1, h2, h3, h4⟩, h5⟩ := h
    rcases List.mem_cons.mp ha with rfl | ha
    · rw [h3]; exact fun z => nomatch z
    · exact RowsOk.there h5 a ha
  | [], [], _ :: _, h, _, _ => by cases h
  | [], _ :: _, _, h, _, _ => by cases h
  | _ :: _, [], _, h, _, _ => by cases h
  | _ :: _, _ :: _, [], h, _, _ => by cases h
theorem RowsOk.len : ∀ {xs : List V} {bs : List Addr} {ds : List D}, RowsOk K F H xs bs ds → xs.length = ds.length ∧ bs.length = ds.length
  | [], [], [], _ => ⟨rfl, rfl⟩
  | x :: xs, b :: bs, d :: ds, h => by
    obtain ⟨h1, h2⟩ := RowsOk.len h.2
    exact ⟨by simp [h1], by simp [h2]⟩
  | [], [], _ :: _, h => by cases h
  | [], _ :: _, _, h => by cases h
  | _ :: _, [], _, h => by cases h
  | _ :: _, _ :: _, [], h => by cases h
theorem RowsOk.dp {as : List Addr} (hn : ∀ a ∈ as, F a = none) : ∀ {xs : List V} {bs : List Addr} {ds : List D}, (∀ a ∈ bs, a ∈ as) → RowsOk K F H xs bs ds → DpAll K (fz as F H) xs ds
  | [], [], [], _, _ => .nil
  | x :: xs, b :: bs, d :: ds, hb, h => by
    obtain ⟨⟨ys, es, rfl, rfl, h3, h4⟩, h5⟩ := h
    exact .cons (.lst (SqL.of (by rw [fz_in (hb b (by simp))]; exact h3)) (DpAll.mono (fz_ff hn) _ _ h4)) (RowsOk.dp hn (fun a ha => hb a (by simp [ha])) h5)
  | [], [], _ :: _, _, h => by cases h
  | [], _ :: _, _, _, h => by cases h
  | _ :: _, [], _, _, h => by cases h
  | _ :: _, _ :: _, [], _, h => by cases h
theorem RowsOk.append {v : V} {b : Addr} {ys : List V} {es : List D} (hv : v = .ref b) (h1 : H b = some (.lst ys)) (h2 : DpAll K F ys es) : ∀ {xs : List V} {bs : List Addr} {ds : List D}, RowsOk K F H xs bs ds → RowsOk K F H (xs ++ [v]) (bs ++ [b]) (ds ++ [.list es])
  | [], [], [], _ => ⟨⟨ys, es, hv, rfl, h1, h2⟩, trivial⟩
  | x :: xs, c :: bs, d :: ds, h => ⟨h.1, RowsOk.append hv h1 h2 h.2⟩
  | [], [], _ :: _, h => by cases h
  | [], _ :: _, _, h => by cases h
  | _ :: _, [], _, h => by cases h
  | _ :: _, _ :: _, [], h => by cases h
theorem RowsOk.get : ∀ {xs : List V} {bs : List Addr} {ds : List D} {n : Nat} {d : D}, RowsOk K F H xs bs ds → ds[n]? = some d → ∃ b ys es, xs[n]? = some (.ref b) ∧ bs[n]? = some b ∧ d = .list es ∧ H b = some (.lst ys) ∧ DpAll K F ys es
  | [], [], [], _, _, _, e => by simp at e
  | x :: xs, b :: bs, d :: ds, 0, d', h, e => by
    obtain ⟨⟨ys, es, h1, h2, h3, h4⟩, _⟩ := h
    simp at e; subst e
    exact ⟨b, ys, es, by simp [h1], rfl, h2, h3, h4⟩
  | x :: xs, b :: bs, d :: ds, n + 1, d', h, e => by
    obtain ⟨c, ys, es, h1, h2, h3⟩ := RowsOk.get (n := n) (d := d') h.2 (by simpa using e)
    exact ⟨c, ys, es, by simpa using h1, by simpa using h2, h3⟩
  | [], [], _ :: _, _, _, h, _ => by cases h
  | [], _ :: _, _, _, _, h, _ => by cases h
  | _ :: _, [], _, _, _, h, _ => by cases h
  | _ :: _, _ :: _, [], _, _, h, _ => by cases h
theorem RowsOk.set {ys : List V} {es : List D} (h2 : DpAll K F ys es) : ∀ {xs : List V} {bs : List Addr} {ds : List D} {n : Nat} {b : Addr}, bs.Nodup → RowsOk K F H xs bs ds → bs[n]? = some b → RowsOk K F (upd H b (.lst ys)) xs bs (ds.set n (.list es))
  | [], [], [], _, _, _, _, e => by simp at e
  | x :: xs, c :: bs, d :: ds, 0, b, nd, h, e => by
    simp at e; subst e
    obtain ⟨⟨ys', es', h1, _, _, _⟩, h5⟩ := h
    exact ⟨⟨ys, es, h1, rfl, upd_same, h2⟩, RowsOk.mono (Same.refl F) (fun a ha => upd_ne fun z => (List.nodup_cons.mp nd).1 (z ▸ ha)) h5⟩
  | x :: xs, c :: bs, d :: ds, n + 1, b, nd, h, e => by
    have e' : bs[n]? = some b := by simpa using e
    obtain ⟨⟨ys', es', h1, h2', h3, h4⟩, h5⟩ := h
    refine ⟨⟨ys', es', h1, h2', ?_, h4⟩, RowsOk.set h2 (List.nodup_cons.mp nd).2 h5 e'⟩
    have ne : c ≠ b := fun z => (List.nodup_cons.mp nd).1 (by rw [z]; exact List.mem_of_getElem? e')
    rw [upd_ne ne]
    exact h3
  | [], [], _ :: _, _, _, _, h, _ => by cases h
  | [], _ :: _, _, _, _, _, h, _ => by cases h
  | _ :: _, [], _, _, _, _, h, _ => by cases h
  | _ :: _, _ :: _, [], _, _, _, h, _ => by cases h
def OwnR (K : PySem.W.Frag) (F H : Hp) (x : V) (as : List Addr) (d : D) : Prop := ∃ a xs bs ds, d = .list ds ∧ x = .ref a ∧ as = a :: bs ∧ H a = some (.lst xs) ∧ RowsOk K F H xs bs ds
def cRows (d : D) : Cell K := ⟨fun F H v as => ∃ x, v = some x ∧ OwnR K F H x as d,
  fun s e ⟨x, h1, a, xs, bs, ds, h2, h3, h4, h5, h6⟩ => ⟨x, h1, a, xs, bs, ds, h2, h3, h4, by rw [e a (by rw [h4]; simp)]; exact h5, h6.mono s fun b hb => e b (by rw [h4]; simp [hb])⟩,
  fun ⟨x, h1, a, xs, bs, ds, h2, h3, h4, h5, h6⟩ b hb => by
    rw [h4] at hb
    rcases List.mem_cons.mp hb with rfl | hb
    · rw [h5]; exact fun z => nomatch z
    · exact h6.there b hb⟩
theorem nodup_of_flatten : ∀ {ass : List (List Addr)} {i : Nat} {as : List Addr}, ass.flatten.Nodup → ass[i]? = some as → as.Nodup
  | [], _, _, _, e => by simp at e
  | bs :: ass, 0, as, h, e => by
    simp at e; subst e
    rw [List.flatten_cons] at h
    exact (List.nodup_append.mp h).1
  | bs :: ass, i + 1, as, h, e => by
    rw [List.flatten_cons] at h
    exact nodup_of_flatten (i := i) (List.nodup_append.mp h).2.1 (by simpa using e)
end
section
variable {X : Cx} {W : WX} {rk m : Md} {ρ ρ' : Env X.K} {S T : Type} {st : Stmt} {ss rest body : List Stmt} {e c e1 e2 ev : Expr} {r ra rv r1 r2 : Res D} {rc : Res Bool} {rs : Res (List D)} {fin : T → Fin X.K} {pos : Pos} {vs : List Nat}
theorem Good.rows {K : PySem.W.Frag} {B H0 F H : Hp} {ρ : Env K} {σ : St} {i : Nat} {d : D} (g : Good B H0 F H ρ σ) (h : ρ[i]? = some (cRows d)) :
    ∃ a xs bs ds, d = .list ds ∧ σ[i]? = some (some (.ref a)) ∧ H a = some (.lst xs) ∧ RowsOk K F H xs bs ds ∧
      ∀ n b ys es, bs[n]? = some b → DpAll K F ys es → Good B H0 F (upd H b (.lst ys)) (ρ.set i (cRows (.list (ds.set n (.list es))))) σ := by
  obtain ⟨e, f, ass, h1, h2, h3⟩ := g
  obtain ⟨v, as, g1, g2, y, rfl, a, xs, bs, ds, rfl, rfl, rfl, q1, q2⟩ := h1.get h
  refine ⟨a, xs, bs, ds, rfl, g1, q1, q2, fun n b ys es hb q => ?_⟩
  have hm : b ∈ a :: bs := List.mem_cons_of_mem _ (List.mem_of_getElem? hb)
  have ha : b ∈ ass.flatten := List.mem_flatten.mpr ⟨_, List.mem_of_getElem? g2, hm⟩
  have nd := nodup_of_flatten h2 g2
  have s3 := Slots.set (i := i) (c := (cAny : Cell K)) (v := some (V.ref a)) (as := []) h1 rfl
  rw [set_self g1] at s3
  have na : b ∉ (ass.set i []).flatten := not_in_set h2 g2 hm List.not_mem_nil
  have s4 : Slots F (upd H b (.lst ys)) (ρ.set i cAny) σ (ass.set i []) := s3.mono (Same.refl F) fun c hc => upd_ne fun z => na (z ▸ hc)
  have ab : a ≠ b := fun z => (List.nodup_cons.mp nd).1 (z ▸ List.mem_of_getElem? hb)
  have s5 := Slots.set (i := i) (c := (cRows (.list (ds.set n (.list es))) : Cell K)) (v := some (V.ref a)) (as := a :: bs) s4 ⟨.ref a, rfl, a, xs, bs, _, rfl, rfl, rfl, by rw [upd_ne ab]; exact q1, RowsOk.set q (List.nodup_cons.mp nd).2 q2 hb⟩
  rw [set_self g1, List.set_set, List.set_set, set_self g2] at s5
  refine ⟨⟨e.ff, fun c o hc => ?_, e.eq⟩, Same.updO f (h3 b ha).1, ass, s5, h2, h3⟩
  rw [upd_ne (fun z => by rw [z, (h3 b ha).2] at hc; cases hc)]
  exact e.hh c o hc
end
end DL
/-! Pairs whose second one is a list of one's own. -/
namespace DL
open PySem L2
section
variable {K : PySem.W.Frag} {F F' H H' : Hp}
theorem TupL.mono {x : V} {as : List Addr} {d : D} (s : Same F F') (e : ∀ a ∈ as, H' a = H a) (h : TupL K F H x as d) : TupL K F' H' x as d := by
  rcases h with ⟨a, b, v1, d1, ys, ds, rfl, rfl, rfl, h0, h1, h2, h3, h4⟩ | ⟨h1, h2, h3⟩
  · exact .inl ⟨a, b, v1, d1, ys, ds, rfl, rfl, rfl, h0, by rw [e a (by simp)]; exact h1, Dp.mono s _ _ h2, by rw [e b (by simp)]; exact h3, DpAll.mono s _ _ h4⟩
  · exact .inr ⟨h1, h2, Dp.mono s _ _ h3⟩
theorem TupL.there {x : V} {as : List Addr} {d : D} (h : TupL K F H x as d) : ∀ a ∈ as, H a ≠ none := fun c hc => by
  rcases h with ⟨a, b, v1, d1, ys, ds, rfl, rfl, rfl, h0, h1, h2, h3, h4⟩ | ⟨h1, rfl, h3⟩
  · rcases List.mem_cons.mp hc with rfl | hc
    · rw [h1]; exact fun z => nomatch z
    · rw [List.mem_singleton.mp hc, h3]; exact fun z => nomatch z
  · cases hc
theorem TupL.nd {x : V} {as : List Addr} {d : D} (h : TupL K F H x as d) : as.Nodup := by
  rcases h with ⟨a, b, v1, d1, ys, ds, rfl, rfl, rfl, h0, _⟩ | ⟨_, rfl, _⟩
  · simpa using h0
  · simp
theorem TupL.fz {x : V} {as : List Addr} {d : D} (hn : ∀ a ∈ as, F a = none) (h : TupL K F H x as d) : Dp K (fz as F H) x d := by
  rcases h with ⟨a, b, v1, d1, ys, ds, rfl, rfl, rfl, h0, h1, h2, h3, h4⟩ | ⟨h1, rfl, h3⟩
  · refine .tup (SqT.of (by rw [fz_in (by simp)]; exact h1)) (.cons (Dp.mono (fz_ff hn) _ _ h2) (.cons (.lst (SqL.of (by rw [fz_in (by simp)]; exact h3)) (DpAll.mono (fz_ff hn) _ _ h4)) .nil))
  · exact Dp.mono (fz_ff hn) _ _ h3
end
section
variable {X : Cx} {W : WX} {rk m : Md} {ρ ρ' : Env X.K} {S T : Type} {st : Stmt} {ss rest body : List Stmt} {e c a b e1 e2 ev : Expr} {r ra rb rv r1 r2 : Res D} {rc : Res Bool} {rs : Res (List D)} {fin : T → Fin X.K} {pos p : Pos} {vs : List Nat}
theorem EG.pv (h : EG X W ρ .P e r) : EG X W ρ .V e r := by
  obtain ⟨t, h1, h2⟩ := h
  refine ⟨t, h1, fun B H0 F H σ Q g k => h2 B H0 F H σ Q g ⟨k.ns, fun d ed v F' H' x s ⟨as, q, hn⟩ => ?_, k.xc⟩⟩
  have hf : ∀ a ∈ as, F' a = none := fun a ha => (hn a ha).2
  refine k.ok d ed v (fz as F' H') H' ⟨x.ff.trans (fz_ff hf), x.hh, fun a ha => ?_⟩ (fz_fh s) (q.fz hf)
  rw [fz_out fun z => ha (hn a z).1, x.eq a ha]
theorem EG.pt (h : EG X W ρ .P e r) : EG X W ρ .T e r := h.pv.vt
end
end DL
/-! any(xs) of a list of truths or of whole numbers -/
namespace DL
open PySem L2 PySem.Spec PyProof.Rows
end DL
/-! a tuple times a number, which may be nought or less -/
namespace DL
open PySem L2 PySem.Spec PyProof.Rows
end DL
/-! Rows of one's own made by a comprehension; a walk over a list of one's own that stays one's own. -/
namespace DL
open PySem L2
end DL
/-! A walk over a list of one's own that stays one's own; targets in targets. -/
namespace DL
open PySem L2
end DL
/-! Ready forms: rows of one's own by a comprehension; walks over a list of one's own; nested targets. -/
namespace DL
open PySem L2
end DL
/-! any(xs) of a tuple of whole numbers, or of what anyW takes -/
namespace DL
open PySem L2 PySem.Spec PyProof.Rows
end DL
/-! xs.extend(a tuple) -/
namespace DL
open PySem L2 PySem.Spec PyProof.Rows
end DL
/-! len(set(xs)), xs a list of tuples of ints -/
namespace DL
open PySem L2 PySem.Spec PyProof.Rows
/-- the tuples of ints of a list -/
def tupsOf : List D → Option (List (List Int))
  | [] => some []
  | .tuple ds :: r => match intsOf ds, tupsOf r with
    | some ns, some nss => some (ns :: nss)
    | _, _ => none
  | _ => none
theorem tupsOf_dp {K : PySem.W.Frag} {F : Hp} : ∀ {ds : List D} {kss : List (List Int)} {vs : List V}, tupsOf ds = some kss → DpAll K F vs ds → ∃ ks : List (Addr × List Int), vs = ks.map (fun p => V.ref p.1) ∧ ks.map (·.2) = kss ∧ ∀ p ∈ ks, SqT K F p.1 (p.2.map V.int)
  | [], _, _, e, .nil => by cases e; exact ⟨[], rfl, rfl, fun _ h => nomatch h⟩
  | d :: r, kss, _, e, .cons h t => by
    cases d <;> first | (cases e; done) | skip
    rename_i es
    unfold tupsOf at e
    cases e1 : intsOf es with
    | none => rw [e1] at e; cases e
    | some ns =>
      cases e2 : tupsOf r with
      | none => rw [e1, e2] at e; cases e
      | some nss =>
        rw [e1, e2] at e
        cases e
        obtain ⟨ks, k1, k2, k3⟩ := tupsOf_dp e2 t
        cases h with
        | @tup a xs _ p1 p2 =>
          obtain ⟨q1, _⟩ := intsOf_dp e1 p2
          subst q1
          refine ⟨(a, ns) :: ks, by rw [k1]; rfl, by rw [List.map_cons, k2], fun p hp => ?_⟩
          rcases List.mem_cons.mp hp with rfl | hp
          · exact p1
          · exact k3 p hp
end DL
/-! sorted(set(xs)), xs a list of tuples of ints -/
namespace DL
open PySem L2 PySem.Spec PyProof.Rows
theorem lexP_uniq : ∀ {l m : List (List Int)}, l.Perm m → l.Pairwise (· ≤ ·) → m.Pairwise (· ≤ ·) → l = m
  | [], m, h, _, _ => (List.nil_perm.mp h).symm
  | a :: l, [], h, _, _ => by have := h.length_eq; simp at this
  | a :: l, b :: m, h, p, q => by
    have e : a = b := by
      obtain ⟨p1, p2⟩ := List.pairwise_cons.mp p
      obtain ⟨q1, q2⟩ := List.pairwise_cons.mp q
      have ha : a ∈ b :: m := h.mem_iff.mp List.mem_cons_self
      have hb : b ∈ a :: l := h.mem_iff.mpr List.mem_cons_self
      rcases List.mem_cons.mp ha with e | ha
      · exact e
      · rcases List.mem_cons.mp hb with e | hb
        · exact e.symm
        · exact List.le_antisymm (p1 b hb) (q1 a ha)
    subst e
    rw [lexP_uniq h.cons_inv (List.pairwise_cons.mp p).2 (List.pairwise_cons.mp q).2]
def srtT (l : List (List Int)) : List (List Int) := l.mergeSort fun a b => decide (a ≤ b)
theorem srtT_perm (l : List (List Int)) : (srtT l).Perm l := List.mergeSort_perm _ _
theorem srtT_pw (l : List (List Int)) : (srtT l).Pairwise (· ≤ ·) := by
  have := List.pairwise_mergeSort (le := fun a b : List Int => decide (a ≤ b)) (fun a b c h1 h2 => decide_eq_true (List.le_trans (of_decide_eq_true h1) (of_decide_eq_true h2))) (fun a b => by
    rcases List.le_total a b with h | h <;> simp [h]) l
  exact this.imp fun h => of_decide_eq_true h
section
variable {X : Cx} {W : WX} {ρ : Env X.K} {e a : Expr} {r ra : Res D} {pos p p2 q : Pos}
theorem ints_dp {K : PySem.W.Frag} {F : Hp} : ∀ ns : List Int, DpAll K F (ns.map V.int) (ns.map .int)
  | [] => .nil
  | n :: ns => .cons (.int n) (ints_dp ns)
theorem tups_dp {K : PySem.W.Frag} {F : Hp} : ∀ (L : List (Addr × List Int)), (∀ p ∈ L, SqT K F p.1 (p.2.map V.int)) → DpAll K F (L.map fun p => V.ref p.1) ((L.map (·.2)).map fun z => PyData.tuple (z.map .int))
  | [], _ => .nil
  | p :: L, h => by
    refine .cons (.tup (h p (by simp)) ?_) (tups_dp L fun q hq => h q (by simp [hq]))
    exact ints_dp p.2
end
end DL
/-! max(xs) of a tuple of whole numbers, or of what maxV takes -/
namespace DL
open PySem L2 PySem.Spec PyProof.Rows
/-- the greatest of a list or a tuple of numbers -/
def maxA : D → Res D
  | .tuple xs => optI ((intsOf xs).bind greatest)
  | d => maxV d
@[simp] theorem maxA_list (xs : List D) : maxA (.list xs) = maxV (.list xs) := id rfl
@[simp] theorem maxA_tup (xs : List D) : maxA (.tuple xs) = maxV (.list xs) := id rfl
end DL
/-! try: x = e / except SlipError: x = (what is made of constants) -/
namespace DL
open PySem L2 PySem.Spec PyProof.Rows
def conR (r : Res D) (dc : D) : Res D := match r with
  | .ok d => .ok d
  | .exc n => match wordOf n with | some _ => .ok dc | none => .stuck
  | .stuck => .stuck
@[simp] theorem conR_ok (d dc : D) : conR (.ok d) dc = .ok d := id rfl
end DL
/-! for row, number in zip(rows of one's own, values): row.append(..); names first told within a loop. -/
namespace DL
open PySem L2
/-! ### names that may be told -/
def needS {T : Type} (o : Option D) (k : D → Res T) : Res T := match o with
  | none => .stuck
  | some d => k d
@[simp] theorem needS_some {T : Type} (d : D) (k : D → Res T) : needS (some d) k = k d := id rfl
@[simp] theorem needS_none {T : Type} (k : D → Res T) : needS none k = .stuck := id rfl
/-! ### rows that grow -/
end DL
/-! x = left.pop(i); row[left.pop(i)] = v; x = [left.pop(..) for j in range(n)] -/
namespace DL
open PySem L2
end DL
/-! range(a, b, c) upwards -/
namespace DL
open PySem L2
end DL
/-! a, b = x, y -/
namespace DL
open PySem L2
def lst2 : List D → Res (D × D)
  | [a, b] => .ok (a, b)
  | _ => .stuck
@[simp] theorem lst2_two (a b : D) : lst2 [a, b] = .ok (a, b) := id rfl
end DL
/-! dicts of one's own keyed by whole numbers: {}, d.get(k, x), d[k] = v -/
namespace DL
open PySem L2 PySem.Spec PyProof.Rows
def KEnts (K : PySem.W.Frag) (F : Hp) : List (D × D) → List (Key × V) → Prop := Paired fun p x => ∃ i : Int, p.1 = .int i ∧ x.1 = .inl i ∧ Dp K F x.2 p.2
theorem KEnts.mono {K : PySem.W.Frag} {F F' : Hp} (s : Same F F') {kvs : List (D × D)} {xs : List (Key × V)} (h : KEnts K F kvs xs) : KEnts K F' kvs xs := Paired.mapP h fun _ _ ⟨i, a, b, c⟩ => ⟨i, a, b, Dp.mono s _ _ c⟩
end DL
/-! sorted(d.values(), reverse=True) -/
namespace DL
open PySem PySem.W PySem.Spec L2 PyProof.Rows
end DL
/-! xs.insert(i, y) into a list of one's own -/
namespace DL
open PySem L2 PySem.Spec PyProof.Rows
end DL
/-! try: x = e / except TooFew: x = [] -/
namespace DL
open PySem L2 PySem.Spec PyProof.Rows
def conT (cn : Str) (r : Res D) (dc : D) : Res D := match r with
  | .ok d => .ok d
  | .exc n => if n = cn then .ok dc else .stuck
  | .stuck => .stuck
@[simp] theorem conT_ok (cn : Str) (d dc : D) : conT cn (.ok d) dc = .ok d := id rfl
end DL
/-! Dicts of one's own from tuples to lists of one's own: x.setdefault(k, []).append(v), len(x[k]), sorted(x[k]), for k in x -/
namespace DL
open PySem L2 PySem.Spec PyProof.Rows
/-- what a slot owns is changed -/
theorem Good.chg {K : PySem.W.Frag} {B H0 F H F1 H1 : Hp} {ρ : Env K} {σ : L2.St} {i : Nat} {c : Cell K} (g : Good B H0 F H ρ σ) (hi : ρ[i]? = some c) (x : Ex F H F1 H1) (s : Same F1 H1) :
    ∃ v as, σ[i]? = some v ∧ c.P F H v as ∧ c.P F1 H1 v as ∧ as.Nodup ∧ (∀ a ∈ as, F1 a = none) ∧ ∀ (H2 : Hp) (c' : Cell K) (as' : List Addr), (∀ b, b ∉ as → (H b ≠ none ∨ F1 b ≠ none) → H2 b = H1 b) → c'.P F1 H2 v as' → as'.Nodup → (∀ b ∈ as', b ∈ as ∨ (H b = none ∧ F1 b = none)) → Good B H0 F1 H2 (ρ.set i c') σ := by
  obtain ⟨e, f, ass, h1, h2, h3⟩ := g
  have th := h1.there
  obtain ⟨v, as, g1, g2, g3⟩ := h1.get hi
  have sub : ∀ a ∈ as, a ∈ ass.flatten := fun a ha => List.mem_flatten.mpr ⟨as, List.mem_of_getElem? g2, ha⟩
  have h1' : Slots F1 H1 ρ σ ass := h1.mono x.ff fun a ha => Same.ne x.hh (th a ha)
  have h3' : ∀ a ∈ ass.flatten, F1 a = none ∧ H0 a = none := fun a ha => ⟨by rw [x.eq a (th a ha)]; exact (h3 a ha).1, (h3 a ha).2⟩
  obtain ⟨v', as2, q1, q2, q3⟩ := h1'.get hi
  rw [g1] at q1
  rw [g2] at q2
  cases q1
  cases q2
  refine ⟨v, as, g1, g3, q3, nodup_of_flatten h2 g2, fun a ha => (h3' a (sub a ha)).1, fun H2 c' as' k1 k2 k3 k4 => ?_⟩
  have s3 := Slots.set (i := i) (c := (cAny : Cell K)) (v := v) (as := []) h1' rfl
  rw [set_self g1] at s3
  have na : ∀ a ∈ (ass.set i []).flatten, a ∉ as := fun a ha z => not_in_set h2 g2 z List.not_mem_nil ha
  have s4 : Slots F1 H2 (ρ.set i cAny) σ (ass.set i []) := s3.mono (Same.refl F1) fun b hb => by
    rcases mem_flatten_set hb with z | z
    · exact k1 b (na b hb) (.inl (th b z))
    · cases z
  have s5 := Slots.set (i := i) (c := c') (v := v) (as := as') s4 k2
  rw [set_self g1, List.set_set, List.set_set] at s5
  have hH0 : ∀ b o, H0 b = some o → b ∉ as := fun b o hb z => by
    have := (h3 b (sub b z)).2
    rw [hb] at this
    cases this
  refine ⟨⟨e.ff.trans x.ff, fun b o hb => ?_, fun b hb => ?_⟩, fun b o hb => ?_, ass.set i as', s5, nodup_flatten_set' h2 g2 k3 fun b hb => ?_, fun b hb => ?_⟩
  · have hb2 := e.hh b o hb
    rw [k1 b (hH0 b o hb) (.inl (by rw [hb2]; exact fun z => nomatch z))]
    exact x.hh b o hb2
  · rw [x.eq b (Same.ne' e.hh hb), e.eq b hb]
  · have hn : b ∉ as := fun z => by
      have := (h3' b (sub b z)).1
      rw [hb] at this
      cases this
    rw [k1 b hn (.inr (by rw [hb]; exact fun z => nomatch z))]
    exact s b o hb
  · rcases k4 b hb with z | z
    · exact .inl z
    · exact .inr fun hm => th b hm z.1
  · rcases mem_flatten_set hb with z | z
    · exact h3' b z
    · rcases k4 b z with z | z
      · exact h3' b (sub b z)
      · exact ⟨z.2, Same.free e.hh z.1⟩
def KeysOk (K : PySem.W.Frag) (F : Hp) : List (D × D) → List Ent → Prop := Paired fun p x => keyT p.1 = some x.1 ∧ Dp K F (.ref x.2.1) p.1
theorem KeysOk.mono {K : PySem.W.Frag} {F F' : Hp} (s : Same F F') {kvs : List (D × D)} {xs : List Ent} (h : KeysOk K F kvs xs) : KeysOk K F' kvs xs := Paired.mapP h fun _ _ z => ⟨z.1, Dp.mono s _ _ z.2⟩
def cGrp {K : PySem.W.Frag} (w : World) (d : D) : Cell K := ⟨fun F H v as => ∃ a kvs xs ep bs, d = .dict kvs ∧ v = some (.ref a) ∧ as = a :: bs ∧ H a = some (HDct w a xs ep) ∧ KeysOk K F kvs xs ∧ RowsOk K F H (xs.map (·.2.2)) bs (kvs.map (·.2)),
  fun s e ⟨a, kvs, xs, ep, bs, h1, h2, h3, h4, h5, h6⟩ => ⟨a, kvs, xs, ep, bs, h1, h2, h3, by rw [e a (by rw [h3]; simp)]; exact h4, h5.mono s, by rw [h3] at e; exact h6.mono s fun b hb => e b (List.mem_cons_of_mem _ hb)⟩,
  fun ⟨a, kvs, xs, ep, bs, _, _, h3, h4, _, h6⟩ b hb => by
    rw [h3] at hb
    rcases List.mem_cons.mp hb with rfl | hb
    · rw [h4]; exact fun z => nomatch z
    · exact h6.there b hb⟩
theorem rows_dp {K : PySem.W.Frag} {F H : Hp} (s : Same F H) : ∀ {kvs : List (D × D)} {xs : List Ent} {bs : List Addr}, KeysOk K F kvs xs → RowsOk K F H (xs.map (·.2.2)) bs (kvs.map (·.2)) → Ents K H kvs xs
  | _, _, _, .nil, _ => .nil
  | p :: kvs, x :: xs, [], .cons _ _, r => by cases r
  | p :: kvs, x :: xs, b :: bs, .cons h t, r => by
    obtain ⟨⟨ys, es, h1, h2, h3, h4⟩, h5⟩ := r
    refine .cons ⟨h.1, Dp.mono s _ _ h.2, ?_⟩ (rows_dp s t h5)
    rw [show x.2.2 = .ref b from h1, show p.2 = .list es from h2]
    exact .lst (SqL.of h3) (DpAll.mono s _ _ h4)
theorem keys_find {K : PySem.W.Frag} {F : Hp} {e : D} {k : NestedKey} (hk : keyT e = some k) : ∀ {kvs : List (D × D)} {xs : List Ent}, KeysOk K F kvs xs → kvs.findIdx? (sameK e) = xs.findIdx? fun x => decide (x.1 = k)
  | _, _, .nil => rfl
  | _, _, .cons (a := p) (b := x) h t => by
    have hp : sameK e p = decide (x.1 = k) := by
      unfold sameK
      rw [h.1, hk]
      simp
    rw [List.findIdx?_cons, List.findIdx?_cons, hp, keys_find hk t]
theorem find_of_idx {α : Type} {p : α → Bool} : ∀ {l : List α} {n : Nat}, l.findIdx? p = some n → ∃ x, l[n]? = some x ∧ l.find? p = some x
  | [], n, h => by simp at h
  | a :: l, n, h => by
    rw [List.findIdx?_cons] at h
    rw [List.find?_cons]
    cases c : p a with
    | true =>
      rw [c] at h
      simp at h
      subst h
      exact ⟨a, rfl, rfl⟩
    | false =>
      rw [c] at h
      simp at h
      obtain ⟨m, h1, rfl⟩ := h
      obtain ⟨x, q1, q2⟩ := find_of_idx h1
      exact ⟨x, by simpa using q1, q2⟩
theorem find_none {α : Type} {p : α → Bool} {l : List α} (h : l.findIdx? p = none) : l.find? p = none := by
  rw [List.findIdx?_eq_none_iff] at h
  rw [List.find?_eq_none]
  intro x hx
  simp [h x hx]
/-- d.setdefault(k, []) -/
def slotG (d e : D) : Res D := match d with
  | .dict kvs => if (keyT e).isSome && decide (kvs.length < 16777216) then (match kvs.findIdx? (sameK e) with
      | some _ => .ok (.dict kvs)
      | none => .ok (.dict (kvs ++ [(e, .list [])]))) else .stuck
  | _ => .stuck
/-- .append(v) behind it -/
def appG (d e v : D) : Res D := match d with
  | .dict kvs => (match kvs.findIdx? (sameK e) with
      | some n => (match kvs[n]? with
        | some (q, .list es) => if decide (es.length < 16777216) then .ok (.dict (kvs.set n (q, .list (es ++ [v])))) else .stuck
        | _ => .stuck)
      | none => .stuck)
  | _ => .stuck
/-- .. with what stands there told -/
def cGrpE {K : PySem.W.Frag} (w : World) (kvs : List (D × D)) (a : Addr) (xs : List Ent) (bs : List Addr) : Cell K := ⟨fun F H v as => ∃ ep, v = some (.ref a) ∧ as = a :: bs ∧ H a = some (HDct w a xs ep) ∧ KeysOk K F kvs xs ∧ RowsOk K F H (xs.map (·.2.2)) bs (kvs.map (·.2)),
  fun s e ⟨ep, h2, h3, h4, h5, h6⟩ => ⟨ep, h2, h3, by rw [e a (by rw [h3]; simp)]; exact h4, h5.mono s, by rw [h3] at e; exact h6.mono s fun b hb => e b (List.mem_cons_of_mem _ hb)⟩,
  fun ⟨ep, _, h3, h4, _, h6⟩ b hb => by
    rw [h3] at hb
    rcases List.mem_cons.mp hb with rfl | hb
    · rw [h4]; exact fun z => nomatch z
    · exact h6.there b hb⟩
theorem rows_set {K : PySem.W.Frag} {F H : Hp} {ys : List V} {es : List D} {q : D} (h2 : DpAll K F ys es) {xs : List V} {bs : List Addr} {kvs : List (D × D)} {n : Nat} {b : Addr} (nd : bs.Nodup) (h : RowsOk K F H xs bs (kvs.map (·.2))) (e : bs[n]? = some b) : RowsOk K F (upd H b (.lst ys)) xs bs ((kvs.set n (q, .list es)).map (·.2)) := by
  rw [List.map_set]
  exact RowsOk.set h2 nd h e
theorem keys_set {K : PySem.W.Frag} {F : Hp} {q v v' : D} : ∀ {kvs : List (D × D)} {xs : List Ent} {n : Nat}, KeysOk K F kvs xs → kvs[n]? = some (q, v) → KeysOk K F (kvs.set n (q, v')) xs
  | _, _, _, .nil, e => by simp at e
  | p :: kvs, x :: xs, 0, .cons h t, e => by
    simp at e
    subst e
    exact .cons h t
  | p :: kvs, x :: xs, n + 1, .cons h t, e => .cons h (keys_set (n := n) t (by simpa using e))
section
variable {X : Cx} {W : WX} {rk m : Md} {ρ : Env X.K} {e a c f o ev : Expr} {r ra rb rf rv : Res D} {pos p p2 p3 apos cpos ap2 cp2 : Pos} {x : Str} {d : D} {td ty tx : TE}
/-- x = {} -/
theorem s1_gnew [C : CtxB X W] {pos' : Pos} (i : Nat) (hi : X.N[i]? = some x := by rfl) (hx : Loc X.env.scope x := by first | exact Or.inl rfl | exact Or.inr rfl) (hs : swapsWith (.Dict [] [] p) (some (.Name x pos')) pos.line X.env = pure false := by rfl) (hf : X.fn x = true ∨ X.env.scope.names.lookup x = some .local := by first | exact .inl rfl | exact .inr rfl) :
    S1 X W rk ρ (.Assign [.Name x pos'] (.Dict [] [] p) pos) (.ok (.dict [])) (fun d => .nx (ρ.set i (cGrp X.w d))) :=
  ⟨_, ps_set C.nd hi hx pe_dnewX hs hf, fun B H0 F H σ D g q p hp => by
    refine q.ok _ rfl F _ _ ?_
    obtain ⟨e, f, ass, h1, h2, h3⟩ := g
    have th := h1.there
    have x : Ex F H F (upd H p (HDct X.w p [] 0)) := Ex.newO hp
    have h1' : Slots F (upd H p (HDct X.w p [] 0)) ρ σ ass := h1.mono x.ff fun a ha => Same.ne x.hh (th a ha)
    refine ⟨e.trans x, Same.updO f (Same.free f hp), ass.set i [p], h1'.set (c := cGrp X.w (.dict [])) ⟨p, [], [], 0, [], rfl, rfl, rfl, upd_same, .nil, trivial⟩, nodup_flatten_set h2 (by simp) fun b hb hm => th b hm (by rw [List.mem_singleton.mp hb]; exact hp), fun b hb => ?_⟩
    rcases mem_flatten_set hb with z | z
    · exact h3 b z
    · rw [List.mem_singleton.mp z]
      exact ⟨Same.free f hp, Same.free e.hh hp⟩⟩
theorem pe_setdef (hu : X.A.units + 20 < cLine) (ho : PE X o td) (he : PE X e ty) (hf : PE X f tx) (m : M2 X o "setdefault" apos e f cpos) : PE X (.Call (.Attribute o "setdefault" apos) [e, f] [] cpos) (fun σ H Q => td σ H fun x H1 => ∃ a xs0 ep0, x = .ref a ∧ H1 a = some (HDct X.w a xs0 ep0) ∧ ty σ H1 fun y H2 => tx σ H2 fun z H3 => ∃ xs ep kvs b ek k, H3 a = some (HDct X.w a xs ep) ∧ Ents X.K H3 kvs xs ∧ y = .ref b ∧ Dp X.K H3 (.ref b) ek ∧ keyT ek = some k ∧ xs.length ≤ sizeLine ∧
      (∀ q, xs.find? (fun x => decide (x.1 = k)) = some q → Q q.2.2 H3) ∧ (xs.find? (fun x => decide (x.1 = k)) = none → ∀ ep2, Q z (upd H3 a (HDct X.w a (xs ++ [(k, b, z)]) ep2)))) := by
  refine ⟨fun pins s σ H Q I h => ?_⟩
  refine wpAny_Call_method m.base m.few m.line PySem.F.plainAttrs_dict PySem.F.slot_dict_setdefault PySem.F.type_dict_setdefault (thn (ho.run pins s σ H _ I h) fun u s1 ⟨x, H1, I1, rx, a, xs0, ep0, ex, hH0, q1⟩ => ?_)
  subst ex
  obtain rfl : u = Value.ref a := rx
  obtain ⟨hs0, es0, raw0, _⟩ := raw_of I1 hH0
  refine ⟨raw0.typeIs, fun b z => ?_, ?_⟩
  · cases z
    obtain ⟨o0, g1, g2, _⟩ := raw0
    exact ⟨o0, g1, g2.2.1⟩
  rw [m.trees]
  refine Calls.callWith_builtin rfl (Calls.evalArgs_plain (Calls.spliced_cons (thn (he.run pins s1 σ H1 _ I1 q1) fun iv s2 ⟨y, H2, I2, ry, q2⟩ =>
    Calls.spliced_cons (thn (hf.run pins s2 σ H2 _ I2 q2) fun fv s3 ⟨z, H3, I3, rz, q3⟩ => Calls.spliced_nil ?_))))
  obtain ⟨xs, ep, kvs, b, ek, k, hH, en, rfl, hd, hk, hl, k1, k2⟩ := q3
  cases ry
  obtain ⟨hs, vs, rr, dd, _⟩ := draw_of I3 hH en
  have fnd := entR_find k rr
  refine call_setdefault_heap (knd := nestedKind X.prog X.w) (by show X.A.units + 1 + 8 < cLine; omega) (key_is I3 hd hk) hs dd (fun pr hp => ?_) (fun hn h' dd' sb => ?_) (by rw [← Paired.length rr]; exact hl)
  · rw [hp] at fnd
    cases c : xs.find? (fun x => decide (x.1 = k)) with
    | none => rw [c] at fnd; exact fnd.elim
    | some q =>
      rw [c] at fnd
      exact ⟨q.2.2, H3, I3.tok _, fnd, k1 q c⟩
  · rw [hn] at fnd
    cases c : xs.find? (fun x => decide (x.1 = k)) with
    | some q => rw [c] at fnd; exact fnd.elim
    | none =>
      have e1 : putX xs k b z = xs ++ [(k, b, z)] := by unfold putX; rw [c]; rfl
      obtain ⟨ep', ok⟩ := draw_new (P := X.prog) (H' := upd H3 a (HDct X.w a (putX xs k b z) 0)) hs (entR_put rr rz) dd'
      rw [e1] at ok
      have mu : Mut (H3 a) := by rw [hH]; trivial
      have J : Inv X pins σ (upd H3 a (HDct X.w a (xs ++ [(k, b, z)]) ep')) { s3 with heap := h', toks := s3.toks + k.draws } := d_write I3 mu sb ok.2.1 (draw_ok ok.1)
      exact ⟨z, _, J, rz, k2 c ep'⟩
/-- x.setdefault(k, []).append(v) -/
theorem s1_groupPut [C : Ctx X W] (i : Nat) (hρ : ρ[i]? = some (cGrp X.w d)) (ha : EG X W ρ .V a ra) (hf : EG X W ρ .O f (.ok (.list []))) (hv' : EG X W (ρ.set i cAny) .V ev rv) (mm : M2 X (.Name x p) "setdefault" apos a f cpos)
    (hN : X.N[i]? = some x := by rfl) (hv : Vis X.env.scope x := by first | exact Or.inl rfl | exact Or.inr (Or.inl rfl) | exact Or.inr (Or.inr rfl)) (hd : (x == ("__debug__" : Str)) = false := by decide) (hcd : (x == ("__classdict__" : Str)) = false := by decide)
    (hbase : attributeBase (.Call (.Attribute (.Name x p) "setdefault" apos) [a, f] [] cpos) "append" X.env (eval (.Call (.Attribute (.Name x p) "setdefault" apos) [a, f] [] cpos) X.env) = eval (.Call (.Attribute (.Name x p) "setdefault" apos) [a, f] [] cpos) X.env := by rfl)
    (hfew : ((backTo cp2 (starEach [ev] X.env)).all (fun x => !x.1) && (backToKw cp2 (keywordEach [] X.env)).all (fun x => x.1.isSome) && decide (([ev] : List Expr).length + ([] : List Keyword).length + (if ([] : List Keyword).isEmpty then 0 else 1) < 30)) = true := by rfl)
    (hline : (ap2.endLine == cp2.line) = true := by rfl) (hs : starEach [ev] X.env = (false, eval ev X.env) :: starEach [] X.env := by rfl) (hplain : (backTo cp2 (starEach [] X.env)).any (·.1) = false := by rfl)
    (hsw : swapsWith (.Call (.Attribute (.Call (.Attribute (.Name x p) "setdefault" apos) [a, f] [] cpos) "append" ap2) [ev] [] cp2) none pos.line X.env = pure false := by rfl) :
    S1 X W rk ρ (.Expr (.Call (.Attribute (.Call (.Attribute (.Name x p) "setdefault" apos) [a, f] [] cpos) "append" ap2) [ev] [] cp2) pos) (ra.bd fun e => (slotG d e).bd fun d1 => rv.bd fun v => appG d1 e v) (fun d => .nx (ρ.set i (cGrp X.w d))) := by
  obtain ⟨ta, a1, a2⟩ := ha
  obtain ⟨tf, f1, f2⟩ := hf
  obtain ⟨tv, v1, v2⟩ := hv'
  refine ⟨_, ps_expr (pe_bm PySem.F.plainAttrs_list PySem.F.slot_list_append PySem.F.type_list_append mt_append (pe_setdef (by have := C.hu; omega) (pe_var hN hv hd hcd) a1 f1 mm) (pa_cons v1 pa_nil hs) hbase hfew hline hs hplain) hsw, fun B H0 F H σ Ed g q => ?_⟩
  obtain ⟨v0, as0, o1, ⟨a0, kvs, xs, ep, bs, rfl, rfl, _, o2, _, _⟩, _⟩ := g.chg hρ (Ex.refl _ _) g.fh
  refine ⟨_, o1, a0, xs, ep, rfl, o2, a2 B H0 F H σ _ g (KS.kn g q fun ek y F1 H1 _ x1 s1 ac1 g1 q1 => ?_)⟩
  refine f2 B H0 F1 H1 σ _ g1 ⟨(fun z => nomatch z), fun dl ed zl F2 H2 x2 s2 ac2 => ?_, (fun n z => nomatch z)⟩
  cases ed
  obtain ⟨asl, r2, hn2⟩ := ac2
  rcases r2 with ⟨_, z, pl, ys, rfl, rfl, r3, r4⟩ | ⟨z, _⟩
  case inr => cases z
  cases z
  cases r4
  have hp := hn2 pl (by simp)
  obtain ⟨v1', as1, p1, P1, P2, nd, hF, chg⟩ := g1.chg hρ x2 s2
  have th1 := (cGrp X.w (.dict kvs)).there P1
  clear P1
  obtain ⟨a0', kvs', xs', ep', bs', z, rfl, rfl, w1, w2, w3⟩ := P2
  cases z
  rw [o1] at p1
  cases p1
  have ac1 : Dp X.K F1 y ek := ac1
  cases hk : keyT ek with
  | none => exact absurd (by simp only [slotG, hk]; rfl) q1.ns
  | some key =>
    cases hl : decide (kvs.length < 16777216) with
    | false => exact absurd (by simp only [slotG, hk, hl]; rfl) q1.ns
    | true =>
      obtain ⟨kb, rfl⟩ := dp_key ac1 hk
      have hl' := of_decide_eq_true hl
      have kf := keys_find hk w2
      have fin : ∀ (kvs2 : List (D × D)) (xs2 : List Ent) (bs2 : List Addr) (n : Nat) (b2 : Addr) (H3 : Hp), Good B H0 F2 H3 (ρ.set i (cGrpE X.w kvs2 a0 xs2 bs2)) σ → slotG (.dict kvs) ek = .ok (.dict kvs2) → kvs2.findIdx? (sameK ek) = some n → bs2[n]? = some b2 → tyV X.K "list" (.ref b2) H3 ∧ tv σ H3 fun y H4 => rAppend (.ref b2) [y] H4 (fun _ H' => Ed.nx σ H') := fun kvs2 xs2 bs2 n b2 H3 gd hsl hfi hb => by
        have q2 := q1.of_eq (r' := rv.bd fun v => appG (.dict kvs2) ek v) (by rw [hsl]; rfl)
        have fh3 := gd.fh
        have hi2 : (ρ.set i (cGrpE X.w kvs2 a0 xs2 bs2))[i]? = some (cGrpE X.w kvs2 a0 xs2 bs2) := by
          rw [List.getElem?_set_self (List.getElem?_eq_some_iff.mp hρ).1]
        obtain ⟨v3, as3, p3, P3, _, nd3, hF3, chg3⟩ := gd.chg hi2 (Ex.refl _ _) fh3
        have gA : Good B H0 F2 H3 (ρ.set i cAny) σ := by
          have := chg3 H3 cAny [] (fun _ _ _ => rfl) rfl List.nodup_nil (fun b z => nomatch z)
          rwa [List.set_set] at this
        obtain ⟨ep3, rfl, rfl, u1, u2, u3⟩ := P3
        have hnl : n < kvs2.length := by
          have := (List.getElem?_eq_some_iff.mp hb).1
          have := u3.len.2
          rw [List.length_map] at this
          omega
        obtain ⟨⟨qk, dv0⟩, hq⟩ : ∃ p, kvs2[n]? = some p := ⟨_, List.getElem?_eq_getElem hnl⟩
        obtain ⟨b', ys', es', e1, e2, rfl, e4, e5⟩ := u3.get (n := n) (d := dv0) (by rw [List.getElem?_map, hq]; rfl)
        rw [hb] at e2
        cases e2
        refine ⟨.inl ⟨rfl, ys', SqL.of e4⟩, v2 B H0 F2 H3 σ _ gA (KS.kn gd q2 fun dv v F4 H4 _ x4 s4 ac4 g4 q4 => ?_)⟩
        obtain ⟨v5, as5, p5, _, P5, nd5, hF5, chg5⟩ := gd.chg hi2 x4 s4
        obtain ⟨ep5, rfl, rfl, y1, y2, y3⟩ := P5
        obtain ⟨b'', ys, es, e1', e2', ees, e4', e5'⟩ := y3.get (n := n) (d := .list es') (by rw [List.getElem?_map, hq]; rfl)
        cases ees
        rw [hb] at e2'
        cases e2'
        cases hel : decide (es'.length < 16777216) with
        | false => exact absurd (by simp only [appG, hfi, hq, hel]; rfl) q4.ns
        | true =>
          have q5 := q4.of_eq (r' := .ok (.dict (kvs2.set n (qk, .list (es' ++ [dv]))))) (by simp only [appG, hfi, hq, hel]; rfl)
          have hel' := of_decide_eq_true hel
          refine ⟨b2, ys, v, rfl, rfl, e4', by rw [DpAll.length e5', PySem.sizeLine_eq]; exact hel', ?_⟩
          have ac4 : Dp X.K F4 v dv := ac4
          have ab : a0 ≠ b2 := fun z => (List.nodup_cons.mp nd5).1 (z ▸ List.mem_of_getElem? hb)
          have hbm : b2 ∈ a0 :: bs2 := List.mem_cons_of_mem _ (List.mem_of_getElem? hb)
          have gz := chg5 (upd H4 b2 (.lst (ys ++ [v]))) (cGrp X.w (.dict (kvs2.set n (qk, .list (es' ++ [dv]))))) (a0 :: bs2) (fun b hb' _ => upd_ne fun z => hb' (z ▸ hbm)) ⟨a0, _, xs2, ep5, bs2, rfl, rfl, rfl, by rw [upd_ne ab]; exact y1, keys_set y2 hq, rows_set (DpAll.append e5' (.cons ac4 .nil)) (List.nodup_cons.mp nd5).2 y3 hb⟩ nd5 (fun b z => .inl z)
          rw [List.set_set] at gz
          exact q5.ok _ rfl F4 _ _ gz
      have hxl : xs'.length ≤ sizeLine := by rw [← Paired.length w2, PySem.sizeLine_eq]; omega
      refine ⟨xs', ep', kvs, kb, ek, key, w1, rows_dp s2 w2 w3, rfl, Dp.mono (x2.ff.trans s2) _ _ ac1, hk, hxl, fun q hq => ?_, fun hn ep2 => ?_⟩
      · cases hfi : xs'.findIdx? (fun x => decide (x.1 = key)) with
        | none => rw [find_none hfi] at hq; cases hq
        | some n =>
          obtain ⟨q', h1, h2⟩ := find_of_idx hfi
          rw [hq] at h2
          cases h2
          have hnl : n < kvs.length := by
            have := (List.getElem?_eq_some_iff.mp h1).1
            have := Paired.length w2
            omega
          obtain ⟨⟨qk, dv0⟩, hq2⟩ : ∃ p, kvs[n]? = some p := ⟨_, List.getElem?_eq_getElem hnl⟩
          obtain ⟨b', ys', es', e1, e2, rfl, e4, e5⟩ := w3.get (n := n) (d := dv0) (by rw [List.getElem?_map, hq2]; rfl)
          rw [List.getElem?_map, h1] at e1
          have e1' : q.2.2 = .ref b' := Option.some.inj e1
          rw [e1']
          have gd := chg H2 (cGrpE X.w kvs a0 xs' bs') (a0 :: bs') (fun _ _ _ => rfl) ⟨ep', rfl, rfl, w1, w2, w3⟩ nd (fun b z => .inl z)
          exact fin kvs xs' bs' n b' H2 gd (by simp only [slotG, hk, hl, kf, hfi]; rfl) (by rw [kf, hfi]) e2
      · have hfi : xs'.findIdx? (fun x => decide (x.1 = key)) = none := by
          cases c : xs'.findIdx? (fun x => decide (x.1 = key)) with
          | none => rfl
          | some n =>
            obtain ⟨q', h1, h2⟩ := find_of_idx c
            rw [hn] at h2
            cases h2
        have pna : pl ∉ a0 :: bs' := fun z => th1 pl z hp.1
        have gd := chg (upd H2 a0 (HDct X.w a0 (xs' ++ [(key, kb, .ref pl)]) ep2)) (cGrpE X.w (kvs ++ [(ek, .list [])]) a0 (xs' ++ [(key, kb, .ref pl)]) (bs' ++ [pl])) (a0 :: (bs' ++ [pl])) (fun b hb' _ => upd_ne fun z => hb' (by rw [z]; simp)) ⟨ep2, rfl, rfl, upd_same, ?_, ?_⟩ ?_ (fun b z => ?_)
        · refine fin _ _ _ kvs.length pl _ gd (by simp only [slotG, hk, hl, kf, hfi]; rfl) ?_ ?_
          · rw [List.findIdx?_append, kf, hfi]
            simp [sameK]
          · have := w3.len.2
            rw [List.length_map] at this
            rw [← this]
            simp
        · exact Paired.snoc w2 ⟨hk, Dp.mono x2.ff _ _ ac1⟩
        · rw [List.map_append, List.map_append]
          have na0 : pl ≠ a0 := fun z => pna (by rw [z]; simp)
          exact RowsOk.append (v := .ref pl) (es := []) rfl (by rw [upd_ne na0]; exact r3) .nil (w3.mono (Same.refl F2) fun b hb' => upd_ne fun z => (List.nodup_cons.mp nd).1 (z ▸ hb'))
        · refine List.nodup_cons.mpr ⟨fun hm => ?_, List.nodup_append.mpr ⟨(List.nodup_cons.mp nd).2, by simp, fun c hc c' hc' z => ?_⟩⟩
          · rcases List.mem_append.mp hm with hm | hm
            · exact (List.nodup_cons.mp nd).1 hm
            · exact pna (by rw [← List.mem_singleton.mp hm]; simp)
          · rw [List.mem_singleton.mp hc'] at z
            exact pna (by rw [← z]; exact List.mem_cons_of_mem _ hc)
        · rcases List.mem_cons.mp z with rfl | z
          · exact .inl (by simp)
          · rcases List.mem_append.mp z with z | z
            · exact .inl (List.mem_cons_of_mem _ z)
            · rw [List.mem_singleton.mp z]
              exact .inr hp
end
end DL
/-! x[k] of a dict of lists, looked at; a walk over its keys; max of tuples -/
namespace DL
open PySem L2 PySem.Spec PyProof.Rows PySem.W
section
variable {X : Cx} {W : WX} {rk m : Md} {ρ : Env X.K} {e a c : Expr} {r ra rb : Res D} {pos p p2 p3 : Pos} {x : Str} {d : D}
theorem eg_getG [C : CtxB X W] (i : Nat) (hρ : ρ[i]? = some (cGrp X.w d)) (ha : EG X W ρ .V a ra) (hs : NoSl a := by intro _ _; rfl) (hN : X.N[i]? = some x := by rfl) (hv : Vis X.env.scope x := by first | exact Or.inl rfl | exact Or.inr (Or.inl rfl) | exact Or.inr (Or.inr rfl)) (hd : (x == ("__debug__" : Str)) = false := by decide)
    (hcd : (x == ("__classdict__" : Str)) = false := by decide) : EG X W ρ .T (.Subscript (.Name x p) a pos) (ra.bd fun e => getD d e) := by
  obtain ⟨ta, a1, a2⟩ := ha
  refine ⟨_, pe_dgetX (by have := C.hu; omega) (pe_var hN hv hd hcd) a1 hs, fun B H0 F H σ Q gd k => ?_⟩
  obtain ⟨v0, as0, o1, ⟨a0, kvs, xs, ep, bs, rfl, rfl, _, o2, _, _⟩, _⟩ := gd.chg hρ (Ex.refl _ _) gd.fh
  refine ⟨_, o1, a2 B H0 F H σ _ gd (Kn.bd k acc_base fun e y F1 H1 _ e1 s1 q1 k1 => ?_)⟩
  have gd1 := gd.go e1 s1
  obtain ⟨v1, as1, p1, ⟨a1', kvs1, xs1, ep1, bs1, z, z2, _, w1, w2, w3⟩, _⟩ := gd1.chg hρ (Ex.refl _ _) gd1.fh
  cases z
  subst z2
  rw [o1] at p1
  cases p1
  have q1 : Dp X.K F1 y e := q1
  cases hk : keyT e with
  | none => exact absurd (by simp only [getD, hk]; rfl) k1.ns
  | some key =>
    obtain ⟨kb, rfl⟩ := dp_key q1 hk
    cases hfi : kvs.findIdx? (sameK e) with
    | none => exact absurd (by simp only [getD, hk, valD, find_none hfi]; rfl) k1.ns
    | some n =>
      obtain ⟨pp, h1, h2⟩ := find_of_idx hfi
      have hfx := keys_find hk w2
      rw [hfi] at hfx
      obtain ⟨q', g1, g2⟩ := find_of_idx hfx.symm
      obtain ⟨b', ys, es, e1', e2', ed, e4, e5⟩ := w3.get (n := n) (d := pp.2) (by rw [List.getElem?_map, h1]; rfl)
      rw [List.getElem?_map, g1] at e1'
      have e1'' : q'.2.2 = .ref b' := Option.some.inj e1'
      have k2 := k1.of_eq (r' := .ok (.list es)) (by simp only [getD, hk, valD, h2, Option.map_some, ed]; rfl)
      exact ⟨a0, xs1, ep1, kvs, kb, e, key, .ref b', rfl, w1, rows_dp s1 w2 w3, rfl, Dp.mono s1 _ _ q1, hk, by rw [g2]; exact congrArg some e1'', k2.ret (Ex.refl _ _) s1 (.inl ⟨es, b', ys, rfl, rfl, SqL.of e4, e5⟩)⟩
theorem keys_get {K : PySem.W.Frag} {F : Hp} : ∀ {kvs : List (D × D)} {xs : List Ent} {i : Nat} {q : Ent}, KeysOk K F kvs xs → xs[i]? = some q → ∃ p, kvs[i]? = some p ∧ Dp K F (.ref q.2.1) p.1
  | _, _, _, _, .nil, e => by simp at e
  | _, _, 0, _, .cons h _, e => by simp at e; subst e; exact ⟨_, by simp, h.2⟩
  | _, _, i + 1, q, .cons _ t, e => by
    obtain ⟨p, h1, h2⟩ := keys_get (i := i) (q := q) t (by simpa using e)
    exact ⟨p, by simpa using h1, h2⟩
/-- for k in d -/
theorem ig_grp {tg : Expr} (i : Nat) (hρ : ρ[i]? = some (cGrp X.w d)) (hN : X.N[i]? = some x := by rfl) (hv : Vis X.env.scope x := by first | exact Or.inl rfl | exact Or.inr (Or.inl rfl) | exact Or.inr (Or.inr rfl)) (hd : (x == ("__debug__" : Str)) = false := by decide)
    (hcd : (x == ("__classdict__" : Str)) = false := by decide) : IG X W ρ tg (.Name x p) (dictKeys d) := by
  refine ⟨_, pi_dct (pe_var hN hv hd hcd), fun B H0 F H σ Q gd k => ?_⟩
  obtain ⟨v0, as0, h1, ⟨a0, kvs, xs, ep, bs, rfl, rfl, _, h2, h3, _⟩, _⟩ := gd.chg hρ (Ex.refl _ _) gd.fh
  refine ⟨_, h1, a0, xs, ep, rfl, h2, k.ret (Ex.refl _ _) gd.fh fun F2 H2 e s => ?_⟩
  have hl : kvs.length = xs.length := Paired.length h3
  refine ⟨⟨e.hh _ _ h2, by rw [List.length_map]; omega⟩, fun j dk hj => ?_⟩
  have hjl : j < xs.length := by
    have := (List.getElem?_eq_some_iff.mp hj).1
    rw [List.length_map] at this
    omega
  refine ⟨⟨e.hh _ _ h2, hjl⟩, fun y H3 ⟨y1, q, y2, y3⟩ => ?_⟩
  subst y1 y3
  obtain ⟨pr, g1, g2⟩ := keys_get h3 y2
  rw [List.getElem?_map, g1] at hj
  cases hj
  exact ⟨F2, Ex.refl _ _, s, Dp.mono e.ff _ _ g2⟩
end
/-! ### max of tuples -/
section
variable {prog : Program} {w : World} {A : Around} {E : Value → Shared → Prop} {s : Shared}
theorem max_list_at {l : Addr} {vs : Array Value} {x : PyData} {xs : List PyData} {as : List Addr} {Q : Value → Shared → Prop} (hh : A.handled = none) (hl : s.heap.IsList l vs) (hr : ReadsAll s.heap vs.toList (x :: xs) as) (ha : AlikeAll (x :: xs)) (hu : A.units + 1 + PyData.depthAll (x :: xs) < cLine)
    (h : ∀ (i : Nat) v h' tk, vs[i]? = some v → (x :: xs)[i]? = some (maxD x xs) → (∀ b o, s.heap.get? b = some o → h'.get? b = some o) → Q v { s with heap := h', toks := tk }) :
    wpAny (model prog w) A (call (.builtin "max") [.ref l]) Q E s := by
  have hn : vs.size = xs.length + 1 := readsAll_len hr
  refine call_max_walkH (iter_listW (A := A.in1) hh hl fun s₂ e W st hfp hw hk => ?_)
  refine ⟨_, _, _, _, _, _, _, s.heap, _, rfl, W, st, hfp, by omega, hw, hk, cmpIn_gt (A := A.in1) hr ha (by show A.units + 1 + _ < _; exact hu), fun v s' hP m => ?_⟩
  obtain ⟨h', tk, rfl, hk'⟩ := moved_old e rfl m
  have e1 : vs.size - 1 = xs.length := by omega
  have e2 := argBest_fold (fun a b => dataLt b a) PyData.none x xs xs.length (Nat.le_refl _)
  rw [List.take_length] at e2
  rw [e1] at hP
  refine h _ v h' tk hP ?_ hk'
  have e3 := e2.2
  rw [List.getD_eq_getElem?_getD] at e3
  have hlt : argBest (fun i j => dataLt ((x :: xs).getD j PyData.none) ((x :: xs).getD i PyData.none)) xs.length < (x :: xs).length := by
    have := e2.1
    simp only [List.length_cons]
    omega
  rw [List.getElem?_eq_getElem hlt] at e3 ⊢
  exact congrArg some e3
end
theorem readsAll_of {h : Heap} : ∀ {us : List Value} {ds : List D}, EachIs (fun v d => ∃ as, Reads h v d as) us ds → ∃ as, ReadsAll h us ds as
  | _, _, .nil => ⟨_, .nil⟩
  | _, _, .cons ⟨as, r⟩ t => by
    obtain ⟨bs, r2⟩ := readsAll_of t
    exact ⟨_, .cons r r2⟩
theorem depthAll_le {n : Nat} : ∀ {ds : List D}, (∀ d ∈ ds, d.depth ≤ n) → PyData.depthAll ds ≤ n
  | [], _ => by simp [PyData.depthAll]
  | d :: ds, h => by
    have h1 := h d (by simp)
    have h2 := depthAll_le (n := n) (ds := ds) fun e he => h e (by simp [he])
    simp only [PyData.depthAll]
    omega
theorem each_at {α β : Type} {R : α → β → Prop} {us : List α} {ds : List β} (h : EachIs R us ds) : ∀ {i : Nat} {u : α} {d : β}, us[i]? = some u → ds[i]? = some d → R u d := by
  induction h with
  | nil => intro i u d e; simp at e
  | cons h t ih =>
    intro i u d e1 e2
    cases i with
    | zero => simp at e1 e2; subst e1 e2; exact h
    | succ i => exact ih (i := i) (by simpa using e1) (by simpa using e2)
/-- the greatest of a list of data that are alike -/
def maxTV : D → Res D
  | .list (d :: ds) => if sortOk (d :: ds) then .ok (maxD d ds) else .stuck
  | _ => .stuck
def rMaxD (K : PySem.W.Frag) : List V → Hp → VK → Prop := fun vs H Q => ∃ a F d ds xs, vs = [.ref a] ∧ Same F H ∧ SqL K H a xs ∧ DpAll K F xs (d :: ds) ∧ sortOk (d :: ds) = true ∧ ∀ v, Dp K F v (maxD d ds) → Q v H
theorem cr_maxD {X : Cx} (hc : X.calm = true) (hu : X.A.units + 16 < cLine) : CallR X (.builtin "max") (rMaxD X.K) := by
  intro pins s σ H vs us Q I r h
  obtain ⟨a, F, d, ds, xs, rfl, fh, hx, dp, ok, q⟩ := h
  rw [Vals.ref1 r]
  obtain ⟨its, rv, pl, hz⟩ := I.list hx
  have e := each_of rv dp
  obtain ⟨as, ra⟩ := readsAll_of (each_reads I fh e)
  obtain ⟨h1, h2, h3, h4⟩ := sortOk_of ok
  rw [List.map_id] at h1 h2
  have hal : AlikeAll (d :: ds) := by
    refine ⟨fun x hx y hy => h1 x hx y hy, fun x hx z => ?_⟩
    rcases h2 with h2 | h2
    · obtain ⟨_, _, h⟩ := h2 x hx
      rw [z] at h
      cases h
    · exact (h2 x hx).1 z
  have hda : PyData.depthAll (d :: ds) ≤ 8 := depthAll_le h3
  refine max_list_at (I.ok.hd hc) pl.isList (by simpa using ra) hal (by omega) fun i v h' tk hv hd hk => ?_
  obtain ⟨y, r1, r2⟩ := each_at e (i := i) (by simpa using hv) hd
  exact ⟨y, H, I.kept hk, r1, q y r2⟩
theorem b_maxTV {X : Cx} {W : WX} [C : Ctx X W] : C1D X W (.builtin "max") .V maxTV := by
  refine ⟨_, cr_maxD C.calm (by have := C.hu; omega), fun F H σ x d Q s h k => ?_⟩
  cases d <;> first | exact absurd rfl k.ns | skip
  obtain ⟨a, xs, rfl, q1, q2⟩ := tp_list h
  rename_i ds
  cases ds with
  | nil => exact absurd rfl k.ns
  | cons d ds =>
    cases ok : sortOk (d :: ds) with
    | false => exact absurd (by simp only [maxTV, ok]; rfl) k.ns
    | true => exact ⟨a, F, d, ds, xs, rfl, s, q1, q2, ok, fun v hv => (k.of_eq (r' := .ok (maxD d ds)) (by simp only [maxTV, ok]; rfl)).ret (Ex.refl _ _) s hv⟩
end DL
/-! a // b, b up to 2 ^ 200 -/
namespace DL
open PySem L2
def fdivW : D → D → Res D
  | .int i, .int j => if decide (0 < j ∧ j.natAbs < 2 ^ 200) then .ok (.int (i / j)) else .stuck
  | _, _ => .stuck
section
variable {X : Cx} {W : WX} {ρ : Env X.K} {a b : Expr} {ra rb : Res D} {pos : Pos}
theorem od_fdivW : OpD X W .V (rI CDivW fun i j => .int (i / j)) fdivW := opIC (c := fun _ j => decide (0 < j ∧ j.natAbs < 2 ^ 200)) (fun i j h => by
    have h := of_decide_eq_true h
    exact wide_div (b := 200) h.1 h.2 (by decide) (by decide)) (fun _ _ => rfl) (fun d e h => by cases d <;> first | rfl | (cases e <;> first | rfl | exact absurd ⟨rfl, rfl⟩ (h _ _))) fun _ _ _ => .int _
theorem eg_fdivW (ha : EG X W ρ .T a ra) (hb : EG X W ρ .T b rb) : EG X W ρ .V (.BinOp a .FloorDiv b pos) (bd2 ra rb fdivW) := eg_op op_fdivW od_fdivW ha hb
end
theorem fdivW_ok {i j : Int} (h : 0 < j) (h2 : j.natAbs < 2 ^ 200) : fdivW (.int i) (.int j) = .ok (.int (i / j)) := by
  show (if decide (0 < j ∧ j.natAbs < 2 ^ 200) then _ else _) = _
  exact if_pos (decide_eq_true ⟨h, h2⟩)
end DL
/-! Texts: str(i), int(text), sep.join(texts), text.split(sep), x in text, slices, walks -/
namespace DL
open PySem L2
def onS {α : Type} (d : D) (f : Str → Res α) : Res α := match d with
  | .str z => f z
  | _ => .stuck
@[simp] theorem onS_str {α : Type} (z : Str) (f : Str → Res α) : onS (.str z) f = f z := id rfl
end DL
/-! try: e / except C: x = (a constant) -/
namespace DL
open PySem L2 PySem.Spec PyProof.Rows
def conE (cn : Str) (r : Res D) (d0 dc : D) : Res D := match r with
  | .ok _ => .ok d0
  | .exc n => if n = cn then .ok dc else .stuck
  | .stuck => .stuck
@[simp] theorem conE_ok (cn : Str) (d d0 dc : D) : conE cn (.ok d) d0 dc = .ok d0 := id rfl
end DL
/-! a, b = a list of two -/
namespace DL
open PySem L2
end DL
/-! x in a tuple -/
namespace DL
open PySem L2
end DL
/-! An object that listens: its fields, what its methods promise. -/
namespace DL
open PySem L2
def fl (cv sv : V) (r e u : Addr) : List (Str × V) := [("code", cv), ("slips", sv), ("heard_row", .ref r), ("earlier", .ref e), ("undone", .ref u)]
structure Li where
  code : D
  slips : D
  row : List D
  earlier : List D
  undone : List D
def Li.d (l : Li) : D := .tuple [l.code, l.slips, .list l.row, .list l.earlier, .list l.undone]
def onLi {α : Type} (d : D) (f : Li → Res α) : Res α := match d with
  | .tuple [c, s, .list r, .list e, .list u] => f ⟨c, s, r, e, u⟩
  | _ => .stuck
@[simp] theorem onLi_d {α : Type} (l : Li) (f : Li → Res α) : onLi l.d f = f l := id rfl
theorem Li.inj {l m : Li} (h : l.d = m.d) : l = m := by
  obtain ⟨a, b, c, d, e⟩ := l
  obtain ⟨a', b', c', d', e'⟩ := m
  simp only [Li.d, PyData.tuple.injEq, List.cons.injEq, PyData.list.injEq, and_true] at h
  obtain ⟨rfl, rfl, rfl, rfl, rfl⟩ := h
  rfl
mutual
def noL : D → Bool
  | .list _ => false
  | .dict _ => false
  | .tuple ds => noLs ds
  | _ => true
def noLs : List D → Bool
  | [] => true
  | d :: ds => noL d && noLs ds
end
def okLi (l : Li) : Bool := noL l.code && (noL l.slips && (noLs l.row && (noLs l.earlier && noLs l.undone)))
structure LiX (K : PySem.W.Frag) (C : Addr) (F H : Hp) (a dx r e u : Addr) (cv sv : V) (xs es us : List V) (l : Li) : Prop where
  ha : H a = some (.ins C dx (fl cv sv r e u))
  hr : H r = some (.lst xs)
  he : H e = some (.lst es)
  hu : H u = some (.lst us)
  dc : Dp K F cv l.code
  ds : Dp K F sv l.slips
  dr : DpAll K F xs l.row
  de : DpAll K F es l.earlier
  du : DpAll K F us l.undone
  re : r ≠ e
  ru : r ≠ u
  eu : e ≠ u
  ok : okLi l = true
def LiAt (K : PySem.W.Frag) (C : Addr) (F H : Hp) (a : Addr) (ow : List Addr) (l : Li) : Prop := ∃ dx r e u cv sv xs es us, ow = [a, r, e, u] ∧ LiX K C F H a dx r e u cv sv xs es us l
section
variable {K : PySem.W.Frag} {C : Addr} {F H F' H' : Hp} {a dx r e u : Addr} {cv sv : V} {xs es us : List V} {l : Li} {ow : List Addr}
theorem LiX.mono (x : LiX K C F H a dx r e u cv sv xs es us l) (s : Same F F') (h : ∀ b ∈ [a, r, e, u], H' b = H b) : LiX K C F' H' a dx r e u cv sv xs es us l :=
  ⟨by rw [h a (by simp)]; exact x.ha, by rw [h r (by simp)]; exact x.hr, by rw [h e (by simp)]; exact x.he, by rw [h u (by simp)]; exact x.hu, Dp.mono s _ _ x.dc, Dp.mono s _ _ x.ds, DpAll.mono s _ _ x.dr, DpAll.mono s _ _ x.de, DpAll.mono s _ _ x.du, x.re, x.ru, x.eu, x.ok⟩
theorem LiX.nd (x : LiX K C F H a dx r e u cv sv xs es us l) : [a, r, e, u].Nodup := by
  have n1 : a ≠ r := fun z => by have := x.ha; rw [z, x.hr] at this; cases this
  have n2 : a ≠ e := fun z => by have := x.ha; rw [z, x.he] at this; cases this
  have n3 : a ≠ u := fun z => by have := x.ha; rw [z, x.hu] at this; cases this
  simp [n1, n2, n3, x.re, x.ru, x.eu]
theorem LiAt.mono (x : LiAt K C F H a ow l) (s : Same F F') (h : ∀ b ∈ ow, H' b = H b) : LiAt K C F' H' a ow l := by
  obtain ⟨dx, r, e, u, cv, sv, xs, es, us, rfl, x⟩ := x
  exact ⟨dx, r, e, u, cv, sv, xs, es, us, rfl, x.mono s h⟩
theorem LiAt.nd (x : LiAt K C F H a ow l) : ow.Nodup := by
  obtain ⟨dx, r, e, u, cv, sv, xs, es, us, rfl, x⟩ := x
  exact x.nd
theorem LiAt.there (x : LiAt K C F H a ow l) : ∀ b ∈ ow, H b ≠ none := by
  obtain ⟨dx, r, e, u, cv, sv, xs, es, us, rfl, x⟩ := x
  intro b hb z
  simp only [List.mem_cons, List.not_mem_nil, or_false] at hb
  rcases hb with rfl | rfl | rfl | rfl
  · rw [x.ha] at z; cases z
  · rw [x.hr] at z; cases z
  · rw [x.he] at z; cases z
  · rw [x.hu] at z; cases z
end
/-! ### what a method that only reads promises -/
/-- a method that keeps its promise -/
structure DefL (P : Program) (w : World) (K : PySem.W.Frag) (mg : Str → Option Value) (base : Heap) (C : Addr) (m : Str) (k : Nat) (sp : Sp) : Prop where
  ex : ∃ f fd ps, FnOk P w K mg base (L2N.CX P w) k f fd ps sp ∧ Meth K C m f ∧ Binds K fd ps []
end DL
/-! Calls of methods; what is frozen for a while. -/
namespace DL
open PySem L2
/-! ### frozen for a while -/
def unfz (ow : List Addr) (F : Hp) : Hp := fun b => if b ∈ ow then none else F b
end DL
namespace DL
open PySem L2
end DL
namespace DL
open PySem L2 PySem.Spec PyProof.Rows
/-! ### a method that changes its object at its end -/
end DL
namespace DL
open PySem L2 PySem.Spec PyProof.Rows
end DL
namespace DL
open PySem L2 PySem.Spec PyProof.Rows
def pr2 : D → Option (Int × D)
  | .tuple [.int i, e] => some (i, e)
  | _ => none
end DL
namespace DL
open PySem L2 PySem.Spec PyProof.Rows
/-! ### how it is made -/
end DL
namespace DL
open PySem L2 PySem.Spec PyProof.Rows
end DL
/-! A try whose suite lets one method or another change an object. -/
namespace DL
open PySem L2 PySem.Spec PyProof.Rows
end DL
/-! The methods of a listener, as functions of data. -/
namespace DL
open PySem L2 PySem.Spec PyProof.Rows
end DL
/-! range(a, b, -1) -/
namespace DL
open PySem L2
end DL
/-! a list told and changed at once; len and list of a dict keyed by whole numbers -/
namespace DL
open PySem L2
end DL
/-! Kinds of things of one's own; lists of them. -/
namespace DL
open PySem L2 PySem.Spec PyProof.Rows
structure Kd (K : PySem.W.Frag) where
  R : Hp → Hp → V → List Addr → D → Prop
  mono : ∀ {F F' H H' : Hp} {v : V} {as : List Addr} {d : D}, Same F F' → (∀ a ∈ as, H' a = H a) → R F H v as d → R F' H' v as d
  there : ∀ {F H : Hp} {v : V} {as : List Addr} {d : D}, R F H v as d → ∀ a ∈ as, H a ≠ none
  nd : ∀ {F H : Hp} {v : V} {as : List Addr} {d : D}, R F H v as d → as.Nodup
  noT : ∀ {F H : Hp} {v : V} {as : List Addr} {d : D}, R F H v as d → ∀ b ∈ as, ∀ ys, ¬ Rd H b (.tup ys)
  strip : ∀ {F H : Hp} {v : V} {as : List Addr} {d : D}, R F F v as d → Same F H → R (unfz as F) H v as d
def AllK {K : PySem.W.Frag} (kd : Kd K) (F H : Hp) : List V → List (List Addr) → List D → Prop
  | [], [], [] => True
  | x :: xs, b :: bs, d :: ds => kd.R F H x b d ∧ AllK kd F H xs bs ds
  | _, _, _ => False
section
variable {K : PySem.W.Frag} {F F' H H' : Hp} {kd : Kd K}
theorem AllK.mono (s : Same F F') : ∀ {xs : List V} {bs : List (List Addr)} {ds : List D}, (∀ a ∈ bs.flatten, H' a = H a) → AllK kd F H xs bs ds → AllK kd F' H' xs bs ds
  | [], [], [], _, _ => trivial
  | x :: xs, b :: bs, d :: ds, e, h => ⟨kd.mono s (fun a ha => e a (by simp [ha])) h.1, AllK.mono s (fun a ha => e a (by rw [List.flatten_cons]; exact List.mem_append.mpr (.inr ha))) h.2⟩
  | [], [], _ :: _, _, h => by cases h
  | [], _ :: _, _, _, h => by cases h
  | _ :: _, [], _, _, h => by cases h
  | _ :: _, _ :: _, [], _, h => by cases h
theorem AllK.there : ∀ {xs : List V} {bs : List (List Addr)} {ds : List D}, AllK kd F H xs bs ds → ∀ a ∈ bs.flatten, H a ≠ none
  | [], [], [], _, a, ha => by cases ha
  | x :: xs, b :: bs, d :: ds, h, a, ha => by
    rw [List.flatten_cons] at ha
    rcases List.mem_append.mp ha with ha | ha
    · exact kd.there h.1 a ha
    · exact AllK.there h.2 a ha
  | [], [], _ :: _, h, _, _ => by cases h
  | [], _ :: _, _, h, _, _ => by cases h
  | _ :: _, [], _, h, _, _ => by cases h
  | _ :: _, _ :: _, [], h, _, _ => by cases h
theorem AllK.len : ∀ {xs : List V} {bs : List (List Addr)} {ds : List D}, AllK kd F H xs bs ds → xs.length = ds.length ∧ bs.length = ds.length
  | [], [], [], _ => ⟨rfl, rfl⟩
  | x :: xs, b :: bs, d :: ds, h => by
    obtain ⟨h1, h2⟩ := AllK.len h.2
    exact ⟨by simp [h1], by simp [h2]⟩
  | [], [], _ :: _, h => by cases h
  | [], _ :: _, _, h => by cases h
  | _ :: _, [], _, h => by cases h
  | _ :: _, _ :: _, [], h => by cases h
theorem AllK.append {v : V} {b : List Addr} {e : D} (hv : kd.R F H v b e) : ∀ {xs : List V} {bs : List (List Addr)} {ds : List D}, AllK kd F H xs bs ds → AllK kd F H (xs ++ [v]) (bs ++ [b]) (ds ++ [e])
  | [], [], [], _ => ⟨hv, trivial⟩
  | x :: xs, c :: bs, d :: ds, h => ⟨h.1, AllK.append hv h.2⟩
  | [], [], _ :: _, h => by cases h
  | [], _ :: _, _, h => by cases h
  | _ :: _, [], _, h => by cases h
  | _ :: _, _ :: _, [], h => by cases h
theorem AllK.get : ∀ {xs : List V} {bs : List (List Addr)} {ds : List D} {n : Nat} {d : D}, AllK kd F H xs bs ds → ds[n]? = some d → ∃ v b, xs[n]? = some v ∧ bs[n]? = some b ∧ kd.R F H v b d
  | [], [], [], _, _, _, e => by simp at e
  | x :: xs, b :: bs, d :: ds, 0, _, h, e => by
    simp only [List.getElem?_cons_zero, Option.some.injEq] at e
    subst e
    exact ⟨x, b, rfl, rfl, h.1⟩
  | x :: xs, b :: bs, d :: ds, n + 1, _, h, e => AllK.get (n := n) h.2 (by simpa using e)
  | [], [], _ :: _, _, _, h, _ => by cases h
  | [], _ :: _, _, _, _, h, _ => by cases h
  | _ :: _, [], _, _, _, h, _ => by cases h
  | _ :: _, _ :: _, [], _, _, h, _ => by cases h
/-- one of them is changed, the others stand -/
theorem AllK.chg (s : Same F F') {v : V} {b b' : List Addr} {d' : D} (hr : kd.R F' H' v b' d') : ∀ {xs : List V} {bs : List (List Addr)} {ds : List D} {n : Nat}, bs.flatten.Nodup → (∀ a ∈ bs.flatten, a ∉ b → H' a = H a) → AllK kd F H xs bs ds → xs[n]? = some v → bs[n]? = some b → AllK kd F' H' xs (bs.set n b') (ds.set n d')
  | [], [], [], _, _, _, _, e, _ => by simp at e
  | x :: xs, c :: bs, d :: ds, 0, nd, e, h, ex, eb => by
    simp only [List.getElem?_cons_zero, Option.some.injEq] at ex eb
    subst ex eb
    rw [List.flatten_cons] at nd e
    refine ⟨hr, AllK.mono s (fun a ha => e a (List.mem_append.mpr (.inr ha)) fun z => ?_) h.2⟩
    exact (List.nodup_append.mp nd).2.2 a z a ha rfl
  | x :: xs, c :: bs, d :: ds, n + 1, nd, e, h, ex, eb => by
    rw [List.flatten_cons] at nd e
    have ex : xs[n]? = some v := by simpa using ex
    have eb : bs[n]? = some b := by simpa using eb
    refine ⟨kd.mono s (fun a ha => e a (List.mem_append.mpr (.inl ha)) fun z => ?_) h.1, AllK.chg s hr (n := n) (List.nodup_append.mp nd).2.1 (fun a ha hb => e a (List.mem_append.mpr (.inr ha)) hb) h.2 ex eb⟩
    exact (List.nodup_append.mp nd).2.2 a ha a (List.mem_flatten.mpr ⟨b, List.mem_of_getElem? eb, z⟩) rfl
  | [], [], _ :: _, _, _, _, h, _, _ => by cases h
  | [], _ :: _, _, _, _, _, h, _, _ => by cases h
  | _ :: _, [], _, _, _, _, h, _, _ => by cases h
  | _ :: _, _ :: _, [], _, _, _, h, _, _ => by cases h
def AccK (kd : Kd K) : Hp → Hp → Hp → D → V → Prop := fun H F' H' d v => ∃ as, kd.R F' H' v as d ∧ ∀ a ∈ as, H a = none ∧ F' a = none
end
end DL
/-! Lists of things of one's own: made by a comprehension, looked at, handed on. -/
namespace DL
open PySem L2 PySem.Spec PyProof.Rows
/-- an expression that makes a thing of one's own -/
structure EN (X : Cx) (W : WX) (ρ : Env X.K) (kd : Kd X.K) (e : Expr) (r : Res D) : Prop where
  ex : ∃ t, PE X e t ∧ ∀ B H0 F H σ Q, Good B H0 F H ρ σ → Kn X W F H σ r (AccK kd) Q → t σ H Q
def tN (K : PySem.W.Frag) (X : Cx) (W : WX) (ρ : Env K) (kd : Kd K) (r : Res D) : TE := fun σ H Q => ∃ B H0 F, Good B H0 F H ρ σ ∧ Kn X W F H σ r (AccK kd) Q
theorem EN.sem {X : Cx} {W : WX} {ρ : Env X.K} {kd : Kd X.K} {e : Expr} {r : Res D} (h : EN X W ρ kd e r) {Y : Cx} (hm : Y.mg = X.mg) : PE X e (tN X.K Y W ρ kd r) := by
  obtain ⟨t, h1, h2⟩ := h
  exact ⟨fun pins s σ H Q I ⟨B, H0, F, g, k⟩ => h1.run pins s σ H Q I (h2 B H0 F H σ Q g ⟨k.ns, k.ok, fun n e H' C c s => k.xc n e H' C (hm ▸ c) s⟩)⟩
end DL
/-! One of a list of objects: asked, handed on; x[i], y[j], z = .. -/
namespace DL
open PySem L2 PySem.Spec PyProof.Rows
end DL
/-! Methods of a kind of thing: the thing frozen, changed, told. -/
namespace DL
open PySem L2 PySem.Spec PyProof.Rows
/-! ### promises -/
/-! ### statements that change it -/
end DL
/-! A desk: a code, slips, an object that listens. -/
namespace DL
open PySem L2 PySem.Spec PyProof.Rows
def fdk (cv sv : V) (e : Addr) : List (Str × V) := [("code", cv), ("slips", sv), ("ear", .ref e)]
structure Dk where
  code : D
  slips : D
  ear : Li
def Dk.d (k : Dk) : D := .tuple [k.code, k.slips, k.ear.d]
def onDk {α : Type} (d : D) (f : Dk → Res α) : Res α := match d with
  | .tuple [c, s, .tuple [c', s', .list r, .list e, .list u]] => f ⟨c, s, ⟨c', s', r, e, u⟩⟩
  | _ => .stuck
@[simp] theorem onDk_d {α : Type} (k : Dk) (f : Dk → Res α) : onDk k.d f = f k := id rfl
theorem Dk.inj {l m : Dk} (h : l.d = m.d) : l = m := by
  obtain ⟨a, b, c⟩ := l
  obtain ⟨a', b', c'⟩ := m
  simp only [Dk.d, PyData.tuple.injEq, List.cons.injEq, and_true] at h
  obtain ⟨rfl, rfl, h⟩ := h
  rw [Li.inj h]
structure DkX (K : PySem.W.Frag) (CD CL : Addr) (F H : Hp) (a dx ea : Addr) (eow : List Addr) (cv sv : V) (k : Dk) : Prop where
  ha : H a = some (.ins CD dx (fdk cv sv ea))
  dc : Dp K F cv k.code
  ds : Dp K F sv k.slips
  le : LiAt K CL F H ea eow k.ear
  na : a ∉ eow
  okc : noL k.code = true
  oks : noL k.slips = true
def DkAt (K : PySem.W.Frag) (CD CL : Addr) (F H : Hp) (a : Addr) (ow : List Addr) (k : Dk) : Prop := ∃ dx ea eow cv sv, ow = a :: eow ∧ DkX K CD CL F H a dx ea eow cv sv k
section
variable {K : PySem.W.Frag} {CD CL : Addr} {F H F' H' : Hp} {a : Addr} {ow : List Addr} {k : Dk} {l : Li}
theorem DkAt.mono (x : DkAt K CD CL F H a ow k) (s : Same F F') (h : ∀ b ∈ ow, H' b = H b) : DkAt K CD CL F' H' a ow k := by
  obtain ⟨dx, ea, eow, cv, sv, rfl, x⟩ := x
  exact ⟨dx, ea, eow, cv, sv, rfl, by rw [h a (by simp)]; exact x.ha, Dp.mono s _ _ x.dc, Dp.mono s _ _ x.ds, x.le.mono s fun b hb => h b (List.mem_cons_of_mem _ hb), x.na, x.okc, x.oks⟩
theorem DkAt.there (x : DkAt K CD CL F H a ow k) : ∀ b ∈ ow, H b ≠ none := by
  obtain ⟨dx, ea, eow, cv, sv, rfl, x⟩ := x
  intro b hb
  rcases List.mem_cons.mp hb with rfl | hb
  · rw [x.ha]; exact fun z => nomatch z
  · exact x.le.there b hb
theorem DkAt.nd (x : DkAt K CD CL F H a ow k) : ow.Nodup := by
  obtain ⟨dx, ea, eow, cv, sv, rfl, x⟩ := x
  exact List.nodup_cons.mpr ⟨x.na, x.le.nd⟩
end
end DL
/-! A desk's code or slips set anew, with a new object that listens; how a desk is made. -/
namespace DL
open PySem L2 PySem.Spec PyProof.Rows
end DL
/-! How a desk is made. -/
namespace DL
open PySem L2 PySem.Spec PyProof.Rows
end DL
/-! A table of the module: a dict of whole numbers by texts. -/
namespace DL
open PySem L2 PySem.Spec PyProof.Rows
/-! ### for the head -/
end DL
/-! A def that tries a thing at an object and tells a word. -/
namespace DL
open PySem L2 PySem.Spec PyProof.Rows
section
variable {P : Program} {w : World} {K : PySem.W.Frag} {mg : Str → Option Value} {base : Heap} {C : Addr} {m : Str} {k n : Nat}
theorem fnOk_imp {CX : CXT} {f : Addr} {fd : FuncData} {ps : List Str} {sp sp' : Sp} (F : FnOk P w K mg base CX k f fd ps sp) (h : ∀ vs H Q E, sp' vs H Q E → sp vs H Q E) : FnOk P w K mg base CX k f fd ps sp' :=
  ⟨fun vs H Q E z => F.len vs H Q E (h vs H Q E z), fun A outer s H args us vs Q E hr e b r z => F.run A outer s H args us vs Q E hr e b r (h vs H Q E z)⟩
theorem DefL.imp {sp sp' : Sp} (D : DefL P w K mg base C m k sp) (h : ∀ vs H Q E, sp' vs H Q E → sp vs H Q E) : DefL P w K mg base C m k sp' := by
  obtain ⟨f, fd, ps, F, M, b⟩ := D
  exact ⟨f, fd, ps, fnOk_imp F h, M, b⟩
end
end DL
/-! Expressions that change a thing of one's own while they are told; comprehensions of such. -/
namespace DL
open PySem L2 PySem.Spec PyProof.Rows
/-! ### comprehensions -/
end DL
/-! try: statements that put nothing / except SlipError as y: x = f(y) -/
namespace DL
open PySem L2 PySem.Spec PyProof.Rows
end DL
/-! Lists handed to a method of the object at hand: they are none of its own. -/
namespace DL
open PySem L2 PySem.Spec PyProof.Rows
end DL
/-! Defs that are handed a thing of one's own, change it amid their statements, and tell a value; try: x = .. / except SlipError as e: x = [_law_word(e)]. -/
namespace DL
open PySem L2 PySem.Spec PyProof.Rows
/-! ### statements that end by a value and the thing -/
/-! ### a, b = a call that changes a thing -/
/-! ### the word in a list -/
end DL
/-! A dict of one's own that is displayed: whole numbers by texts, all written in the program; widened by another such one; asked. -/
namespace DL
open PySem L2 PySem.Spec PyProof.Rows
/-! ### d.update(d2) -/
end DL
/-! a, b, c, d = e. -/
namespace DL
open PySem L2 PySem.Spec PyProof.Rows
def un4 {α : Type} (d : D) (f : D → D → D → D → Res α) : Res α := match d with
  | .tuple [a, b, c, e] => f a b c e
  | _ => .stuck
@[simp] theorem un4_tup {α : Type} (a b c e : D) (f : D → D → D → D → Res α) : un4 (.tuple [a, b, c, e]) f = f a b c e := id rfl
end DL
/-! A dict of a code, slips and an object that listens, as a thing of one's own; pairs of a desk and such a dict; lists of them. -/
namespace DL
open PySem L2 PySem.Spec PyProof.Rows
def kpK (cv sv : V) (e : Addr) : List (Key × V) := [(Sum.inr "code", cv), (Sum.inr "slips", sv), (Sum.inr "ear", .ref e)]
structure KpX (K : PySem.W.Frag) (CL : Addr) (F H : Hp) (a ea : Addr) (eow : List Addr) (cv sv : V) (k : Dk) : Prop where
  ha : H a = some (.dK (kpK cv sv ea))
  dc : Dp K F cv k.code
  ds : Dp K F sv k.slips
  le : LiAt K CL F H ea eow k.ear
  na : a ∉ eow
  okc : noL k.code = true
  oks : noL k.slips = true
def KpAt (K : PySem.W.Frag) (CL : Addr) (F H : Hp) (a : Addr) (ow : List Addr) (k : Dk) : Prop := ∃ ea eow cv sv, ow = a :: eow ∧ KpX K CL F H a ea eow cv sv k
section
variable {K : PySem.W.Frag} {CD CL : Addr} {F H F' H' : Hp} {a : Addr} {ow : List Addr} {k : Dk} {l : Li}
theorem KpAt.mono (x : KpAt K CL F H a ow k) (s : Same F F') (h : ∀ b ∈ ow, H' b = H b) : KpAt K CL F' H' a ow k := by
  obtain ⟨ea, eow, cv, sv, rfl, x⟩ := x
  exact ⟨ea, eow, cv, sv, rfl, by rw [h a (by simp)]; exact x.ha, Dp.mono s _ _ x.dc, Dp.mono s _ _ x.ds, x.le.mono s fun b hb => h b (List.mem_cons_of_mem _ hb), x.na, x.okc, x.oks⟩
theorem KpAt.there (x : KpAt K CL F H a ow k) : ∀ b ∈ ow, H b ≠ none := by
  obtain ⟨ea, eow, cv, sv, rfl, x⟩ := x
  intro b hb
  rcases List.mem_cons.mp hb with rfl | hb
  · rw [x.ha]; exact fun z => nomatch z
  · exact x.le.there b hb
theorem KpAt.nd (x : KpAt K CL F H a ow k) : ow.Nodup := by
  obtain ⟨ea, eow, cv, sv, rfl, x⟩ := x
  exact List.nodup_cons.mpr ⟨x.na, x.le.nd⟩
end
/-! ### making them -/
/-! ### a list of them -/
end DL
/-! Two desks, two dicts: a list of pairs that is opened; names that stand for the parts. -/
namespace DL
open PySem L2 PySem.Spec PyProof.Rows
def AllM {K : PySem.W.Frag} (F H : Hp) : List (Kd K) → List V → List (List Addr) → List D → Prop
  | [], [], [], [] => True
  | k :: ks, x :: xs, b :: bs, d :: ds => k.R F H x b d ∧ AllM F H ks xs bs ds
  | _, _, _, _ => False
section
variable {K : PySem.W.Frag} {F F' H H' : Hp}
theorem AllM.mono (s : Same F F') : ∀ {ks : List (Kd K)} {xs : List V} {bs : List (List Addr)} {ds : List D}, (∀ a ∈ bs.flatten, H' a = H a) → AllM F H ks xs bs ds → AllM F' H' ks xs bs ds
  | [], [], [], [], _, _ => trivial
  | k :: ks, x :: xs, b :: bs, d :: ds, e, h => ⟨k.mono s (fun a ha => e a (by simp [ha])) h.1, AllM.mono s (fun a ha => e a (by rw [List.flatten_cons]; exact List.mem_append.mpr (.inr ha))) h.2⟩
  | [], _ :: _, _, _, _, h => by cases h
  | [], [], _ :: _, _, _, h => by cases h
  | [], [], [], _ :: _, _, h => by cases h
  | _ :: _, [], _, _, _, h => by cases h
  | _ :: _, _ :: _, [], _, _, h => by cases h
  | _ :: _, _ :: _, _ :: _, [], _, h => by cases h
theorem AllM.there : ∀ {ks : List (Kd K)} {xs : List V} {bs : List (List Addr)} {ds : List D}, AllM F H ks xs bs ds → ∀ a ∈ bs.flatten, H a ≠ none
  | [], [], [], [], _, a, ha => by cases ha
  | k :: ks, x :: xs, b :: bs, d :: ds, h, a, ha => by
    rw [List.flatten_cons] at ha
    rcases List.mem_append.mp ha with ha | ha
    · exact k.there h.1 a ha
    · exact AllM.there h.2 a ha
  | [], _ :: _, _, _, h, _, _ => by cases h
  | [], [], _ :: _, _, h, _, _ => by cases h
  | [], [], [], _ :: _, h, _, _ => by cases h
  | _ :: _, [], _, _, h, _, _ => by cases h
  | _ :: _, _ :: _, [], _, h, _, _ => by cases h
  | _ :: _, _ :: _, _ :: _, [], h, _, _ => by cases h
theorem AllM.get : ∀ {ks : List (Kd K)} {xs : List V} {bs : List (List Addr)} {ds : List D} {n : Nat} {d : D}, AllM F H ks xs bs ds → ds[n]? = some d → ∃ k v b, ks[n]? = some k ∧ xs[n]? = some v ∧ bs[n]? = some b ∧ k.R F H v b d
  | [], [], [], [], _, _, _, e => by simp at e
  | k :: ks, x :: xs, b :: bs, d :: ds, 0, _, h, e => by
    simp only [List.getElem?_cons_zero, Option.some.injEq] at e
    subst e
    exact ⟨k, x, b, rfl, rfl, rfl, h.1⟩
  | k :: ks, x :: xs, b :: bs, d :: ds, n + 1, _, h, e => AllM.get (n := n) h.2 (by simpa using e)
  | [], _ :: _, _, _, _, _, h, _ => by cases h
  | [], [], _ :: _, _, _, _, h, _ => by cases h
  | [], [], [], _ :: _, _, _, h, _ => by cases h
  | _ :: _, [], _, _, _, _, h, _ => by cases h
  | _ :: _, _ :: _, [], _, _, _, h, _ => by cases h
  | _ :: _, _ :: _, _ :: _, [], _, _, h, _ => by cases h
theorem AllM.len : ∀ {ks : List (Kd K)} {xs : List V} {bs : List (List Addr)} {ds : List D}, AllM F H ks xs bs ds → ks.length = ds.length
  | [], [], [], [], _ => rfl
  | k :: ks, x :: xs, b :: bs, d :: ds, h => by simp [AllM.len h.2]
  | [], _ :: _, _, _, h => by cases h
  | [], [], _ :: _, _, h => by cases h
  | [], [], [], _ :: _, h => by cases h
  | _ :: _, [], _, _, h => by cases h
  | _ :: _, _ :: _, [], _, h => by cases h
  | _ :: _, _ :: _, _ :: _, [], h => by cases h
theorem AllM.chg (s : Same F F') {kd : Kd K} {v : V} {b b' : List Addr} {d' : D} (hr : kd.R F' H' v b' d') : ∀ {ks : List (Kd K)} {xs : List V} {bs : List (List Addr)} {ds : List D} {n : Nat}, bs.flatten.Nodup → (∀ a ∈ bs.flatten, a ∉ b → H' a = H a) → AllM F H ks xs bs ds → ks[n]? = some kd → xs[n]? = some v → bs[n]? = some b → AllM F' H' ks xs (bs.set n b') (ds.set n d')
  | [], [], [], [], _, _, _, _, e, _, _ => by simp at e
  | k :: ks, x :: xs, c :: bs, d :: ds, 0, nd, e, h, ek, ex, eb => by
    simp only [List.getElem?_cons_zero, Option.some.injEq] at ek ex eb
    subst ek ex eb
    rw [List.flatten_cons] at nd e
    refine ⟨hr, AllM.mono s (fun a ha => e a (List.mem_append.mpr (.inr ha)) fun z => ?_) h.2⟩
    exact (List.nodup_append.mp nd).2.2 a z a ha rfl
  | k :: ks, x :: xs, c :: bs, d :: ds, n + 1, nd, e, h, ek, ex, eb => by
    rw [List.flatten_cons] at nd e
    have ek : ks[n]? = some kd := by simpa using ek
    have ex : xs[n]? = some v := by simpa using ex
    have eb : bs[n]? = some b := by simpa using eb
    refine ⟨k.mono s (fun a ha => e a (List.mem_append.mpr (.inl ha)) fun z => ?_) h.1, AllM.chg s hr (n := n) (List.nodup_append.mp nd).2.1 (fun a ha hb => e a (List.mem_append.mpr (.inr ha)) hb) h.2 ek ex eb⟩
    exact (List.nodup_append.mp nd).2.2 a ha a (List.mem_flatten.mpr ⟨b, List.mem_of_getElem? eb, z⟩) rfl
  | [], _ :: _, _, _, _, _, _, h, _, _, _ => by cases h
  | [], [], _ :: _, _, _, _, _, h, _, _, _ => by cases h
  | [], [], [], _ :: _, _, _, _, h, _, _, _ => by cases h
  | _ :: _, [], _, _, _, _, _, h, _, _, _ => by cases h
  | _ :: _, _ :: _, [], _, _, _, _, h, _, _, _ => by cases h
  | _ :: _, _ :: _, _ :: _, [], _, _, _, h, _, _, _ => by cases h
end
/-! ### the list of pairs, opened -/
end DL
/-! Names for the parts of an opened list of pairs; a walk over it; what is done to a part. -/
namespace DL
open PySem L2 PySem.Spec PyProof.Rows
end DL
/-! The dict of a code, slips and an object that listens: read, changed, by defs and amid an opened list. -/
namespace DL
open PySem L2 PySem.Spec PyProof.Rows
end DL
/-! Defs that change the dict of a code, slips and an object that listens. -/
namespace DL
open PySem L2 PySem.Spec PyProof.Rows
/-! ### .. that may tell a thing amid -/
end DL
/-! Parts of an opened list read and changed; defs that read a thing in the second place; a thing given away. -/
namespace DL
open PySem L2 PySem.Spec PyProof.Rows
/-! ### a def that reads a thing in the second place -/
/-! ### what reads, as what changes -/
/-! ### within a try: y = f(x, e, ..) -/
/-! ### a thing given away -/
end DL
/-! A def that reads a code out of a thing at its first statement, and then no more of it. -/
namespace DL
open PySem L2 PySem.Spec PyProof.Rows
end DL
/-! The table of a set of any size: from each slot the way meets all slots; a table laid anew. -/
namespace DL
open PySem L2 PySem.Spec PyProof.Rows
/-! ### powers of five by powers of two -/
theorem cop2 {n : Nat} (h : n % 2 = 1) (a : Nat) : Nat.Coprime (2 ^ a) n := Nat.Coprime.pow_left a (by
  unfold Nat.Coprime
  rw [Nat.gcd_rec, h]
  exact Nat.gcd_one_left 2)
theorem five8 : ∀ d : Nat, 5 ^ d % 8 = if d % 2 = 0 then 1 else 5
  | 0 => rfl
  | d + 1 => by
    have ih := five8 d
    rw [Nat.pow_succ]
    by_cases h : d % 2 = 0
    · rw [if_pos h] at ih
      rw [if_neg (by omega)]
      omega
    · rw [if_neg h] at ih
      rw [if_pos (by omega)]
      omega
theorem five_pos (d : Nat) : 1 ≤ 5 ^ d := Nat.pow_pos (by decide)
theorem five_dvd : ∀ (a d : Nat), 2 ^ (a + 2) ∣ 5 ^ d - 1 → 2 ^ a ∣ d
  | 0, d, _ => ⟨d, by simp⟩
  | a + 1, d, h => by
    have h8 : 8 ∣ 5 ^ d - 1 := Nat.dvd_trans ⟨2 ^ a, by rw [show a + 1 + 2 = 3 + a by omega, Nat.pow_add]⟩ h
    have hd : d % 2 = 0 := by
      have := five8 d
      have := five_pos d
      by_cases c : d % 2 = 0
      · exact c
      · rw [if_neg c] at *
        omega
    obtain ⟨e, rfl⟩ : ∃ e, d = 2 * e := ⟨d / 2, by omega⟩
    have h4 := five8 e
    have hp := five_pos e
    obtain ⟨c, hc, hc2⟩ : ∃ c, 5 ^ e + 1 = 2 * c ∧ c % 2 = 1 := by
      refine ⟨(5 ^ e + 1) / 2, ?_, ?_⟩
      · split at h4 <;> omega
      · split at h4 <;> omega
    have e2 : 5 ^ (2 * e) - 1 = 2 * ((5 ^ e - 1) * c) := by
      obtain ⟨y, hy⟩ : ∃ y, 5 ^ e = y + 1 := ⟨5 ^ e - 1, by omega⟩
      rw [show 2 * e = e + e by omega, Nat.pow_add, hy]
      rw [hy] at hc
      have : (y + 1) * (y + 1) - 1 = y * (y + 2) := by
        simp only [Nat.add_mul, Nat.mul_add]
        omega
      rw [this, show y + 2 = 2 * c by omega, Nat.add_sub_cancel]
      rw [Nat.mul_left_comm]
    rw [e2, show a + 1 + 2 = (a + 2) + 1 by omega, Nat.pow_succ, Nat.mul_comm (2 ^ (a + 2)) 2] at h
    have h' := Nat.dvd_of_mul_dvd_mul_left (by decide) h
    have h'' := (cop2 hc2 (a + 2)).dvd_of_dvd_mul_right h'
    obtain ⟨q, hq⟩ := five_dvd a e h''
    exact ⟨q, by rw [hq, Nat.pow_succ, Nat.mul_comm (2 ^ a) 2, Nat.mul_assoc]⟩
/-! ### the round -/
theorem lcg_form {a m i : Nat} (hm : m + 1 = 2 ^ a) (hi : i ≤ m) : ∀ k, 4 * lcgI m i k + 1 = ((4 * i + 1) * 5 ^ k) % 2 ^ (a + 2)
  | 0 => by
    have e : 2 ^ (a + 2) = 4 * (m + 1) := by rw [Nat.pow_add, ← hm]; omega
    rw [Nat.pow_zero, Nat.mul_one, e]
    show 4 * i + 1 = _
    rw [Nat.mod_eq_of_lt (by omega)]
  | k + 1 => by
    have ih := lcg_form hm hi k
    have e : 2 ^ (a + 2) = 4 * (m + 1) := by rw [Nat.pow_add, ← hm]; omega
    show 4 * ((lcgI m i k * 5 + 1) % (m + 1)) + 1 = _
    rw [Nat.pow_succ, ← Nat.mul_assoc, Nat.mul_mod, ← ih, e]
    generalize lcgI m i k = x
    have h1 := Nat.div_add_mod (x * 5 + 1) (m + 1)
    have h2 := Nat.mod_lt (x * 5 + 1) (Nat.succ_pos m)
    generalize (x * 5 + 1) % (m + 1) = r at h1 h2 ⊢
    generalize (x * 5 + 1) / (m + 1) = q at h1
    have e3 : 5 % (4 * (m + 1)) = 5 ∨ m = 0 := by
      by_cases z : m = 0
      · exact .inr z
      · exact .inl (Nat.mod_eq_of_lt (by omega))
    have e4 : (4 * x + 1) * 5 = (4 * r + 1) + 4 * (m + 1) * q := by
      have : 4 * ((m + 1) * q) = 4 * (m + 1) * q := by rw [Nat.mul_assoc]
      omega
    rcases e3 with e3 | rfl
    · rw [e3, e4, Nat.add_mul_mod_self_left, Nat.mod_eq_of_lt (by omega)]
    · have : r = 0 := by omega
      subst this
      have : (4 * x + 1) * (5 % (4 * (0 + 1))) % (4 * (0 + 1)) = (4 * x + 1) * 1 % 4 := rfl
      rw [this]
      omega
theorem lcg_inj {a m i : Nat} (hm : m + 1 = 2 ^ a) (hi : i ≤ m) {k l : Nat} (hkl : k < l) (hl : l ≤ m) : lcgI m i k ≠ lcgI m i l := fun z => by
  have h1 := lcg_form hm hi k
  have h2 := lcg_form hm hi l
  rw [z] at h1
  have h3 := Nat.sub_mod_eq_zero_of_mod_eq (h2.symm.trans h1)
  have h4 : 2 ^ (a + 2) ∣ (4 * i + 1) * 5 ^ l - (4 * i + 1) * 5 ^ k := Nat.dvd_of_mod_eq_zero h3
  have e : (4 * i + 1) * 5 ^ l - (4 * i + 1) * 5 ^ k = (4 * i + 1) * (5 ^ k * (5 ^ (l - k) - 1)) := by
    have e1 : 5 ^ l = 5 ^ k * 5 ^ (l - k) := by rw [← Nat.pow_add]; congr 1; omega
    rw [e1, ← Nat.mul_sub, Nat.mul_sub (5 ^ k), Nat.mul_one]
  rw [e] at h4
  have h5 := (cop2 (n := 4 * i + 1) (by omega) (a + 2)).dvd_of_dvd_mul_left h4
  have h6 := (cop2 (n := 5 ^ k) (by have := five8 k; split at this <;> omega) (a + 2)).dvd_of_dvd_mul_left h5
  have h7 := Nat.le_of_dvd (by omega) (five_dvd a (l - k) h6)
  omega
theorem lcgI_le {m i : Nat} (hi : i ≤ m) : ∀ k, lcgI m i k ≤ m
  | 0 => hi
  | k + 1 => Nat.le_of_lt_succ (Nat.mod_lt _ (Nat.succ_pos m))
theorem lcg_all2 {a m i j : Nat} (hm : m + 1 = 2 ^ a) (hi : i ≤ m) (hj : j ≤ m) : ∃ k, k ≤ m ∧ lcgI m i k = j := by
  rcases Classical.em (j ∈ (List.range (m + 1)).map (lcgI m i)) with c | c
  · obtain ⟨k, hk, e⟩ := List.mem_map.mp c
    exact ⟨k, Nat.le_of_lt_succ (List.mem_range.mp hk), e⟩
  · exfalso
    have nd : ((List.range (m + 1)).map (lcgI m i)).Nodup := by
      refine List.pairwise_map.mpr ?_
      refine List.Pairwise.imp_of_mem (fun {k l} hk hl h => ?_) (show (List.range (m + 1)).Pairwise (· < ·) from List.pairwise_lt_range)
      exact lcg_inj hm hi h (Nat.le_of_lt_succ (List.mem_range.mp hl))
    have := nat_nodup_len (j :: (List.range (m + 1)).map (lcgI m i)) (List.range (m + 1)) (List.nodup_cons.mpr ⟨c, nd⟩) fun x hx => by
      rcases List.mem_cons.mp hx with rfl | hx
      · exact List.mem_range.mpr (Nat.lt_succ_of_le hj)
      · obtain ⟨k, _, rfl⟩ := List.mem_map.mp hx
        exact List.mem_range.mpr (Nat.lt_succ_of_le (lcgI_le hi k))
    rw [List.length_cons, List.length_map, List.length_range] at this
    omega
/-! ### the way meets all slots -/
theorem runs_meet {a m : Nat} (hm : m + 1 = 2 ^ a) (h : Int) {j : Nat} (hj : j ≤ m) : ∃ n, n ≤ m + 12 ∧ runI m (SetTable.bits h) n = j := by
  obtain ⟨k, hk, e⟩ := lcg_all2 hm (runI_le m (SetTable.bits h) 12) hj
  exact ⟨12 + k, by omega, by rw [runI_tail (bits_lt h)]; exact e⟩
theorem way_meets {a m : Nat} (hm : m + 1 = 2 ^ a) (h : Int) {j : Nat} (hj : j ≤ m) : ∃ k, k < 10 * SetTable.turns m ∧ way m h k = j := by
  obtain ⟨n, hn, e⟩ := runs_meet hm h hj
  obtain ⟨k, hk, e2⟩ := run_nth m (SetTable.bits h) n
  refine ⟨k, by unfold SetTable.turns; omega, ?_⟩
  show (nth m (runAt m (SetTable.bits h % (m + 1)) (SetTable.bits h)) k).j = j
  rw [e2]
  exact e
theorem way_in (m : Nat) (h : Int) (k : Nat) : way m h k ≤ m := by
  have hi : SetTable.bits h % (m + 1) ≤ m := Nat.le_of_lt_succ (Nat.mod_lt _ (Nat.succ_pos _))
  have r := runEnd_bd hi
  have q := nth_in (m := m) k (runAt m (SetTable.bits h % (m + 1)) (SetTable.bits h)) (by
    show SetTable.bits h % (m + 1) + (SetTable.runEnd m (SetTable.bits h % (m + 1)) - SetTable.bits h % (m + 1)) ≤ m
    omega)
  show (nth m (runAt m (SetTable.bits h % (m + 1)) (SetTable.bits h)) k).j ≤ m
  omega
/-- a free slot is found -/
theorem free_any {a m : Nat} (hm : m + 1 = 2 ^ a) (owner : Array (Option Nat)) (h : Int) {j : Nat} (hj : j ≤ m) (hf : oAt owner j = none) :
    ∃ j', j' ≤ m ∧ SetTable.layClean.free m owner (SetTable.turns m) (SetTable.bits h % (m + 1)) (SetTable.bits h) = some j' ∧ oAt owner j' = none := by
  obtain ⟨n, hn, e⟩ := runs_meet hm h hj
  have hw : oAt owner (way m h (off m (SetTable.bits h % (m + 1)) (SetTable.bits h) n)) = none := by
    show oAt owner (nth m (runAt m (SetTable.bits h % (m + 1)) (SetTable.bits h)) (off m (SetTable.bits h % (m + 1)) (SetTable.bits h) n)).j = none
    rw [nth_off, itL_run]
    show oAt owner (runI m (SetTable.bits h) n) = none
    rw [e]
    exact hf
  obtain ⟨K, k1, k2, k3⟩ := st_least (p := fun k => oAt owner (way m h k) = none) _ hw
  refine ⟨way m h K, way_in m h K, ?_, k2⟩
  refine free_spec m owner (SetTable.turns m) n _ _ K (by unfold SetTable.turns; omega) k1 (fun k hk => ?_) ?_
  · have q := k3 k hk
    cases z : oAt owner (nth m (runAt m (SetTable.bits h % (m + 1)) (SetTable.bits h)) k).j with
    | none => exact absurd z q
    | some _ => rfl
  · have q : oAt owner (nth m (runAt m (SetTable.bits h % (m + 1)) (SetTable.bits h)) K).j = none := k2
    rw [q]
    rfl
/-! ### a table laid anew -/
/-- so many sit there, each at a slot -/
structure Sit (m n : Nat) (owner : Array (Option Nat)) : Prop where
  sz : owner.size = m + 1
  all : ∀ k, k < n → ∃ j, j ≤ m ∧ oAt owner j = some k
  ps : ∃ ps : List Nat, ps.length = n ∧ ∀ j, j ≤ m → oAt owner j ≠ none → j ∈ ps
theorem sit_step {a m n : Nat} {owner : Array (Option Nat)} (hm : m + 1 = 2 ^ a) (S : Sit m n owner) (hn : n ≤ m) (h : Int) :
    ∃ j, SetTable.layClean.free m owner (SetTable.turns m) (SetTable.bits h % (m + 1)) (SetTable.bits h) = some j ∧ Sit m (n + 1) (owner.setIfInBounds j (some n)) := by
  obtain ⟨sz, all, ps, hp, hin⟩ := S
  obtain ⟨j0, h0, hn0⟩ := st_missing ps (m + 1) (by omega)
  have hj0 : oAt owner j0 = none := by
    cases z : oAt owner j0 with
    | none => rfl
    | some k => exact absurd (hin j0 (Nat.le_of_lt_succ h0) (by rw [z]; exact fun e => nomatch e)) hn0
  obtain ⟨j, hj, e1, e2⟩ := free_any hm owner h (Nat.le_of_lt_succ h0) hj0
  refine ⟨j, e1, ?_⟩
  have self := oAt_set_self (owner := owner) (j := j) (some n) (by rw [sz]; omega)
  refine ⟨by rw [Array.size_setIfInBounds]; exact sz, fun k hk => ?_, ⟨j :: ps, by rw [List.length_cons, hp], fun i hi hne => ?_⟩⟩
  · by_cases c : k = n
    · exact ⟨j, hj, by rw [self, c]⟩
    · obtain ⟨i, hi, e⟩ := all k (by omega)
      have : i ≠ j := fun z => by rw [z, e2] at e; cases e
      exact ⟨i, hi, by rw [oAt_set_ne _ this]; exact e⟩
  · by_cases c : i = j
    · rw [c]; exact List.mem_cons_self
    · rw [oAt_set_ne _ c] at hne
      exact List.mem_cons_of_mem _ (hin i hi hne)
theorem sit_all {a m : Nat} (hm : m + 1 = 2 ^ a) : ∀ (rest : List Int) (n : Nat) (owner : Array (Option Nat)), Sit m n owner → n + rest.length ≤ m →
    ∃ owner', rest.foldl (stepF m) (some (owner, n)) = some (owner', n + rest.length) ∧ Sit m (n + rest.length) owner'
  | [], n, owner, S, _ => ⟨owner, rfl, S⟩
  | h :: rest, n, owner, S, hl => by
    rw [List.length_cons] at hl
    obtain ⟨j, e, S'⟩ := sit_step hm S (by omega) h
    obtain ⟨owner', f, S2⟩ := sit_all hm rest (n + 1) _ S' (by omega)
    refine ⟨owner', ?_, ?_⟩
    · rw [List.foldl_cons, stepF_some e, f, List.length_cons]
      congr 2
      omega
    · rw [List.length_cons, show n + (rest.length + 1) = n + 1 + rest.length by omega]
      exact S2
theorem lay_any {a m : Nat} (hm : m + 1 = 2 ^ a) {hs : Array Int} (hn : hs.size ≤ m) : ∃ owner, SetTable.layClean m hs = some owner ∧ Sit m hs.size owner := by
  have S0 : Sit m 0 (Array.replicate (m + 1) none) := ⟨by simp, fun k hk => absurd hk (Nat.not_lt_zero _), ⟨[], rfl, fun j hj e => absurd (oAt_init hj) e⟩⟩
  obtain ⟨owner, f, S⟩ := sit_all hm hs.toList 0 _ S0 (by rw [Array.length_toList]; omega)
  rw [Nat.zero_add, Array.length_toList] at S
  refine ⟨owner, ?_, S⟩
  rw [layClean_eq, f]
  rfl
/-- a table that holds n at rising slots, none of them left empty -/
structure Tb (t : SetTable) (n : Nat) : Prop where
  ris : Ris t.place.toList
  dm : t.dummies = #[]
  sz : t.place.size = n
  bd : ∀ x ∈ t.place.toList, x ≤ t.mask
theorem laid_any (t : SetTable) {hs : Array Int} {a wanted M : Nat} (hw : SetTable.sizeAbove wanted - 1 = M) (hM : M + 1 = 2 ^ a) (hn : hs.size ≤ M) :
    ∃ t' order, t.relaid hs wanted = some (t', order) ∧ order.toList.Perm (List.range hs.size) ∧ Tb t' hs.size ∧ t'.mask = M ∧ t'.led = t.led ∧ t'.plain = t.plain := by
  obtain ⟨owner, e, S⟩ := lay_any hM hn
  have hr : t.relaid hs wanted = some (tabOf t M owner, ((liveOf M owner).map (·.2)).toArray) := by
    rw [relaid_eq, hw, e]
    rfl
  have ris := ris_live (fun j => owner.getD j none) (List.range (M + 1)) (by
    unfold Ris
    exact List.pairwise_lt_range)
  have r1 : Ris ((liveOf M owner).map (·.1)) := ris.1
  have r2 : ∀ x ∈ (liveOf M owner).map (·.1), x ∈ List.range (M + 1) := ris.2
  have nd : ((liveOf M owner).map (·.1)).Nodup := List.Pairwise.imp (fun h => Nat.ne_of_lt h) r1
  have hlen : (liveOf M owner).length = hs.size := by
    obtain ⟨ps, p1, p2⟩ := S.ps
    have a1 := nat_nodup_len ((liveOf M owner).map (·.1)) ps nd fun x hx => by
      obtain ⟨⟨y, k⟩, hq, rfl⟩ := List.mem_map.mp hx
      obtain ⟨b1, b2⟩ := (mem_live S.sz).1 hq
      exact p2 y b1 (by rw [b2]; exact fun z => nomatch z)
    have a2 := nat_nodup_len (List.range hs.size) ((liveOf M owner).map (·.2)) List.nodup_range fun k hk => by
      obtain ⟨j, b1, b2⟩ := S.all k (List.mem_range.mp hk)
      exact List.mem_map.mpr ⟨(j, k), (mem_live S.sz).2 ⟨b1, b2⟩, rfl⟩
    rw [List.length_map, p1] at a1
    rw [List.length_map, List.length_range] at a2
    omega
  refine ⟨tabOf t M owner, ((liveOf M owner).map (·.2)).toArray, hr, ?_, ⟨r1, rfl, ?_, fun x hx => Nat.le_of_lt_succ (List.mem_range.mp (r2 x hx))⟩, rfl, rfl, rfl⟩
  · refine perm_range hs.size _ ?_ fun k hk => ?_
    · show ((liveOf M owner).map (·.2)).length = hs.size
      rw [List.length_map]
      exact hlen
    · obtain ⟨j, b1, b2⟩ := S.all k hk
      exact List.mem_map.mpr ⟨(j, k), (mem_live S.sz).2 ⟨b1, b2⟩, rfl⟩
  · show ((liveOf M owner).map (·.1)).toArray.size = hs.size
    rw [List.size_toArray, List.length_map]
    exact hlen
end DL
/-! A set of tuples of ints, none told twice, up to 4500: one more added. -/
namespace DL
open PySem L2 PySem.Spec PyProof.Rows
def MG (m : Nat) : Prop := m = 7 ∨ m = 31 ∨ m = 127 ∨ m = 511 ∨ m = 2047 ∨ m = 8191
theorem MG.two {m : Nat} (h : MG m) : ∃ a, m + 1 = 2 ^ a := by
  rcases h with rfl | rfl | rfl | rfl | rfl | rfl
  · exact ⟨3, rfl⟩
  · exact ⟨5, rfl⟩
  · exact ⟨7, rfl⟩
  · exact ⟨9, rfl⟩
  · exact ⟨11, rfl⟩
  · exact ⟨13, rfl⟩
theorem MG.odd {m : Nat} (h : MG m) : m % 2 = 1 := by
  rcases h with rfl | rfl | rfl | rfl | rfl | rfl <;> rfl
theorem MG.le {m : Nat} (h : MG m) : m ≤ 8191 := by
  rcases h with rfl | rfl | rfl | rfl | rfl | rfl <;> decide
theorem Tb.put {t : SetTable} {n : Nat} (T : Tb t n) {j : Nat} (hj : j ∉ t.place.toList) (hm : j ≤ t.mask) : (t.put j).2 = SetTable.below t.place j ∧ SetTable.below t.place j ≤ n ∧ Tb (t.put j).1 (n + 1) ∧ (t.put j).1.mask = t.mask ∧ (t.put j).1.led = t.led ∧ (t.put j).1.plain = t.plain ∧ (t.put j).1.fill = n + 1 := by
  obtain ⟨c1, _, _⟩ := below_cut T.ris j
  have hsz : t.place.toList.length = n := by rw [Array.length_toList]; exact T.sz
  have hpl : SetTable.below t.place j ≤ t.place.toList.length := by rw [Array.length_toList]; exact c1
  have hnp : t.place[SetTable.below t.place j]? ≠ some j := fun e => hj (List.mem_of_getElem? (by rw [Array.getElem?_toList]; exact e))
  have hpp := put_place t j
  have hsize : (t.put j).1.place.size = n + 1 := by rw [← Array.length_toList, hpp, len_ins _ hpl, hsz]
  refine ⟨rfl, by omega, ⟨ris_insert T.ris hnp, put_dm T.dm j, hsize, fun x hx => ?_⟩, rfl, rfl, rfl, ?_⟩
  · rw [hpp] at hx
    rcases mem_ins.1 hx with z | z
    · rw [z]; exact hm
    · exact T.bd x z
  · show (t.put j).1.place.size + (t.put j).1.dummies.size = n + 1
    rw [hsize, put_dm T.dm j]
    rfl
structure SetN (P : Program) (w : World) (h : Heap) (a : Addr) (L : List (Addr × List Int)) (es : Array (Int × Value)) (ep : Nat) (t : SetTable) : Prop where
  ob : ∃ o, h.get? a = some o ∧ o.ExactSet ∧ o.data = .set es ep t
  rows : es.toList = rowsOf P w L
  tab : Tb t L.length
  mok : MG t.mask
  nd : (L.map (·.2)).Nodup
  tup : ∀ p ∈ L, IsT P w h p.2 p.1
  plain : t.plain = true
  led : w.params.followText "set-order" = true ∨ t.led = true
  room : L.length * 5 < t.mask * 3
  few : L.length ≤ 4500
section
variable {P : Program} {w : World} {A : Around} {E : Value → Shared → Prop} {s : Shared} {a : Addr} {L : List (Addr × List Int)} {es : Array (Int × Value)} {ep : Nat} {t : SetTable}
theorem rows_size {L : List (Addr × List Int)} {es : Array (Int × Value)} (h : es.toList = rowsOf P w L) : es.size = L.length := by
  have h := congrArg List.length h
  unfold rowsOf at h
  rwa [Array.length_toList, List.length_map] at h
theorem fits_tb {t : SetTable} {n : Nat} (T : Tb t n) (h : n ≤ t.mask) : t.fits n = true := by
  unfold SetTable.fits SetTable.fill
  rw [T.dm, Bool.and_eq_true, beq_iff_eq, decide_eq_true_eq]
  refine ⟨T.sz, ?_⟩
  show t.place.size + 0 ≤ t.mask
  rw [T.sz]
  exact h
theorem SetN.size (R : SetN P w s.heap a L es ep t) : es.size = L.length := rows_size R.rows
theorem SetN.fits (R : SetN P w s.heap a L es ep t) : t.fits es.size = true := by
  rw [R.size]
  exact fits_tb R.tab (by have := R.room; omega)
theorem SetN.entry (R : SetN P w s.heap a L es ep t) {i : Nat} {p : Addr × List Int} (h : L[i]? = some p) : es[i]? = some (thash P w p.2, Value.ref p.1) := by
  rw [← Array.getElem?_toList, R.rows]
  unfold rowsOf
  rw [List.getElem?_map, h]
  rfl
theorem SetN.gw (R : SetN P w s.heap a L es ep t) : ¬ t.gaveWay = true := by
  unfold SetTable.gaveWay
  rw [R.mok.odd]
  decide
theorem nth_nodummy (m : Nat) : ∀ (n : Nat) (p : SetTable.Probe), p.dummy = none → (nth m p n).dummy = none
  | 0, _, h => h
  | n + 1, p, h => nth_nodummy m n (adv m p) (by
    unfold adv
    split <;> exact h)
/-- what is new is met nowhere -/
theorem search_new (R : SetN P w s.heap a L es ep t) {x : Addr} {k : List Int} (hx : IsT P w s.heap k x) (hu : A.units < cLine) (hn : k ∉ L.map (·.2)) {K : Nat} (hKf : K < 10 * SetTable.turns t.mask)
    (hK : way t.mask (thash P w k) K ∉ t.place.toList) (hKb : ∀ c, c < K → way t.mask (thash P w k) c ∈ t.place.toList) {Q : SetFound → Shared → Prop} (hout : Q (.free (way t.mask (thash P w k) K) false) s) :
    ∀ (f c : Nat) (stand : Option SetTable.Probe), stand.getD (t.probeStart (thash P w k)) = nth t.mask (runAt t.mask (SetTable.bits (thash P w k) % (t.mask + 1)) (SetTable.bits (thash P w k))) c → c ≤ K → K - c < f →
      wpAny (model P w) A (setSearchFrom a (.ref x) (thash P w k) true f stand) Q E s
  | 0, c, stand, _, _, hf => absurd hf (Nat.not_lt_zero _)
  | f + 1, c, stand, hst, hc, hf => by
    obtain ⟨o, ho, hex, hd⟩ := R.ob
    rw [setSearchFrom_succ]
    refine wpAny_bind (wpAny_setState_of ho hd R.fits ?_)
    dsimp only
    refine wp_if_neg R.gw ?_
    try refine wpAny_bind (wpAny_pure ?_)
    generalize hp0 : runAt t.mask (SetTable.bits (thash P w k) % (t.mask + 1)) (SetTable.bits (thash P w k)) = p0 at hst
    have ew : ∀ q, (nth t.mask (nth t.mask p0 c) q).j = way t.mask (thash P w k) (c + q) := fun q => by
      rw [← nth_add, ← hp0]
    have spec := go_spec t R.tab.ris R.tab.dm (fun i => (es[i]?.map (·.1)).getD 0) (thash P w k) (10 * SetTable.turns t.mask) (K - c) (nth t.mask p0 c) (nth_nodummy _ _ _ (by rw [← hp0]; rfl)) (by omega)
      (fun q hq => by rw [ew]; exact hKb (c + q) (by omega)) (by rw [ew, show c + (K - c) = K by omega]; exact hK)
    rcases spec with ⟨q, i, hq, hi, hh, hno, hpr⟩ | ⟨hno, hpr⟩
    · have hpr' : t.probe (fun i => (es[i]?.map (·.1)).getD 0) (thash P w k) (stand.getD (t.probeStart (thash P w k))) = some (.candidate (way t.mask (thash P w k) (c + q)) i (nth t.mask p0 (c + (q + 1)))) := by
        rw [hst, ← ew, nth_add]
        exact hpr
      rw [hpr']
      dsimp only
      rw [ew] at hi
      have hil : i < L.length := by
        have h1 := (List.getElem?_eq_some_iff.mp hi).1
        rw [Array.length_toList, R.tab.sz] at h1
        exact h1
      have hp : L[i]? = some L[i] := List.getElem?_eq_getElem hil
      generalize L[i] = p at hp
      have hmem : p ∈ L := List.mem_of_getElem? hp
      have hne : ¬ p.2 = k := fun z => hn (List.mem_map.mpr ⟨p, hmem, z⟩)
      have rest : wpAny (model P w) A (searchRest a (.ref x) (thash P w k) true f es t (way t.mask (thash P w k) (c + q)) i (nth t.mask p0 (c + (q + 1)))) Q E s := by
        unfold searchRest
        rw [R.entry hp]
        dsimp only
        refine wpAny_bind (wpAny_holding (wpAny_eqBool_tuple hu (R.tup p hmem) hx ?_))
        refine wpAny_bind (wpAny_setState_of ho hd R.fits ?_)
        dsimp only
        refine wp_if_neg (by simp [hne]) ?_
        try refine wpAny_bind (wpAny_pure ?_)
        rw [sameMem]
        dsimp only
        have hsl : t.slot (way t.mask (thash P w k) (c + q)) = .live i := slot_live R.tab.ris hi
        simp only [if_true, hsl, R.entry hp]
        refine wpAny_bind (wpAny_isSame_ref_self (wpAny_bind (wpAny_pure ?_)))
        simp only [if_true]
        refine wp_if_neg (by simp [hne]) ?_
        exact search_new R hx hu hn hKf hK hKb hout f (c + (q + 1)) _ (by rw [hp0]; rfl) (by omega) (by omega)
      by_cases hl : t.led = true
      · refine wp_if_neg (by simp [hl]) ?_
        try refine wpAny_bind (wpAny_pure ?_)
        exact rest
      · refine wp_if_pos (by simp [hl]) ?_
        refine wpAny_bind (seen_tup hx (fun y hy => ?_) ?_)
        · obtain ⟨e, he, ee⟩ := List.mem_map.mp hy
          have he1 : e ∈ es ∧ e.1 = thash P w k := by simpa using he
          have he2 : e ∈ es.toList := by simpa using he1.1
          rw [R.rows] at he2
          obtain ⟨p2, hp2, e2⟩ := List.mem_map.mp he2
          exact ⟨p2.2, p2.1, by rw [← ee, ← e2], R.tup p2 hp2⟩
        · refine wp_if_neg (by decide) ?_
          try refine wpAny_bind (wpAny_pure ?_)
          exact rest
    · have hpr' : t.probe (fun i => (es[i]?.map (·.1)).getD 0) (thash P w k) (stand.getD (t.probeStart (thash P w k))) = some (.empty (way t.mask (thash P w k) K) none) := by
        have e2 : way t.mask (thash P w k) K = (nth t.mask (nth t.mask p0 c) (K - c)).j := by rw [ew, show c + (K - c) = K by omega]
        rw [hst, e2]
        exact hpr
      rw [hpr']
      dsimp only
      exact wpAny_pure hout
/-- the search as adding asks for it -/
theorem search_add (R : SetN P w s.heap a L es ep t) {x : Addr} {k : List Int} (hx : IsT P w s.heap k x) (hu : A.units < cLine) (hn : k ∉ L.map (·.2)) {Q : SetFound → Shared → Prop}
    (hout : ∀ j, j ≤ t.mask → j ∉ t.place.toList → Q (.free j false) s) : wpAny (model P w) A (setSearch a (.ref x) (thash P w k) true) Q E s := by
  have hroom := R.room
  obtain ⟨b, hb⟩ := R.mok.two
  have hlen : t.place.toList.length < t.mask + 1 := by
    rw [Array.length_toList, R.tab.sz]
    omega
  obtain ⟨j, hj, hjn⟩ := st_missing t.place.toList (t.mask + 1) hlen
  obtain ⟨k0, hk0, e⟩ := way_meets hb (thash P w k) (Nat.le_of_lt_succ hj)
  obtain ⟨K, h1, h2, h3⟩ := st_least (p := fun c => way t.mask (thash P w k) c ∉ t.place.toList) k0 (by show way t.mask (thash P w k) k0 ∉ _; rw [e]; exact hjn)
  have hKb : ∀ c, c < K → way t.mask (thash P w k) c ∈ t.place.toList := fun c hc => Classical.byContradiction fun z => h3 c hc z
  have hbig : K < 100000 := by
    have := R.mok.le
    unfold SetTable.turns at hk0
    omega
  unfold setSearch
  exact search_new R hx hu hn (by omega) h2 hKb (hout _ (way_in _ _ _) h2) 100000 0 none rfl (Nat.zero_le _) (by omega)
end
end DL
/-! .. the table laid anew; one more added; a list of them. -/
namespace DL
open PySem L2 PySem.Spec PyProof.Rows
theorem above_5 : SetTable.sizeAbove (SetTable.grown 5) = 32 := by decide +kernel
theorem above_19 : SetTable.sizeAbove (SetTable.grown 19) = 128 := by decide +kernel
theorem above_77 : SetTable.sizeAbove (SetTable.grown 77) = 512 := by decide +kernel
theorem above_307 : SetTable.sizeAbove (SetTable.grown 307) = 2048 := by decide +kernel
theorem above_1229 : SetTable.sizeAbove (SetTable.grown 1229) = 8192 := by decide +kernel
theorem grows {m n : Nat} (h : MG m) (h1 : n * 5 < m * 3) (h2 : (n + 1) * 5 ≥ m * 3) (h3 : n + 1 ≤ 4500) : ∃ M, SetTable.sizeAbove (SetTable.grown (n + 1)) = M + 1 ∧ MG M ∧ (n + 1) * 5 < M * 3 := by
  rcases h with rfl | rfl | rfl | rfl | rfl | rfl
  · have : n + 1 = 5 := by omega
    rw [this]
    exact ⟨31, above_5, .inr (.inl rfl), by decide⟩
  · have : n + 1 = 19 := by omega
    rw [this]
    exact ⟨127, above_19, .inr (.inr (.inl rfl)), by decide⟩
  · have : n + 1 = 77 := by omega
    rw [this]
    exact ⟨511, above_77, .inr (.inr (.inr (.inl rfl))), by decide⟩
  · have : n + 1 = 307 := by omega
    rw [this]
    exact ⟨2047, above_307, .inr (.inr (.inr (.inr (.inl rfl)))), by decide⟩
  · have : n + 1 = 1229 := by omega
    rw [this]
    exact ⟨8191, above_1229, .inr (.inr (.inr (.inr (.inr rfl)))), by decide⟩
  · omega
section
variable {P : Program} {w : World} {A : Around} {E : Value → Shared → Prop} {s : Shared} {a : Addr} {L : List (Addr × List Int)} {es : Array (Int × Value)} {ep : Nat} {t : SetTable}
theorem lay_anew {o : Obj} (ho : s.heap.get? a = some o) (hex : o.ExactSet) (hd : o.data = .set es ep t) (hrows : es.toList = rowsOf P w L) (T : Tb t L.length) (hfl : L.length ≤ t.mask)
    (nd : (L.map (·.2)).Nodup) (tup : ∀ p ∈ L, IsT P w s.heap p.2 p.1) (pl : t.plain = true) (ld : w.params.followText "set-order" = true ∨ t.led = true) (few : L.length ≤ 4500) {wanted M : Nat}
    (hw : SetTable.sizeAbove wanted = M + 1) (hM : MG M) (hn : L.length * 5 < M * 3) {Q : Unit → Shared → Prop}
    (hQ : ∀ h' L' es' ep' t', Heap.SameBut a s.heap h' → SetN P w h' a L' es' ep' t' → L'.Perm L → Q () { s with heap := h' }) : wpAny (model P w) A (setRelay a wanted) Q E s := by
  have hsl : es.size = L.length := rows_size hrows
  have hfits : t.fits es.size = true := by rw [hsl]; exact fits_tb T hfl
  obtain ⟨b, hb⟩ := hM.two
  have hMle := hM.le
  obtain ⟨t', order, e, hp, T', em, el, ep'⟩ := laid_any t (hs := es.map (·.1)) (wanted := wanted) (M := M) (by rw [hw]; rfl) hb (by rw [Array.size_map, hsl]; omega)
  rw [Array.size_map, hsl] at hp T'
  obtain ⟨L2, r1, r2, _⟩ := order_rows L es order hrows hp
  have hs2 : (order.filterMap (es[·]?)).size = es.size := by rw [rows_size r1, r2.length_eq, hsl]
  rw [setRelay_eq]
  refine wpAny_bind (wpAny_setState_of ho hd hfits ?_)
  dsimp only
  refine wp_if_neg (by rw [sizeLine_eq, hw]; omega) ?_
  try refine wpAny_bind (wpAny_pure ?_)
  rw [e]
  dsimp only
  refine wpAny_bind ?_
  refine wp_if_neg (by rw [hs2]; simp) ?_
  try refine wpAny_bind (wpAny_pure ?_)
  refine wpAny_pure ?_
  dsimp only
  refine wpAny_storeSet_of ho hd ?_ (by rw [hs2, hsl, sizeLine_eq]; omega)
  have sb : Heap.SameBut a s.heap (s.heap.update a (Obj.putSet (order.filterMap (es[·]?)) t')) := Heap.SameBut.update ..
  refine hQ _ L2 (order.filterMap (es[·]?)) (ep + 1) t' sb ?_ r2
  refine ⟨⟨_, store_at ho hd, ⟨hex.1, hex.2.1, hex.2.2⟩, rfl⟩, r1, by rw [r2.length_eq]; exact T', by rw [em]; exact hM, (r2.map (·.2)).nodup_iff.mpr nd, fun p hpm => isT_same (tup p (r2.mem_iff.mp hpm)) ho hd sb, by rw [ep']; exact pl, by rw [el]; exact ld, by rw [r2.length_eq, em]; exact hn, by rw [r2.length_eq]; exact few⟩
theorem add_new (R : SetN P w s.heap a L es ep t) {x : Addr} {k : List Int} (hx : IsT P w s.heap k x) (hu : A.units < cLine) (hn : k ∉ L.map (·.2)) (hfew : L.length + 1 ≤ 4500) {Q : Bool → Shared → Prop}
    (hQ : ∀ h' L' es' ep' t', Heap.SameBut a s.heap h' → SetN P w h' a L' es' ep' t' → L'.Perm ((x, k) :: L) → Q true { s with heap := h' }) :
    wpAny (model P w) A (setAddHashed a (.ref x) (thash P w k)) Q E s := by
  obtain ⟨o, ho, hex, hd⟩ := R.ob
  have hsl := R.size
  have hroom := R.room
  unfold setAddHashed
  refine wpAny_holding ?_
  rw [show (100000 : Nat) = 99999 + 1 from rfl, setAddHashedIn_succ]
  refine wpAny_bind (wpAny_setState_of ho hd R.fits ?_)
  dsimp only
  refine wp_if_neg (by simp [byScan, Value.scannable]) ?_
  try refine wpAny_bind (wpAny_pure ?_)
  refine wpAny_bind (search_add R hx hu hn fun j hjm hj => ?_)
  dsimp only
  refine wpAny_bind (wpAny_setState_of ho hd R.fits ?_)
  dsimp only
  obtain ⟨q1, q2, q3, q4, q5, q6, q9⟩ := R.tab.put hj hjm
  have hp1 : (t.put j).1.plain = true := by rw [q6]; exact R.plain
  generalize hpt : t.put j = pt at q1 q3 q4 q5 q6 q9 hp1 ⊢
  obtain ⟨t1, p⟩ := pt
  dsimp only at q1 q3 q4 q5 q6 q9 hp1 ⊢
  subst q1
  first
    | (refine wpAny_bind ?_; refine wp_if_pos hp1 ?_; refine hashBy_tup hx ?_)
    | refine wp_if_pos hp1 (wpAny_bind (hashBy_tup hx ?_))
  simp only [if_true]
  have hin : (SetTable.insertAt es (SetTable.below t.place j) (thash P w k, Value.ref x)).toList = rowsOf P w (L.take (SetTable.below t.place j) ++ (x, k) :: L.drop (SetTable.below t.place j)) := by
    rw [SetTable.toList_insertAt, rows_put, R.rows]
  generalize SetTable.below t.place j = p at q2 hin ⊢
  have pm := put_perm L p (x, k)
  have hlen : (L.take p ++ (x, k) :: L.drop p).length = L.length + 1 := pm.length_eq
  have nd1 : ((L.take p ++ (x, k) :: L.drop p).map (·.2)).Nodup := by
    refine (pm.map (·.2)).nodup_iff.mpr ?_
    rw [List.map_cons]
    exact List.nodup_cons.mpr ⟨hn, R.nd⟩
  have hes : (SetTable.insertAt es p (thash P w k, Value.ref x)).size = L.length + 1 := by rw [rows_size hin, hlen]
  generalize SetTable.insertAt es p (thash P w k, Value.ref x) = es1 at hin hes ⊢
  generalize L.take p ++ (x, k) :: L.drop p = L1 at pm hlen nd1 hin
  refine wpAny_bind (wpAny_storeSet_of ho hd ?_ (by rw [hes, sizeLine_eq]; omega))
  have sb : Heap.SameBut a s.heap (s.heap.update a (Obj.putSet es1 t1)) := Heap.SameBut.update ..
  have ho1 := store_at (es' := es1) (t' := t1) ho hd
  generalize s.heap.update a (Obj.putSet es1 t1) = h1 at sb ho1 ⊢
  have tup1 : ∀ p ∈ L1, IsT P w h1 p.2 p.1 := fun p hp => by
    rcases List.mem_cons.mp (pm.mem_iff.mp hp) with e | hp
    · rw [e]; exact isT_same hx ho hd sb
    · exact isT_same (R.tup p hp) ho hd sb
  have ld1 : w.params.followText "set-order" = true ∨ t1.led = true := by rw [q5]; exact R.led
  rw [← hlen] at q3
  by_cases hf : t1.tooFull = true
  · first
      | (refine wpAny_bind ?_; refine wp_if_pos (by simp [hf]) ?_)
      | (refine wp_if_pos (by simp [hf]) ?_; refine wpAny_bind ?_)
    have hfull : (L.length + 1) * 5 ≥ t.mask * 3 := by
      have h := hf
      unfold SetTable.tooFull at h
      rw [decide_eq_true_eq, q9, q4] at h
      exact h
    rw [hsl]
    obtain ⟨M, g1, g2, g3⟩ := grows R.mok hroom hfull hfew
    refine lay_anew (s := { s with heap := h1 }) ho1 ⟨hex.1, hex.2.1, hex.2.2⟩ rfl hin q3 (by rw [hlen, q4]; omega) nd1 tup1 hp1 ld1 (by rw [hlen]; exact hfew) g1 g2 (by rw [hlen]; exact g3) ?_
    intro h2 L2 es2 ep2 t2 sb2 R2 pm2
    exact wpAny_pure (hQ h2 L2 es2 ep2 t2 (sb.trans sb2) R2 (pm2.trans pm))
  · first
      | refine wp_if_neg (by simp [hf]) ?_
      | (refine wpAny_bind ?_; refine wp_if_neg (by simp [hf]) ?_; refine wpAny_pure ?_)
    refine wpAny_pure (hQ h1 L1 es1 (ep + 1) t1 sb ⟨⟨_, ho1, ⟨hex.1, hex.2.1, hex.2.2⟩, rfl⟩, hin, q3, by rw [q4]; exact R.mok, nd1, tup1, hp1, ld1, ?_, by rw [hlen]; exact hfew⟩ pm)
    have h := hf
    unfold SetTable.tooFull at h
    rw [decide_eq_true_eq, q9] at h
    rw [hlen]
    omega
end
end DL
/-! .. a set made of a list of them. -/
namespace DL
open PySem L2 PySem.Spec PyProof.Rows
section
variable {P : Program} {w : World} {A : Around} {E : Value → Shared → Prop} {s : Shared}
theorem SetN.keep {h h' : Heap} {a : Addr} {L : List (Addr × List Int)} {es : Array (Int × Value)} {ep : Nat} {t : SetTable} (R : SetN P w h a L es ep t) (ha : ∀ o, h.get? a = some o → h'.get? a = some o) (ht : ∀ p ∈ L, IsT P w h' p.2 p.1) : SetN P w h' a L es ep t := by
  obtain ⟨o, ho, r⟩ := R.ob
  exact ⟨⟨o, ha o ho, r⟩, R.rows, R.tab, R.mok, R.nd, ht, R.plain, R.led, R.room, R.few⟩
abbrev newSetO (w : World) : Obj := { cls := .type "set", dict := none, data := .set #[] 0 (.fresh 0 0 (!w.params.followText "set-order")) }
theorem setN_fresh {h : Heap} {a : Addr} (ho : h.get? a = some (newSetO w)) : SetN P w h a [] #[] 0 (.fresh 0 0 (!w.params.followText "set-order")) where
  ob := ⟨_, ho, ⟨rfl, rfl, rfl⟩, rfl⟩
  rows := rfl
  tab := ⟨List.Pairwise.nil, rfl, rfl, fun x hx => (by cases hx)⟩
  mok := .inl rfl
  nd := List.nodup_nil
  tup := fun p hp => (by cases hp)
  plain := rfl
  led := by
    show _ ∨ (!w.params.followText "set-order") = true
    cases w.params.followText "set-order"
    · exact .inr rfl
    · exact .inl rfl
  room := by show 0 * 5 < 7 * 3; decide
  few := by show 0 ≤ 4500; decide
theorem take_more {α : Type} {l : List α} {i : Nat} {x : α} (h : l[i]? = some x) : l.take (i + 1) = l.take i ++ [x] := by
  rw [List.take_succ, h]
  rfl
/-- the loop that fills it -/
theorem fill_set {I : Addr} {fp wr : List Addr} {G : Array GenState → Array GenState → Prop} {n : Nat} {Pv : Nat → Value → Prop} {Sf : Nat → Shared → Prop} {R : Result → Shared → Prop}
    (Wk : WalksS P w A.in1 I fp wr G n Pv Sf) (S : Addr) (hSf : S ∉ fp) (ks : List (Addr × List Int)) (hn : n = ks.length) (hfew : ks.length ≤ 4500) (hnd : (ks.map (·.2)).Nodup) (hval : ∀ i v, Pv i v → ∃ p, ks[i]? = some p ∧ v = .ref p.1)
    (h0 : Heap) (hk : ∀ p ∈ ks, IsT P w h0 p.2 p.1) (hS0 : h0.get? S = none) (hw0 : ∀ b ∈ wr, h0.get? b = none) (hu : A.in1.units < cLine) :
    ∀ (k i : Nat) (s : Shared), n - i = k → i ≤ n → Sf i s → (∀ b o, h0.get? b = some o → s.heap.get? b = some o) → (∃ L es ep t, SetN P w s.heap S L es ep t ∧ L.Perm (ks.take i)) →
      (∀ s' L es ep t, Moved (S :: wr) G s s' → SetN P w s'.heap S L es ep t → L.Perm ks → (∀ b o, h0.get? b = some o → s'.heap.get? b = some o) → R (.ok (.ret .none)) s') →
      codeAny (model P w) A (.builtin "set.update.loop" ⟨[.ref S, .ref I], []⟩) R s := by
  have hSw : S ∉ wr := fun h => hSf (Wk.sub _ h)
  have hsub : ∀ b ∈ wr, b ∈ S :: wr := fun b hb => List.mem_cons_of_mem _ hb
  have keepM : ∀ {s s' : Shared}, Moved wr G s s' → (∀ b o, h0.get? b = some o → s.heap.get? b = some o) → ∀ b o, h0.get? b = some o → s'.heap.get? b = some o := fun hm hkp b o e =>
    hm.heap b o (fun hb => by rw [hw0 b hb] at e; cases e) (hkp b o e)
  intro k
  induction k with
  | zero =>
    intro i s hk' hi hst hkp ⟨L, es, ep, t, hS, g⟩ hR
    have hin : i = n := by omega
    subst hin
    rw [hn, List.take_length] at g
    refine codeAny_builtin F.entry_set_update_loop ?_
    rw [Around.under_plainId F.plain_set_update_loop _]
    show wpAny _ A.in1 (pyNext (.ref I) >>= _) _ _ s
    refine wpAny_bind (Wk.done s _ _ hst fun s' hm => ?_)
    show wpAny _ A.in1 (ret Value.none) _ _ s'
    have hkp' := keepM hm hkp
    exact wpAny_pure (hR s' L es ep t (hm.mono hsub) (hS.keep (fun o e => hm.heap S o hSw e) fun p hp => isT_keep (hk p (g.mem_iff.mp hp)) hkp') g hkp')
  | succ k ih =>
    intro i s hk' hi hst hkp ⟨L, es, ep, t, hS, g⟩ hR
    have hlt : i < n := by omega
    refine codeAny_builtin F.entry_set_update_loop ?_
    rw [Around.under_plainId F.plain_set_update_loop _]
    show wpAny _ A.in1 (pyNext (.ref I) >>= _) _ _ s
    refine wpAny_bind (Wk.item i s _ _ hlt hst fun v s' hP hst' hm => ?_)
    obtain ⟨p, hp, rfl⟩ := hval i v hP
    have hkp' := keepM hm hkp
    have sub : ∀ p ∈ L, p ∈ ks := fun p hp => List.mem_of_mem_take (g.mem_iff.mp hp)
    have hS' : SetN P w s'.heap S L es ep t := hS.keep (fun o e => hm.heap S o hSw e) fun q hq => isT_keep (hk q (sub q hq)) hkp'
    have hx : IsT P w s'.heap p.2 p.1 := isT_keep (hk p (List.mem_of_getElem? hp)) hkp'
    have hLl : L.length ≤ i := by rw [g.length_eq, List.length_take]; exact Nat.min_le_left _ _
    have hnew : p.2 ∉ L.map (·.2) := fun z => by
      rw [(g.map (·.2)).mem_iff] at z
      have h1 : ks.map (·.2) = (ks.take i).map (·.2) ++ (ks.drop i).map (·.2) := by rw [← List.map_append, List.take_append_drop]
      rw [h1] at hnd
      refine (List.nodup_append.mp hnd).2.2 p.2 z p.2 (List.mem_map.mpr ⟨p, ?_, rfl⟩) rfl
      refine List.mem_of_getElem? (i := 0) ?_
      rw [List.getElem?_drop]
      exact hp
    show wpAny _ A.in1 (holding [Value.ref p.1] (setAdd S (.ref p.1)) >>= _) _ _ s'
    refine wpAny_bind (wpAny_holding ?_)
    unfold setAdd
    refine wpAny_holding ?_
    refine wpAny_bind (wpAny_pyHash_tuple hu hx ?_)
    refine add_new (s := { s' with toks := s'.toks + (p.2.length + 1) }) hS' hx hu hnew (by omega) fun h' L' es' ep' t' hsb hS2 pm => ?_
    have g' : L'.Perm (ks.take (i + 1)) := by
      rw [take_more hp]
      exact pm.trans ((g.cons p).trans (List.perm_append_singleton p (ks.take i)).symm)
    have hkp2 : ∀ b o, h0.get? b = some o → h'.get? b = some o := fun b o e => (hsb.2 b (fun z => by rw [z, hS0] at e; cases e)).trans (hkp' b o e)
    refine wpAny_pure ⟨plainId_quiet F.plain_set_update_loop _, ih (i + 1) _ (by omega) hlt (Wk.frame _ s' _ _ hst' (Nat.le_add_right _ _) fun b hb o e => ?_) hkp2 ⟨L', es', ep', t', hS2, g'⟩ fun s'' L2 es2 ep2 t2 hm'' hS'' g'' hkp'' => ?_⟩
    · rw [hsb.2 b (fun h : b = S => hSf (by rw [← h]; exact hb))]; exact e
    · refine hR s'' L2 es2 ep2 t2 (Moved.trans Wk.gtrans ((hm.mono hsub).then_heap (Nat.le_add_right _ _) fun b o hb e => ?_) hm'') hS'' g'' hkp''
      rw [hsb.2 b (fun h : b = S => hb (by rw [h]; exact List.mem_cons_self))]; exact e
/-- set(xs) -/
theorem call_setN {l : Addr} {items : Array Value} (ks : List (Addr × List Int)) {Q : Value → Shared → Prop} (hh : A.handled = none) (hl : s.heap.IsList l items) (hit : items.toList = ks.map fun p => Value.ref p.1)
    (hk : ∀ p ∈ ks, IsT P w s.heap p.2 p.1) (hfew : ks.length ≤ 4500) (hnd : (ks.map (·.2)).Nodup) (hu : A.units + 3 < cLine)
    (h : ∀ (h' : Heap) (tk : Nat) L es ep t, SetN P w h' s.heap.objs.size L es ep t → L.Perm ks → (∀ b o, s.heap.get? b = some o → h'.get? b = some o) → Q (.ref s.heap.objs.size) { s with heap := h', toks := tk }) :
    wpAny (model P w) A (call (.type "set") [.ref l]) Q E s := by
  have hisz : items.size = ks.length := by
    have q := congrArg List.length hit
    rwa [Array.length_toList, List.length_map] at q
  obtain ⟨c, tl, hmro⟩ := F.called_set.mro
  have hmade := F.called_set.made
  have hsub := F.called_set.sub
  refine wpAny_call (codeAny_of_tree ?_)
  show wpAny _ _ (callAny (.type "set") _) _ _ _
  refine wpAny_pure ⟨Code.quiet_builtin _ (by decide +kernel), codeAny_builtin F.entry_type_call ?_⟩
  rw [Around.under_plain (weight_type_call_type "set" [.ref l] []) rfl]
  have h1 := F.called_set.notType
  have h2 := F.called_set.canCreate
  have hct := F.typeCall_set_1 (.ref l)
  repeat (any_goals (first | assumption | wp_step))
  refine codeAny_mono (code_set_led1 (.ref l) (E := E) (Q₁ := fun obj s₁ => obj = .ref s.heap.objs.size ∧ s₁ = { s with heap := s.heap.push (newSetO w) }) ⟨rfl, rfl⟩) fun r s₁ hr => ?_
  cases r with
  | error e => exact hr
  | ok fl =>
    cases fl with
    | ret obj =>
      obtain ⟨rfl, rfl⟩ := hr
      have hS : (s.heap.push (newSetO w)).get? s.heap.objs.size = some (newSetO w) := Heap.get?_push_size _ rfl
      have hT : Shared.TypeIs { s with heap := s.heap.push (newSetO w) } (.ref s.heap.objs.size) "set" := ⟨_, hS, rfl⟩
      have hli := F.called_set.init.lookup
      have hbi := F.called_set.init.bind (.ref s.heap.objs.size)
      repeat (any_goals (first | assumption | wp_step))
      refine codeAny_mono (codeAny_call_builtin (R := wants (fun r s₂ => r = .none ∧ ∃ h' tk L es ep t, s₂ = { s with heap := h', toks := tk } ∧ SetN P w h' s.heap.objs.size L es ep t ∧ L.Perm ks ∧
          (∀ b o, s.heap.get? b = some o → h'.get? b = some o)) E) F.called_set.init.plain F.entry_set_init (check_set_init_1 hT ?_)) fun r₂ s₂ hr₂ => ?_
      · obtain ⟨ol, hol, hcl, nl, hdl⟩ := hl
        obtain ⟨ocls, odict, odata, oslots⟩ := ol
        simp only at hcl hdl
        subst hcl; subst hdl
        have hol' : (s.heap.push (newSetO w)).get? l = some { cls := .type "list", dict := odict, data := .seq items nl, slots := oslots } := Heap.get?_push_of_some _ hol
        have hsls := F.sub_list_set
        have hslf := F.sub_list_frozenset
        have hne : (Value.type "list" == Value.type "dict") = false := by decide
        have hl1 : (s.heap.push (newSetO w)).IsList l items := ⟨_, hol', rfl, nl, rfl⟩
        unfold Builtin.«set.__init__» noKeywords Builtin.Frozenset.updateFrom
        generalize hPI : pyIter = PI
        wp_walk
        subst hPI
        refine wpAny_pyIter_list hl1 ?_
        refine wpAny_bind (wpAny_runValue ?_)
        have hlS : l < s.heap.objs.size := Heap.lt_size hol
        have hh3 : A.in1.in1.in1.handled = none := by simp [hh]
        have hz1 : (s.heap.push (newSetO w)).objs.size = s.heap.objs.size + 1 := Heap.size_push ..
        have hneI : l ≠ (s.heap.push (newSetO w)).objs.size := by
          rw [hz1]; exact Nat.ne_of_lt (Nat.lt_succ_of_lt hlS)
        have hSf : s.heap.objs.size ∉ [(s.heap.push (newSetO w)).objs.size, l] := by
          rw [hz1]; simp only [List.mem_cons, List.mem_singleton, List.not_mem_nil, or_false, not_or]
          exact ⟨Nat.ne_of_lt (Nat.lt_succ_self _), Nat.ne_of_gt hlS⟩
        have hval : ∀ (i : Nat) (v : Value), items[i]? = some v → ∃ p, ks[i]? = some p ∧ v = .ref p.1 := fun i v hv => by
          have q : items.toList[i]? = some v := by rw [Array.getElem?_toList]; exact hv
          rw [hit, List.getElem?_map] at q
          obtain ⟨p, hq, e⟩ := Option.map_eq_some_iff.mp q
          exact ⟨p, hq, e.symm⟩
        have none_of : ∀ b, s.heap.objs.size ≤ b → s.heap.get? b = none := fun b hb => by
          cases q : s.heap.get? b with
          | none => rfl
          | some o => exact absurd (Nat.lt_of_lt_of_le (Heap.lt_size q) hb) (Nat.lt_irrefl _)
        refine fill_set ((Walks.list hh3 _ l hneI items).toS) s.heap.objs.size
          hSf ks hisz hfew hnd hval s.heap hk (none_of _ (Nat.le_refl _)) (fun b hb => none_of b (by
            rw [List.mem_singleton.mp hb, hz1]
            exact Nat.le_succ _)) hu (items.size - 0) 0 _ (by omega) (Nat.zero_le _)
          ⟨⟨_, Heap.get?_push_size _ rfl, rfl, rfl⟩, (hl1.push _)⟩ (fun b o e => Heap.get?_push_of_some _ (Heap.get?_push_of_some _ e)) ?hS0 ?hR
        case hS0 =>
          have hget : ((s.heap.push (newSetO w)).push { cls := .type "list_iterator", data := .fields #[.ref l, .int 0 0] }).get? s.heap.objs.size = some (newSetO w) := Heap.get?_push_of_some _ hS
          exact ⟨[], #[], 0, _, setN_fresh hget, List.Perm.refl _⟩
        case hR =>
          intro s' L es ep t hm hS' g' hkp
          obtain ⟨h', g2, d', tk', os'⟩ := s'
          have eg : g2 = s.gens := hm.gens
          have ed : d' = s.drawn := hm.drawn
          have eo : os' = s.os := hm.os
          subst eg; subst ed; subst eo
          show wpAny _ _ _ _ _ _
          refine wpAny_pure ?_
          show wpAny _ _ (ret Value.none) _ _ _
          exact wpAny_pure ⟨rfl, h', tk', L, es, ep, t, rfl, hS', g', hkp⟩
      · cases r₂ with
        | error e => exact hr₂
        | ok fl₂ =>
          cases fl₂ with
          | ret r =>
            obtain ⟨rfl, h', tk, L, es, ep, t, rfl, hS', g', hk'⟩ := hr₂
            repeat (any_goals (first | assumption | wp_step))
            exact h _ _ _ _ _ _ hS' g' hk'
          | _ => exact hr₂.elim
    | _ => exact hr.elim
end
end DL
/-! sorted(set(xs)), xs a list of unlike tuples of ints, up to 4500. -/
namespace DL
open PySem L2 PySem.Spec PyProof.Rows PySem.W
/-- the set at a, without the tuples themselves -/
structure SetN0 (P : Program) (w : World) (h : Heap) (a : Addr) (L : List (Addr × List Int)) : Prop where
  ex : ∃ (es : Array (Int × Value)) (ep : Nat) (t : SetTable), (∃ o, h.get? a = some o ∧ o.ExactSet ∧ o.data = .set es ep t) ∧ es.toList = rowsOf P w L ∧ Tb t L.length ∧ MG t.mask ∧ (L.map (·.2)).Nodup ∧ t.plain = true ∧
    (w.params.followText "set-order" = true ∨ t.led = true) ∧ L.length * 5 < t.mask * 3 ∧ L.length ≤ 4500
def SetNO (P : Program) (w : World) (a : Addr) (L : List (Addr × List Int)) : HO := .ext fun h => SetN0 P w h a L
theorem SetN.t0 {P : Program} {w : World} {h : Heap} {a : Addr} {L : List (Addr × List Int)} {es : Array (Int × Value)} {ep : Nat} {t : SetTable} (R : SetN P w h a L es ep t) : SetN0 P w h a L :=
  ⟨es, ep, t, R.ob, R.rows, R.tab, R.mok, R.nd, R.plain, R.led, R.room, R.few⟩
theorem SetN0.full {P : Program} {w : World} {h : Heap} {a : Addr} {L : List (Addr × List Int)} (R : SetN0 P w h a L) (ht : ∀ p ∈ L, IsT P w h p.2 p.1) : ∃ es ep t, SetN P w h a L es ep t := by
  obtain ⟨es, ep, t, h1, h2, h3, h3', h4, h5, h6, h7, h8⟩ := R.ex
  exact ⟨es, ep, t, h1, h2, h3, h3', h4, ht, h5, h6, h7, h8⟩
theorem setNO_new {P : Program} {w : World} {H : Hp} {h : Heap} {a : Addr} {L : List (Addr × List Int)} (R : SetN0 P w h a L) : ObjOk P w H h a (SetNO P w a L) := by
  have ⟨es, ep, t, ⟨o, ho, r⟩, q⟩ := R.ex
  refine ⟨R, ⟨o, ho⟩, fun h1 h2 p k => ?_⟩
  have ⟨es', ep', t', ⟨o', ho', r'⟩, q'⟩ := SetN0.ex p
  exact ⟨es', ep', t', ⟨o', k o' ho', r'⟩, q'⟩
def rSetOfN (K : PySem.W.Frag) (P : Program) (w : World) : List V → Hp → VK → Prop := fun xs H Q => ∃ (l : Addr) (ks : List (Addr × List Int)), xs = [V.ref l] ∧ SqL K H l (ks.map fun p => V.ref p.1) ∧ (∀ p ∈ ks, SqT K H p.1 (p.2.map V.int)) ∧ ks.length ≤ 4500 ∧ (ks.map (·.2)).Nodup ∧
  ∀ a L, H a = none → L.Perm ks → Q (.ref a) (upd H a (SetNO P w a L))
def encT (q : Addr × List Int) : PyData := .tuple (q.2.map .int)
def rSortedN (K : PySem.W.Frag) (P : Program) (w : World) : List V → Hp → VK → Prop := fun vs H Q => ∃ (a : Addr) (L : List (Addr × List Int)), vs = [V.ref a] ∧ H a = some (SetNO P w a L) ∧ (∀ p ∈ L, SqT K H p.1 (p.2.map V.int)) ∧ sortOk (L.map encT) = true ∧
  ∀ (L' : List (Addr × List Int)) (p : Addr), L'.Perm L → H p = none → Q (.ref p) (upd H p (.lst ((L'.mergeSort (dataLe false encT)).map fun q => V.ref q.1)))
theorem sortOk_perm {a b : List D} (h : a.Perm b) (hb : sortOk b = true) : sortOk a = true := by
  unfold sortOk alikeB at *
  simp only [Bool.and_eq_true, Bool.or_eq_true, List.all_eq_true] at *
  obtain ⟨⟨⟨h1, h2⟩, h3⟩, h4⟩ := hb
  refine ⟨⟨⟨fun d hd e he => h1 d (h.mem_iff.mp hd) e (h.mem_iff.mp he), ?_⟩, fun d hd => h3 d (h.mem_iff.mp hd)⟩, by rw [h.length_eq]; exact h4⟩
  rcases h2 with h2 | h2
  · exact .inl fun d hd => h2 d (h.mem_iff.mp hd)
  · exact .inr fun d hd => h2 d (h.mem_iff.mp hd)
theorem perm_map_inv {α β : Type} {f : α → β} {l m : List β} (h : l.Perm m) : ∀ L : List α, m = L.map f → ∃ L' : List α, l = L'.map f ∧ L'.Perm L := by
  induction h with
  | nil => intro L e; exact ⟨[], rfl, by rw [List.map_eq_nil_iff.mp e.symm]⟩
  | cons x _ ih =>
    intro L e
    cases L with
    | nil => cases e
    | cons a L =>
      rw [List.map_cons] at e
      injection e with e1 e2
      obtain ⟨L', e3, p⟩ := ih L e2
      exact ⟨a :: L', by rw [List.map_cons, e1, e3], p.cons a⟩
  | swap x y l =>
    intro L e
    match L, e with
    | a :: b :: L, e =>
      rw [List.map_cons, List.map_cons] at e
      injection e with e1 e2
      injection e2 with e2 e3
      exact ⟨b :: a :: L, by rw [List.map_cons, List.map_cons, e1, e2, e3], List.Perm.swap a b L⟩
  | trans _ _ ih1 ih2 =>
    intro L e
    obtain ⟨L1, e1, p1⟩ := ih2 L e
    obtain ⟨L2, e2, p2⟩ := ih1 L1 e1
    exact ⟨L2, e2, p2.trans p1⟩
theorem each_refs {L : List (Addr × List Int)} : ∀ (L' : List (Addr × List Int)), (∀ q ∈ L', q ∈ L) → EachIs (fun v (q : Addr × List Int) => v = Value.ref q.1 ∧ q ∈ L) (L'.map fun q => Value.ref q.1) L'
  | [], _ => .nil
  | q :: L', h => .cons ⟨rfl, h q List.mem_cons_self⟩ (each_refs L' fun r hr => h r (List.mem_cons_of_mem _ hr))
theorem refs_each {L : List (Addr × List Int)} : ∀ {vs : List Value} {L' : List (Addr × List Int)}, EachIs (fun v (q : Addr × List Int) => v = Value.ref q.1 ∧ q ∈ L) vs L' → vs = L'.map fun q => Value.ref q.1
  | _, _, .nil => rfl
  | _, _, .cons ⟨h, _⟩ t => by rw [h, refs_each t]; rfl
section
variable {P : Program} {w : World} {A : Around} {E : Value → Shared → Prop} {s : Shared} {a : Addr} {L : List (Addr × List Int)} {es : Array (Int × Value)} {ep : Nat} {t : SetTable}
theorem isT_reads {h : Heap} {k : List Int} {b : Addr} (x : IsT P w h k b) : ∃ as, Reads h (.ref b) (.tuple (k.map .int)) as := by
  obtain ⟨o, items, n, ho, hc, hd, hi⟩ := x
  exact ⟨[], reads_tuple_ints (vr := items.toList) ⟨o, ho, hc, n, by simpa using hd⟩ (ints_of_items hi)⟩
/-- the walk over the set -/
theorem iter_setN (R : SetN P w s.heap a L es ep t) {Q : Value → Shared → Prop} (hQ : ∀ s₂ I, SetIt P w s a es s₂ I → Q (.ref I) s₂) : wpAny (model P w) A (pyIter (.ref a)) Q E s := by
  obtain ⟨o, ho, hex, hd⟩ := R.ob
  have hf := R.fits
  have ha : SetAt s.heap a es ep t := ⟨o, ho, hex.1, hd⟩
  have hT : s.TypeIs (.ref a) "set" := ⟨o, ho, hex.1⟩
  have hne : a ≠ s.heap.objs.size := Nat.ne_of_lt (Heap.lt_size ho)
  have np : (!t.plain && decide (es.size > 1)) = false := by rw [R.plain]; rfl
  have old : ∀ {u : Obj} (b : Addr) (o' : Obj), s.heap.get? b = some o' → (s.heap.push u).get? b = some o' := fun _ _ e => Heap.get?_push_of_some _ e
  have two : ∀ b ∈ [s.heap.objs.size, a], b = a ∨ s.heap.objs.size ≤ b := fun b hb => by
    rcases List.mem_cons.mp hb with rfl | hb
    · exact .inr (Nat.le_refl _)
    · exact .inl (List.mem_singleton.mp hb)
  refine wpAny_pyIter_slot hT F.slot_set_iter (wpAny_call_entry F.slot_set_iter hT entry_s_iter ?_ (F.args_set_iter_1 _))
  unfold Builtin.«frozenset.__iter__»
  refine wpAny_bind (m := Builtin.Frozenset.slot0 "__iter__" _) (wpAny_of_eq (a := a) rfl (wpAny_bind (m := Builtin.Frozenset.sizeOf a) ?_))
  unfold Builtin.Frozenset.sizeOf
  refine wpAny_bind (wpAny_setEntries_of ho hd hf (wpAny_pure ?_))
  first | refine wpAny_bind (setDrawn_at ha hf ?_) | refine wpAny_bind (wpAny_bind (setDrawn_at ha hf ?_))
  cases hb : w.params.followText "set-order" with
  | true =>
    refine wp_if_neg (by simp) ?_
    first | refine wpAny_bind (wpAny_pure ?_) | refine wpAny_pure ?_
    refine wpAny_bind (wpAny_setEpoch_of ho hd hf (wpAny_bind (wpAny_newObj_type (wpAny_pure ⟨_, rfl, "set_iterator", _, ⟨_, Heap.get?_push_size _ rfl, rfl⟩, slot_si_next.lookup, ?_⟩))))
    exact hQ _ _ (SetIt.of (fun A' hA => walks_text (P := P) (ep := ep) hA hne hf hb) (by rw [List.length_map, Array.length_toList]) old rfl rfl rfl (Nat.le_refl _) two ((pick_perm (w.params.setOrder a ep) es).map _)
      (fun j v q => by rw [List.getElem?_map, Array.getElem?_toList]; exact q) ⟨⟨_, Heap.get?_push_size _ rfl, rfl, rfl⟩, ha.at (old a)⟩)
  | false =>
    rw [np]
    refine wp_if_neg (by simp) ?_
    first | refine wpAny_bind (wpAny_pure ?_) | refine wpAny_pure ?_
    refine wpAny_bind (wpAny_setEpoch_of ho hd hf (wpAny_bind (wpAny_newObj_type (wpAny_pure ⟨_, rfl, "set_iterator", _, ⟨_, Heap.get?_push_size _ rfl, rfl⟩, slot_si_next.lookup, ?_⟩))))
    exact hQ _ _ (SetIt.of (fun A' hA => walks_led (P := P) (ep := ep) hA hne hf R.tab.ris hb np (R.led.resolve_left (by rw [hb]; decide))) (by rw [List.length_map, Array.length_toList]) old rfl rfl rfl (Nat.le_refl _) two (List.Perm.refl _)
      (fun j v q => by rw [List.getElem?_map, Array.getElem?_toList]; exact q) ⟨⟨_, Heap.get?_push_size _ rfl, rfl, rfl⟩, ha.at (old a)⟩)
/-- its members, gathered -/
theorem collect_setN (R : SetN P w s.heap a L es ep t) (hh : A.handled = none) {Q : List Value → Shared → Prop}
    (hQ : ∀ s' out, (∀ b o, s.heap.get? b = some o → s'.heap.get? b = some o) → s.heap.objs.size ≤ s'.heap.objs.size → s'.gens = s.gens → s'.os = s.os → out.Perm (es.toList.map (·.2)) → Q out s') :
    wpAny (model P w) A (collect (.ref a)) Q E s := by
  obtain ⟨o, ho, hex, hd⟩ := R.ob
  have hS : (s.heap.push (seqObj "list" #[] 0)).get? s.heap.objs.size = some (seqObj "list" #[] 0) := Heap.get?_push_size _ rfl
  have hlt : a < s.heap.objs.size := Heap.lt_size ho
  have hz1 : (s.heap.push (seqObj "list" #[] 0)).objs.size = s.heap.objs.size + 1 := size_push' _ _
  have old : ∀ b o', s.heap.get? b = some o' → (s.heap.push (seqObj "list" #[] 0)).get? b = some o' := fun _ _ e => Heap.get?_push_of_some _ e
  have R1 : SetN P w (s.heap.push (seqObj "list" #[] 0)) a L es ep t := R.keep (fun o' e => old a o' e) fun p hp => isT_keep (R.tup p hp) old
  unfold collect
  refine wpAny_bind (wpAny_runValue (codeAny_builtin F.entry_proto_collect ?_))
  rw [Around.under_plainId F.plain_proto_collect _]
  show wpAny _ A.in1 (newList [] >>= fun l => again (.builtin "list.__iadd__" ⟨[l, .ref a], []⟩)) _ _ s
  refine wpAny_bind (wpAny_newObj_type (wpAny_pure ⟨plainId_quiet F.plain_list_iadd _, codeAny_builtin F.entry_list_iadd ?_⟩))
  rw [Around.under_plainId F.plain_list_iadd _]
  show wpAny _ A.in1 (Builtin.List.listExtendWith (.ref s.heap.objs.size) (.ref a) (.ref s.heap.objs.size)) _ _ { s with heap := s.heap.push (seqObj "list" #[] 0) }
  unfold Builtin.List.listExtendWith
  refine wpAny_bind (wpAny_typeOf (T := "set") ⟨o, old _ _ ho, hex.1⟩ ?_)
  rw [if_neg (by
    have h1 : Builtin.List.listSameRef (.ref s.heap.objs.size) (.ref a) = false := by simp [Builtin.List.listSameRef, Nat.ne_of_gt hlt]
    rw [h1]
    decide)]
  refine wpAny_bind (iter_setN (s := { s with heap := s.heap.push (seqObj "list" #[] 0) }) R1 fun s₂ I hit => ?_)
  obtain ⟨fp, Sx, out, Pv, k2, g2, o2, t2, hI, hfp, hp, hW, hPv, hst⟩ := hit
  have hI' : s.heap.objs.size + 1 ≤ I := by rw [← hz1]; exact hI
  have hSf : s.heap.objs.size ∉ fp := fun hm => by
    rcases hfp _ hm with z | z
    · exact Nat.ne_of_gt hlt z
    · have : s.heap.objs.size + 1 ≤ s.heap.objs.size := by rw [← hz1]; exact z
      omega
  have hT2 : s₂.TypeIs (.ref a) "set" := ⟨o, k2 a o (old _ _ ho), hex.1⟩
  refine wpAny_bind (wpAny_holding ?_)
  unfold Builtin.List.listLengthHint
  refine wpAny_bind (wpAny_specialOf hT2 F.slot_set_len.lookup ?_)
  (generalize hid : ("set.__len__" : String) = id0; (fail_if_success (clear hid id0)); wp_delta; rw [show splitId id0 = some ("set", "__len__") from by subst hid; decide +kernel]; subst hid)
  refine wpAny_bind (wpAny_isInstance (b := true) hT2 sub_set_self ?_)
  show wpAny _ A.in1 (typeOf (.ref a) >>= _) _ _ _
  refine wpAny_bind (wpAny_typeOf hT2 (wpAny_pure ?_))
  show wpAny _ A.in1 (rule "list.extend.makes-room" >>= fun _ => Builtin.List.listTouch (.ref s.heap.objs.size) >>= fun _ => again (.builtin "list.extend.loop" ⟨[.ref s.heap.objs.size, .ref I, .ref s.heap.objs.size], []⟩)) _ _ _
  refine wpAny_bind (wpAny_rule (wpAny_bind ?_))
  show wpAny _ A.in1 (updateSeq s.heap.objs.size (·.push .none) >>= fun _ => updateSeq s.heap.objs.size (·.pop)) _ _ _
  have hS2 := k2 _ _ hS
  have hS3 := Heap.get?_update_self (Obj.mapSeq (·.push Value.none)) hS2 rfl
  have hS4 := Heap.get?_update_self (Obj.mapSeq (·.pop)) hS3 rfl
  refine wpAny_bind (wpAny_updateSeq hS2 rfl (wpAny_updateSeq hS3 rfl ?_))
  have oth : ∀ b u, b ≠ s.heap.objs.size → s₂.heap.get? b = some u → ((s₂.heap.update s.heap.objs.size (Obj.mapSeq (·.push Value.none))).update s.heap.objs.size (Obj.mapSeq (·.pop))).get? b = some u := fun b u hb e => by
    rw [Heap.get?_update_other _ _ (Ne.symm hb), Heap.get?_update_other _ _ (Ne.symm hb)]
    exact e
  have hn : out.length ≤ sizeLine := by
    rw [hp.length_eq, List.length_map, Array.length_toList, R.size, sizeLine_eq]
    have := R.few
    omega
  have W := hW A.in1 hh
  refine wpAny_pure ⟨plainId_quiet F.plain_extend_loop _, codeAny_extend_loopS W.toS hn _ hSf _ out.length 0 _ _ _ rfl (Nat.zero_le _) (W.frame 0 _ _ hst fun b hb u e => oth b u (fun z => hSf (z ▸ hb)) e) hS4 (ItemsOf.nil Pv) fun s' acc' c' hm hS' hacc => ?_⟩
  show wpAny _ A (load s.heap.objs.size >>= _) _ _ s'
  refine wpAny_bind (wpAny_load hS' (wpAny_pure ?_))
  show Q acc'.toList s'
  rw [items_out hacc hPv]
  refine hQ s' out (fun b u e => hm.heap b u (fun z => ?_) (oth b u (Nat.ne_of_lt (Heap.lt_size e)) (k2 b u (old _ _ e)))) (Nat.le_of_lt (Heap.lt_size hS')) (hm.gens.trans g2) (hm.os.trans o2) hp
  have hbl : b < s.heap.objs.size := Heap.lt_size e
  rcases List.mem_cons.mp z with z | z
  · rw [z] at hbl
    exact absurd hbl (by first | exact Nat.lt_irrefl _ | exact Nat.not_lt_of_le (Nat.le_of_succ_le hI'))
  · rw [List.mem_singleton.mp z] at hbl
    exact absurd hbl (by first | exact Nat.lt_irrefl _ | exact Nat.not_lt_of_le (Nat.le_of_succ_le hI'))
theorem sorted_setN (R : SetN P w s.heap a L es ep t) (hh : A.handled = none) (hu : A.units + 16 < cLine) (ok : sortOk (L.map encT) = true) {Q : Value → Shared → Prop}
    (hQ : ∀ s' p (c : Nat) (L' : List (Addr × List Int)), (∀ b o, s.heap.get? b = some o → s'.heap.get? b = some o) → s'.gens = s.gens → s'.os = s.os → s.heap.objs.size ≤ p →
      s'.heap.get? p = some (seqObj "list" ((L'.mergeSort (dataLe false encT)).map fun q => Value.ref q.1).toArray c) → L'.Perm L → Q (.ref p) s') :
    wpAny (model P w) A (call (.builtin "sorted") [.ref a]) Q E s := by
  obtain ⟨o, ho, hex, hd⟩ := R.ob
  have hsz := R.size
  have hfew := R.few
  refine Calls.call_function_entry kind_sorted plain_sorted entry_sorted (args_sorted1 _) ?_
  unfold Builtin.«sorted»
  refine wpAny_bind (m := checkCount "sorted" 1 1 _) (wpAny_pure ?_)
  refine wpAny_bind (collect_setN (A := A.in1) R hh fun s1 vs k1 hz g1 o1 pm => ?_)
  have hes : es.toList.map (·.2) = L.map fun q => Value.ref q.1 := by
    rw [R.rows]
    unfold L2.rowsOf
    rw [List.map_map] <;> rfl
  rw [hes] at pm
  have ord : ∃ L' : List (Addr × List Int), vs = L'.map (fun q => Value.ref q.1) ∧ L'.Perm L := by
    obtain ⟨L', e, p⟩ := perm_map_inv pm L rfl
    exact ⟨L', e, p⟩
  obtain ⟨L', rfl, pL⟩ := ord
  have hLl : L'.length = L.length := pL.length_eq
  have okL : sortOk (L'.map encT) = true := sortOk_perm (pL.map encT) ok
  obtain ⟨hal, hk, hdp, hLn⟩ := sortOk_of okL
  rw [List.map_id] at hal hk
  refine wpAny_bind (wpAny_newList ?_ (by rw [sizeLine_eq, List.length_map]; omega))
  have hat : (s1.heap.push (seqObj "list" (L'.map fun q => Value.ref q.1).toArray 0)).get? s1.heap.objs.size = some (seqObj "list" (L'.map fun q => Value.ref q.1).toArray 0) := Heap.get?_push_size _ rfl
  show wpAny _ _ _ _ _ { s1 with heap := s1.heap.push (seqObj "list" (L'.map fun q => Value.ref q.1).toArray 0) }
  have k2 : ∀ b o, s.heap.get? b = some o → (sortingHeap (s1.heap.push (seqObj "list" (L'.map fun q => Value.ref q.1).toArray 0)) s1.heap.objs.size (L'.map fun q => Value.ref q.1)).get? b = some o := fun b o q =>
    sortingHeap_old (Nat.ne_of_lt (Heap.lt_size (k1 b o q))) (Heap.get?_push_of_some _ (k1 b o q))
  have e0 : EachIs (fun v (q : Addr × List Int) => v = Value.ref q.1 ∧ q ∈ L) (L'.map fun q => Value.ref q.1) L' := each_refs L' fun q hq => pL.mem_iff.mp hq
  have er' : EachIs (fun v q => ∃ as, Reads (sortingHeap (s1.heap.push (seqObj "list" (L'.map fun q => Value.ref q.1).toArray 0)) s1.heap.objs.size (L'.map fun q => Value.ref q.1)) v (encT q) as) (L'.map fun q => Value.ref q.1) L' := e0.mono fun v q ⟨hv, hq⟩ => by
    obtain ⟨as, r⟩ := isT_reads (R.tup q hq)
    rw [hv]
    exact ⟨as, PyProof.Rows.Reads.keeps k2 r⟩
  have S : SortsAt P w A.in1.in1 { s1 with heap := sortingHeap (s1.heap.push (seqObj "list" (L'.map fun q => Value.ref q.1).toArray 0)) s1.heap.objs.size (L'.map fun q => Value.ref q.1) } (dataKind (sortingHeap (s1.heap.push (seqObj "list" (L'.map fun q => Value.ref q.1).toArray 0)) s1.heap.objs.size (L'.map fun q => Value.ref q.1)) (L'.map encT)) (L'.map fun q => Value.ref q.1) :=
    SortsAt.data (s := { s1 with heap := sortingHeap (s1.heap.push (seqObj "list" (L'.map fun q => Value.ref q.1).toArray 0)) s1.heap.objs.size (L'.map fun q => Value.ref q.1) }) (each_map (R := fun v d => ∃ as, Reads (sortingHeap (s1.heap.push (seqObj "list" (L'.map fun q => Value.ref q.1).toArray 0)) s1.heap.objs.size (L'.map fun q => Value.ref q.1)) v d as) encT er') hal hk (fun d hd => by
      have := hdp d hd
      show A.units + 1 + 1 + d.depth < cLine
      omega)
  refine wpAny_bind (wpAny_holding (wpAny_call_entry_kw slot_list_sort ⟨_, hat, rfl⟩ entry_list_sort (list_sort_vals (s := { s1 with heap := s1.heap.push (seqObj "list" (L'.map fun q => Value.ref q.1).toArray 0) }) hat S (by rw [List.length_map]; rw [List.length_map] at hLn; exact hLn) ⟨_, rfl, wpAny_pure ⟨_, rfl, ?_⟩⟩) (args_list_sort _)))
  have ev : sortVals (dataKind (sortingHeap (s1.heap.push (seqObj "list" (L'.map fun q => Value.ref q.1).toArray 0)) s1.heap.objs.size (L'.map fun q => Value.ref q.1)) (L'.map encT)) false (L'.map fun q => Value.ref q.1) (L'.map fun q => Value.ref q.1) = (L'.mergeSort (dataLe false encT)).map fun q => Value.ref q.1 := by
    exact refs_each (sortVals_data false e0 er' hal)
  rw [ev]
  obtain ⟨n, hn⟩ := sortedHeap_at (vs := L'.map fun q => Value.ref q.1) (out := ((L'.mergeSort (dataLe false encT)).map fun q => Value.ref q.1).toArray) hat
  refine hQ _ s1.heap.objs.size n L' (fun b u e => ?_) g1 o1 hz hn pL
  have q := k1 b u e
  show (sortedHeap _ _ _ _).get? b = some u
  rw [sortedHeap_old (Nat.ne_of_lt (Heap.lt_size q)) (Heap.lt_size (Heap.get?_push_of_some _ q))]
  exact Heap.get?_push_of_some _ q
end
section
variable {X : Cx}
theorem cr_setOfN (hc : X.calm = true) (hu : X.A.units + 64 < cLine) : CallR X (.type "set") (rSetOfN X.K X.prog X.w) := by
  intro pins s σ H xs us Q I r h
  obtain ⟨l, ks, rfl, hl, hk, hf, hnd, q⟩ := h
  rw [Vals.ref1 r]
  obtain ⟨its, rv, pl, hz⟩ := I.list hl
  have hn : H s.heap.objs.size = none := I.hok.fresh (Nat.le_refl _)
  refine call_setN (P := X.prog) (w := X.w) ks (I.ok.hd hc) pl.isList (by simpa using refs_of_vals rv) (fun p hp => I.isT (hk p hp)) hf hnd (by omega) fun h' tk L es ep t R g k => ?_
  exact ⟨.ref s.heap.objs.size, upd H s.heap.objs.size (SetNO X.prog X.w s.heap.objs.size L), I.laid (t' := tk) k (Nat.le_refl _) (setNO_new R.t0), rfl, q _ L hn g⟩
theorem cr_sortedN (hc : X.calm = true) (hu : X.A.units + 16 < cLine) : CallR X (.builtin "sorted") (rSortedN X.K X.prog X.w) := by
  intro pins s σ H vs us Q I r h
  obtain ⟨a, L, rfl, ha, hk, ok, q⟩ := h
  have R0 : SetN0 X.prog X.w s.heap a L := (I.hok a _ ha).1
  obtain ⟨es, ep, t, R⟩ := R0.full fun p hp => I.isT (hk p hp)
  rw [Vals.ref1 r]
  refine sorted_setN R (I.ok.hd hc) hu ok fun s' p c L' k g o hp hg pm => ?_
  have hfew : L'.length ≤ 4500 := by rw [pm.length_eq]; exact R.few
  have hlen : ((L'.mergeSort (dataLe false encT)).map fun q => V.ref q.1).length ≤ sizeLine := by rw [List.length_map, List.length_mergeSort, sizeLine_eq]; omega
  have hn : H p = none := I.hok.fresh hp
  have J : Inv X pins σ (upd H p (.lst ((L'.mergeSort (dataLe false encT)).map fun q => V.ref q.1))) { s with heap := s'.heap, gens := s'.gens, drawn := s'.drawn, toks := s'.toks } :=
    I.call (ch := []) (Un.laid k hp hn) (I.hok.laid k hp ⟨hlen, _, c, vals_of_refs _, hg⟩) (by rw [g]; exact I.bare) (fun _ z => nomatch z)
  have e : s' = { s with heap := s'.heap, gens := s'.gens, drawn := s'.drawn, toks := s'.toks } := by
    cases s'
    cases s
    cases o
    rfl
  rw [e]
  exact ⟨.ref p, _, J, rfl, q L' p pm hn⟩
end
/-! ### the order of tuples of ints -/
theorem dataLe_intsT (a b : List Int) : dataLe false id (PyData.tuple (a.map .int)) (PyData.tuple (b.map .int)) = decide (a ≤ b) := by
  rw [dataLe_eq]
  show (!dataLt (PyData.tuple (b.map .int)) (PyData.tuple (a.map .int))) = _
  rw [dataLt_tuple]
  show (!rowLt (b.map .int) (a.map .int)) = _
  rw [dataLt_ints]
  by_cases h : a ≤ b
  · have : ¬ b < a := List.not_lt.mpr h
    simp [h, this]
  · have : b < a := List.not_le.mp h
    simp [h, this]
theorem sortN_eq {L L' : List (Addr × List Int)} (h : L'.Perm L) : ((L'.mergeSort (dataLe false encT)).map encT) = sortD (L.map encT) := by
  have e1 : dataLe false encT = fun p q : Addr × List Int => decide (p.2 ≤ q.2) := by
    funext p q
    exact dataLe_intsT p.2 q.2
  have e2 : ∀ M : List (Addr × List Int), ((M.mergeSort (dataLe false encT)).map (·.2)) = srtT (M.map (·.2)) := fun M => by
    rw [e1]
    unfold srtT
    rw [List.map_mergeSort]
    intro a _ b _
    rfl
  have e3 : ∀ l : List (List Int), sortD (l.map fun z => PyData.tuple (z.map .int)) = (srtT l).map fun z => PyData.tuple (z.map .int) := fun l => by
    unfold sortD srtT
    rw [List.map_mergeSort]
    intro a _ b _
    exact (dataLe_intsT a b).symm
  have e4 : ∀ M : List (Addr × List Int), M.map encT = (M.map (·.2)).map fun z => PyData.tuple (z.map .int) := fun M => by
    rw [List.map_map]
    rfl
  rw [e4, e2, e4, e3]
  have : srtT (L'.map (·.2)) = srtT (L.map (·.2)) := lexP_uniq (((srtT_perm _).trans (h.map _)).trans (srtT_perm _).symm) (srtT_pw _) (srtT_pw _)
  rw [this]
/-! ### the rule -/
theorem intsOf_eq : ∀ {ds : List D} {ns : List Int}, intsOf ds = some ns → ds = ns.map .int
  | [], ns, e => by cases e; rfl
  | d :: r, ns, e => by
    cases d <;> first | (cases e; done) | skip
    rename_i i
    unfold intsOf at e
    cases e2 : intsOf r with
    | none => rw [e2] at e; cases e
    | some ms =>
      rw [e2] at e
      cases e
      rw [intsOf_eq e2]
      rfl
theorem tupsOf_eq : ∀ {ds : List D} {kss : List (List Int)}, tupsOf ds = some kss → ds = kss.map fun z => PyData.tuple (z.map .int)
  | [], kss, e => by cases e; rfl
  | d :: r, kss, e => by
    cases d <;> first | (cases e; done) | skip
    rename_i es
    unfold tupsOf at e
    cases e1 : intsOf es with
    | none => rw [e1] at e; cases e
    | some ns =>
      cases e2 : tupsOf r with
      | none => rw [e1, e2] at e; cases e
      | some nss =>
        rw [e1, e2] at e
        cases e
        rw [tupsOf_eq e2, intsOf_eq e1]
        rfl
def sortedSetN : D → Res D
  | .list ds => match tupsOf ds with
    | some kss => if decide (kss.length ≤ 4500) && decide kss.Nodup && sortOk ds then .ok (.list (sortD ds)) else .stuck
    | none => .stuck
  | _ => .stuck
section
variable {X : Cx} {W : WX} {ρ : Env X.K} {e a : Expr} {r ra : Res D} {pos p p2 q : Pos}
theorem eg_sortedSetN [C : Ctx X W] (ha : EG X W ρ .T a ra) (hm : X.mg "sorted" = none) (hm2 : X.mg "set" = none) (hg : Gl X "sorted" := by rfl) (hg2 : Gl X "set" := by rfl) (na : starEach [a] X.env = (false, eval a X.env) :: starEach [] X.env := by rfl)
    (n2 : starEach [.Call (.Name "set" p2) [a] [] q] X.env = (false, eval (.Call (.Name "set" p2) [a] [] q) X.env) :: starEach [] X.env := by rfl) (hp : (backTo q (starEach [] X.env)).any (·.1) = false := by rfl) (hp2 : (backTo pos (starEach [] X.env)).any (·.1) = false := by rfl) :
    EG X W ρ .O (.Call (.Name "sorted" p) [.Call (.Name "set" p2) [a] [] q] [] pos) (ra.bd sortedSetN) := by
  obtain ⟨ta, a1, a2⟩ := ha
  refine ⟨_, pe_callB (cr_sortedN C.calm (by have := C.hu; omega)) hg hm DL.boot_sorted (pa_cons (pe_callTy (cr_setOfN C.calm (by have := C.hu; omega)) hg2 hm2 PyProof.Rows.boot_set (pa_cons a1 pa_nil na) (by decide) (by decide) na hp) pa_nil n2) (by decide) (by decide) n2 hp2, fun B H0 F H σ Q gd k => a2 B H0 F H σ _ gd (Kn.bd k acc_base fun d x F1 H1 _ e1 s1 q1 k1 => ?_)⟩
  cases d <;> first | exact absurd rfl k1.ns | skip
  rename_i ds _
  obtain ⟨l, xs, rfl, g1, g2⟩ := tp_list q1
  cases e : tupsOf ds with
  | none => exact absurd (by simp only [sortedSetN, e]) k1.ns
  | some kss =>
    cases hl : decide (kss.length ≤ 4500) && decide kss.Nodup && sortOk ds with
    | false => exact absurd (by simp only [sortedSetN, e]; rw [hl]; rfl) k1.ns
    | true =>
      have ed : sortedSetN (.list ds) = .ok (.list (sortD ds)) := by simp only [sortedSetN, e]; rw [hl]; rfl
      rw [Bool.and_eq_true, Bool.and_eq_true, decide_eq_true_eq, decide_eq_true_eq] at hl
      obtain ⟨⟨h1, h2⟩, h3⟩ := hl
      obtain ⟨ks, rfl, k2, k3⟩ := tupsOf_dp e g2
      have hds : ds = ks.map encT := by
        rw [tupsOf_eq e, ← k2, List.map_map]
        rfl
      have hkl : ks.length = kss.length := by rw [← k2, List.length_map]
      refine ⟨l, ks, rfl, g1, fun p hp => Same.tup s1 (k3 p hp), by omega, by rw [k2]; exact h2, fun a L ha pL => ?_⟩
      have hF : ∀ p ∈ L, SqT X.K F1 p.1 (p.2.map V.int) := fun p hp => k3 p (pL.mem_iff.mp hp)
      have s2 : Same F1 (upd H1 a (SetNO X.prog X.w a L)) := Same.updO s1 (Same.free s1 ha)
      refine ⟨a, L, rfl, upd_same, fun p hp => Same.tup s2 (hF p hp), sortOk_perm (pL.map encT) (by rw [← hds]; exact h3), fun L' b pm hb => ?_⟩
      have heq : ((L'.mergeSort (dataLe false encT)).map (·.2)).map (fun z => PyData.tuple (z.map .int)) = sortD ds := by
        rw [hds, ← sortN_eq (pm.trans pL), List.map_map]
        rfl
      have hd := tups_dp (K := X.K) (F := F1) (L'.mergeSort (dataLe false encT)) fun p hp => hF p (pm.mem_iff.mp ((List.mergeSort_perm _ _).mem_iff.mp hp))
      rw [heq] at hd
      exact (k1.of_eq ed).ret ((Ex.newO ha).trans (Ex.newO hb)) (Same.updO s2 (Same.free s2 hb)) (by
        refine ⟨[b], .inl ⟨_, rfl, b, _, rfl, rfl, upd_same, hd⟩, fun c hc => ?_⟩
        rw [List.mem_singleton.mp hc]
        refine ⟨?_, Same.free s2 hb⟩
        exact Same.free (Ex.newO (F := F1) ha).hh hb)
end
end DL
/-! Plain: how the operations on data reckon; loops by an invariant. -/
namespace DL
open PySem L2
@[simp] theorem addV_int (i j : Int) : addV (.int i) (.int j) = .ok (.int (i + j)) := id rfl
@[simp] theorem subV_int (i j : Int) : subV (.int i) (.int j) = .ok (.int (i - j)) := id rfl
@[simp] theorem ltV_int (i j : Int) : ltV (.int i) (.int j) = .ok (.bool (decide (i < j))) := id rfl
@[simp] theorem leV_int (i j : Int) : leV (.int i) (.int j) = .ok (.bool (decide (i ≤ j))) := id rfl
@[simp] theorem gtV_int (i j : Int) : gtV (.int i) (.int j) = .ok (.bool (decide (j < i))) := id rfl
@[simp] theorem geV_int (i j : Int) : geV (.int i) (.int j) = .ok (.bool (decide (j ≤ i))) := id rfl
@[simp] theorem augI_int (g : Int → Int → Int) (i j : Int) : augI g (.int i) (.int j) = .ok (.int (g i j)) := id rfl
@[simp] theorem negV_int (i : Int) : negV (.int i) = .ok (.int (-i)) := id rfl
theorem small_of {i : Int} (h1 : -(2 ^ 64) < i) (h2 : i < 2 ^ 64) : small i = true := decide_eq_true ⟨h1, h2⟩
theorem mulI_l {i : Int} (j : Int) (h : small i = true) : mulI (.int i) (.int j) = .ok (.int (i * j)) := by simp [mulI, h]
theorem mulI_r (i : Int) {j : Int} (h : small j = true) : mulI (.int i) (.int j) = .ok (.int (i * j)) := by simp [mulI, h]
theorem fdivV_int {i j : Int} (h1 : 0 < j) (h2 : j < 1073741824) : fdivV (.int i) (.int j) = .ok (.int (i / j)) := by simp [fdivV, h1, h2]
theorem modV_int {i j : Int} (h1 : 0 < j) : modV (.int i) (.int j) = .ok (.int (i % j)) := by simp [modV, h1]
theorem eqv_int (i j : Int) : PyData.eqv (.int i) (.int j) = decide (i = j) := by simp only [PyData.eqv]; exact Bool.beq_eq_decide_eq _ _
theorem shaped_int (i : Int) : SeqAt.shaped (.int i) = true := by simp [SeqAt.shaped, PyData.canLay0, PyData.depth]
theorem shaped_bool (i : Bool) : SeqAt.shaped (.bool i) = true := by simp [SeqAt.shaped, PyData.canLay0, PyData.depth]
@[simp] theorem eqV_int (i j : Int) : eqV (.int i) (.int j) = .ok (.bool (decide (i = j))) := by simp [eqV, shaped_int, eqv_int]
@[simp] theorem neV_int (i j : Int) : neV (.int i) (.int j) = .ok (.bool (!decide (i = j))) := by simp [neV, shaped_int, eqv_int]
theorem ix_list {xs : List D} {i : Int} {v : D} (h0 : 0 ≤ i) (h : xs[i.toNat]? = some v) : ixV (.list xs) (.int i) = .ok v := by
  have := L2.atI_nat h
  rw [Int.toNat_of_nonneg h0] at this
  simp [ixV, this]
theorem ix_tup {xs : List D} {i : Int} {v : D} (h0 : 0 ≤ i) (h : xs[i.toNat]? = some v) : ixV (.tuple xs) (.int i) = .ok v := by
  have := L2.atI_nat h
  rw [Int.toNat_of_nonneg h0] at this
  simp [ixV, this]
@[simp] theorem lenV_list (xs : List D) : lenV (.list xs) = .ok (.int xs.length) := id rfl
@[simp] theorem lenV_tup (xs : List D) : lenV (.tuple xs) = .ok (.int xs.length) := id rfl
abbrev intL (ns : List Int) : D := .list (ns.map .int)
theorem ix_ints {ns : List Int} {i : Int} (h0 : 0 ≤ i) (h : i < ns.length) : ∃ v, ns[i.toNat]? = some v ∧ ixV (intL ns) (.int i) = .ok (.int v) := by
  have hl : i.toNat < ns.length := by omega
  refine ⟨ns[i.toNat], List.getElem?_eq_getElem hl, ix_list h0 ?_⟩
  rw [List.getElem?_map, List.getElem?_eq_getElem hl]; rfl
@[simp] theorem ifR_ok {α : Type} (b : Bool) (x y : Res α) : ifR (.ok b) x y = if b then x else y := id rfl
@[simp] theorem andR_ok (b : Bool) (y : Res Bool) : andR (.ok b) y = if b then y else .ok false := id rfl
@[simp] theorem orR_ok (b : Bool) (y : Res Bool) : orR (.ok b) y = if b then .ok true else y := id rfl
@[simp] theorem notR_ok (b : Bool) : notR (.ok b) = .ok (!b) := id rfl
@[simp] theorem andV_ok (b : Bool) (y : Res D) : andV (.ok (.bool b)) y = if b then y else .ok (.bool false) := id rfl
@[simp] theorem orV_ok (b : Bool) (y : Res D) : orV (.ok (.bool b)) y = if b then .ok (.bool true) else y := id rfl
@[simp] theorem notV_ok (b : Bool) : notV (.ok (.bool b)) = .ok (.bool !b) := id rfl
theorem lstR_ok {xs : List D} (h : xs.length ≤ 16777216) : lstR xs = .ok (.list xs) := by simp [lstR, fits, h]
theorem tupR_ok {xs : List D} (h : xs.length ≤ 16777216) : tupR xs = .ok (.tuple xs) := by simp [tupR, fits, h]
@[simp] theorem lstR_nil : lstR [] = .ok (.list []) := id rfl
theorem app1_ok {xs : List D} {d : D} (h : xs.length < 16777216) : app1 xs d = .ok (.list (xs ++ [d])) := by simp [app1, h]
theorem in62_of {i : Int} (h0 : -(2 ^ 62) ≤ i) (h : i < 2 ^ 62) : in62 i = true := decide_eq_true ⟨h0, h⟩
theorem range1_ok {n : Int} (h0 : -(2 ^ 62) ≤ n) (h : n < 2 ^ 62) : range1 (.int n) = .ok (rangeL 0 n.toNat) := by simp [range1, in62_of h0 h]
theorem range2_ok {a n : Int} (ha : -(2 ^ 62) ≤ a) (ha' : a < 2 ^ 62) (h0 : -(2 ^ 62) ≤ n) (h : n < 2 ^ 62) : range2 (.int a) (.int n) = .ok (rangeL a (n - a).toNat) := by simp [range2, in62_of h0 h, in62_of ha ha']
theorem rangeL_get {a : Int} {n i : Nat} (h : i < n) : (rangeL a n)[i]? = some (.int (a + i)) := by
  unfold rangeL
  rw [List.getElem?_map, List.getElem?_range h]; rfl
theorem rangeL_len (a : Int) (n : Nat) : (rangeL a n).length = n := by simp [rangeL]
theorem rangeL_succ (a : Int) (n : Nat) : rangeL a (n + 1) = .int a :: rangeL (a + 1) n := by
  unfold rangeL
  rw [List.range_succ_eq_map, List.map_cons, List.map_map]
  simp only [List.cons.injEq, List.map_inj_left]
  exact ⟨by simp, fun x _ => by simp; omega⟩
theorem canLay_ints : ∀ ns : List Int, PyData.canLayAll0 (ns.map .int) = true
  | [] => rfl
  | n :: ns => by simp [PyData.canLayAll0, PyData.canLay0, canLay_ints ns]
theorem depth_ints : ∀ ns : List Int, PyData.depthAll (ns.map .int) = 0
  | [] => rfl
  | n :: ns => by simp [PyData.depthAll, PyData.depth, depth_ints ns]
theorem shaped_intL (ns : List Int) : SeqAt.shaped (intL ns) = true := by simp [SeqAt.shaped, PyData.canLay0, PyData.depth, canLay_ints, depth_ints]
theorem shaped_nil : SeqAt.shaped (.list []) = true := shaped_intL []
theorem shaped_intL' {α : Type} {f : α → Int} (l : List α) : SeqAt.shaped (.list (l.map fun x => PyData.int (f x))) = true := by
  have := shaped_intL (l.map f)
  rwa [show intL (l.map f) = PyData.list (l.map fun x => PyData.int (f x)) by unfold intL; rw [List.map_map]; rfl] at this
/-! ### loops -/
theorem forN_inv {S : Type} {body : D → S → Res S} (I : Nat → S → Prop) : ∀ (ds : List D) (i : Nat) (s : S), I i s → (∀ j d s, ds[j]? = some d → I (i + j) s → ∃ s', body d s = .ok s' ∧ I (i + j + 1) s') → ∃ s', forN body ds s = .ok s' ∧ I (i + ds.length) s'
  | [], i, s, h, _ => ⟨s, rfl, h⟩
  | d :: ds, i, s, h, st => by
    obtain ⟨s1, e, h1⟩ := st 0 d s rfl h
    obtain ⟨s2, e2, h2⟩ := forN_inv I ds (i + 1) s1 h1 fun j d' s' hj hs => by
      have := st (j + 1) d' s' (by simpa using hj) (by rw [show i + (j + 1) = i + 1 + j by omega]; exact hs)
      rw [show i + (j + 1) + 1 = i + 1 + j + 1 by omega] at this
      exact this
    refine ⟨s2, ?_, by rw [List.length_cons, show i + (ds.length + 1) = i + 1 + ds.length by omega]; exact h2⟩
    unfold forN
    rw [e]
    exact e2
theorem forN_range {S : Type} {body : D → S → Res S} (I : Nat → S → Prop) {a : Int} {n : Nat} {s : S} (h : I 0 s) (st : ∀ i s, i < n → I i s → ∃ s', body (.int (a + i)) s = .ok s' ∧ I (i + 1) s') : ∃ s', forN body (rangeL a n) s = .ok s' ∧ I n s' := by
  obtain ⟨s', e, h'⟩ := forN_inv I (rangeL a n) 0 s h fun j d s hj hs => by
    have hlt : j < n := by
      have := (List.getElem?_eq_some_iff.mp hj).1
      rwa [rangeL_len] at this
    rw [rangeL_get hlt] at hj
    cases hj
    rw [Nat.zero_add] at hs ⊢
    exact st j s hlt hs
  rw [rangeL_len, Nat.zero_add] at h'
  exact ⟨s', e, h'⟩
theorem forC_unit {body : D → Unit → Res (Ctl Unit)} : ∀ {ds : List D}, (∀ d ∈ ds, body d () = .ok (.next ())) → forC body ds () = .ok (.next ())
  | [], _ => rfl
  | d :: ds, h => by
    rw [forC_cons, h d (by simp)]
    exact forC_unit fun x hx => h x (by simp [hx])
theorem forN_range_then {S T : Type} {P : Res T → Prop} {body : D → S → Res S} {k : S → Res T} (I : Nat → S → Prop) {a : Int} {n : Nat} {s : S} (h : I 0 s) (st : ∀ i s, i < n → I i s → ∃ s', body (.int (a + i)) s = .ok s' ∧ I (i + 1) s') (hk : ∀ s', I n s' → P (k s')) : P ((forN body (rangeL a n) s).bd k) := by
  obtain ⟨s', e, h'⟩ := forN_range I h st
  rw [e]
  exact hk s' h'
theorem forN_then {S T : Type} {P : Res T → Prop} {body : D → S → Res S} {k : S → Res T} (I : Nat → S → Prop) {ds : List D} {s : S} (h : I 0 s) (st : ∀ j d s, ds[j]? = some d → I j s → ∃ s', body d s = .ok s' ∧ I (j + 1) s') (hk : ∀ s', I ds.length s' → P (k s')) : P ((forN body ds s).bd k) := by
  obtain ⟨s', e, h'⟩ := forN_inv I ds 0 s h fun j d s hj hs => by rw [Nat.zero_add] at hs ⊢; exact st j d s hj hs
  rw [Nat.zero_add] at h'
  rw [e]
  exact hk s' h'
end DL
namespace DL
open PySem L2
abbrev intT (ns : List Int) : D := .tuple (ns.map .int)
@[simp] theorem seqItems_list (xs : List D) : seqItems (.list xs) = .ok xs := id rfl
@[simp] theorem seqItems_tup (xs : List D) : seqItems (.tuple xs) = .ok xs := id rfl
@[simp] theorem enumA_list (xs : List D) : enumA (.list xs) = .ok (enumX xs) := id rfl
@[simp] theorem enumA_tup (xs : List D) : enumA (.tuple xs) = .ok (enumX xs) := id rfl
@[simp] theorem zipAA_list (xs ys : List D) : zipAA (.list xs) (.list ys) = .ok (zipX xs ys) := id rfl
@[simp] theorem zipAA_tup (xs ys : List D) : zipAA (.tuple xs) (.tuple ys) = .ok (zipX xs ys) := id rfl
@[simp] theorem revA_tup (xs : List D) : revA (.tuple xs) = .ok (.tuple xs.reverse) := id rfl
@[simp] theorem revA_list (xs : List D) : revA (.list xs) = .ok (.list xs.reverse) := id rfl
@[simp] theorem tupleV_list (xs : List D) : tupleV (.list xs) = .ok (.tuple xs) := id rfl
@[simp] theorem tupleV_tup (xs : List D) : tupleV (.tuple xs) = .ok (.tuple xs) := id rfl
@[simp] theorem listV_list (xs : List D) : listV (.list xs) = .ok (.list xs) := id rfl
@[simp] theorem listV_tup (xs : List D) : listV (.tuple xs) = .ok (.list xs) := id rfl
@[simp] theorem max2V_int (i j : Int) : max2V (.int i) (.int j) = .ok (.int (if j > i then j else i)) := id rfl
@[simp] theorem min2V_int (i j : Int) : min2V (.int i) (.int j) = .ok (.int (if j < i then j else i)) := id rfl
theorem repV_ints {xs : List Int} {n : Nat} (h : xs.length * n ≤ 16777216) (hn : n < 2 ^ 63) : repV (intL xs) (.int (n : Int)) = .ok (intL (List.replicate n xs).flatten) := by
  unfold repV
  have c : (decide (-(2 ^ 63) ≤ (n : Int) ∧ (n : Int) < 2 ^ 63) && fits ((xs.map PyData.int).length * ((n : Int)).toNat)) = true := by
    rw [List.length_map, Int.toNat_natCast]
    simp only [Bool.and_eq_true, decide_eq_true_eq, fits]
    refine ⟨⟨by omega, by omega⟩, h⟩
  show (if _ then _ else _) = _
  rw [if_pos c]
  simp [List.map_flatten]
theorem repV_zero {v : Int} {n : Nat} (h : n ≤ 16777216) : repV (intL [v]) (.int (n : Int)) = .ok (intL (List.replicate n v)) := by
  rw [repV_ints (by simpa using h) (by omega)]
  congr 2
  induction n with
  | zero => rfl
  | succ n ih => simp only [List.replicate_succ, List.flatten_cons, List.singleton_append, List.map_cons]; rw [ih (by omega)]
theorem zipX_cons (a b : D) (xs ys : List D) : zipX (a :: xs) (b :: ys) = .tuple [a, b] :: zipX xs ys := rfl
theorem enum_get {xs : List Int} {j : Nat} {d : D} (h : (enumX (xs.map .int))[j]? = some d) : ∃ a, xs[j]? = some a ∧ d = .tuple [.int (j : Nat), .int a] := by
  obtain ⟨e, h1, h2⟩ := enumX_get h
  rw [List.getElem?_map] at h1
  cases e2 : xs[j]? with
  | none => rw [e2] at h1; cases h1
  | some a => rw [e2] at h1; cases h1; exact ⟨a, rfl, h2⟩
theorem ints_get {xs : List Int} {j : Nat} {d : D} (h : (xs.map PyData.int)[j]? = some d) : ∃ a, xs[j]? = some a ∧ d = .int a := by
  rw [List.getElem?_map] at h
  cases e2 : xs[j]? with
  | none => rw [e2] at h; cases h
  | some a => rw [e2] at h; cases h; exact ⟨a, rfl, rfl⟩
end DL
/-! Plain: lemmas for reckoning in one step. -/
namespace DL
open PySem L2
theorem mulI_a {i j : Int} (h1 : -18446744073709551616 < i) (h2 : i < 18446744073709551616) : mulI (.int i) (.int j) = .ok (.int (i * j)) := mulI_l j (small_of (by omega) (by omega))
theorem mulI_b {i j : Int} (h1 : -18446744073709551616 < j) (h2 : j < 18446744073709551616) : mulI (.int i) (.int j) = .ok (.int (i * j)) := mulI_r i (small_of (by omega) (by omega))
theorem fdivV_a {i j : Int} (h1 : 0 < j) (h2 : j < 1073741824) : fdivV (.int i) (.int j) = .ok (.int (i / j)) := fdivV_int h1 h2
theorem range1_a {n : Int} (h0 : -4611686018427387904 ≤ n) (h : n < 4611686018427387904) : range1 (.int n) = .ok (rangeL 0 n.toNat) := range1_ok (by omega) (by omega)
theorem range2_a {a n : Int} (ha : -4611686018427387904 ≤ a) (ha' : a < 4611686018427387904) (h0 : -4611686018427387904 ≤ n) (h : n < 4611686018427387904) : range2 (.int a) (.int n) = .ok (rangeL a (n - a).toNat) := range2_ok (by omega) (by omega) (by omega) (by omega)
/-- an item, or 0 -/
def atD (ns : List Int) (i : Int) : Int := (ns[i.toNat]?).getD 0
theorem ix_intsA {ns : List Int} {i : Int} (h0 : 0 ≤ i) (h : i < ns.length) : ixV (.list (ns.map .int)) (.int i) = .ok (.int (atD ns i)) := by
  obtain ⟨v, h1, h2⟩ := ix_ints h0 h
  unfold atD
  rw [h1]; exact h2
theorem ix_intsT {ns : List Int} {i : Int} (h0 : 0 ≤ i) (h : i < ns.length) : ixV (.tuple (ns.map .int)) (.int i) = .ok (.int (atD ns i)) := by
  have hl : i.toNat < ns.length := by omega
  unfold atD
  rw [List.getElem?_eq_getElem hl]
  refine ix_tup h0 ?_
  rw [List.getElem?_map, List.getElem?_eq_getElem hl]; rfl
theorem atD_lo {ns : List Int} (h : ∀ x ∈ ns, 0 ≤ x) (i : Int) : 0 ≤ atD ns i := by
  unfold atD
  cases e : ns[i.toNat]? with
  | none => exact Int.le_refl _
  | some v => exact h v (List.mem_of_getElem? e)
theorem isi_int_int (i : Int) : isiV "int" (.int i) = .ok (.bool true) := id rfl
theorem isi_bool_int (i : Int) : isiV "bool" (.int i) = .ok (.bool false) := id rfl
theorem isi_bool_bool (b : Bool) : isiV "bool" (.bool b) = .ok (.bool true) := id rfl
theorem isi_list_list (xs : List D) : isiV "list" (.list xs) = .ok (.bool true) := id rfl
theorem isi_tup_tup (xs : List D) : isiV "tuple" (.tuple xs) = .ok (.bool true) := id rfl
theorem isNV_int (i : Int) : isNV (.int i) .none = .ok (.bool false) := id rfl
theorem isNV_none : isNV .none .none = .ok (.bool true) := id rfl
theorem isNV_list (xs : List D) : isNV (.list xs) .none = .ok (.bool false) := id rfl
theorem isNV_tup (xs : List D) : isNV (.tuple xs) .none = .ok (.bool false) := id rfl
theorem notNV_int (i : Int) : notNV (.int i) .none = .ok (.bool true) := id rfl
theorem notNV_none : notNV .none .none = .ok (.bool false) := id rfl
theorem notNV_list (xs : List D) : notNV (.list xs) .none = .ok (.bool true) := id rfl
theorem notNV_tup (xs : List D) : notNV (.tuple xs) .none = .ok (.bool true) := id rfl
theorem addV_lst {xs ys : List D} (h : xs.length + ys.length ≤ 16777216) : addV (.list xs) (.list ys) = .ok (.list (xs ++ ys)) := by simp [addV, fits, h]
theorem addV_tup {xs ys : List D} (h : xs.length + ys.length ≤ 16777216) : addV (.tuple xs) (.tuple ys) = .ok (.tuple (xs ++ ys)) := by simp [addV, fits, h]
theorem partV_int (i : Int) : partV (.int i) = .ok (some i) := id rfl
theorem slR_list (ds : List D) (lo hi : Option Int) : slR (.ok (.list ds)) (.ok lo) (.ok hi) = .ok (.list (cutD ds lo hi)) := id rfl
theorem slR_tup (ds : List D) (lo hi : Option Int) : slR (.ok (.tuple ds)) (.ok lo) (.ok hi) = .ok (.tuple (cutD ds lo hi)) := id rfl
theorem setL_a {zs : List D} {k : Int} {v : D} (h0 : 0 ≤ k) (h : k < zs.length) : setL zs (.int k) v = .ok (.list (zs.set k.toNat v)) := by
  unfold setL L2.ixN
  simp [h0, h]
theorem chV_int {g g' : D → D → Res D} {x y : D} {rc : Res D} : chV g g' (.ok x) (.ok y) rc = (g x y).bd fun z => (bl z).bd fun k => if k then rc.bd fun w => g' y w else .ok (.bool false) := id rfl
/-! slices with bounds that are not negative -/
theorem sIx_nn {n : Nat} {d : Nat} {i : Int} (h : 0 ≤ i) : HT.sIx n d (some i) = min i.toNat n := by
  unfold HT.sIx
  simp
  omega
theorem cut_to {ds : List D} {i : Int} (h : 0 ≤ i) : cutD ds none (some i) = ds.take i.toNat := by
  unfold cutD
  rw [sIx_nn h, show HT.sIx ds.length 0 none = 0 from rfl, List.drop_zero, Nat.sub_zero, ← List.take_eq_take_min]
theorem cut_from {ds : List D} {i : Int} (h : 0 ≤ i) : cutD ds (some i) none = ds.drop i.toNat := by
  unfold cutD
  rw [sIx_nn h, show HT.sIx ds.length ds.length none = ds.length from rfl]
  rcases Nat.le_total i.toNat ds.length with l | l
  · rw [Nat.min_eq_left l, List.take_of_length_le (by rw [List.length_drop]; omega)]
  · rw [Nat.min_eq_right l, Nat.sub_self, List.take_zero, List.drop_eq_nil_of_le l]
end DL
/-! Choices; dicts by tuples of ints; sorted tuples of ints. -/
namespace DL
open PySem
/-! ### choices -/
def chs {α : Type} : List α → Nat → List (List α)
  | _, 0 => [[]]
  | [], _ + 1 => []
  | x :: r, n + 1 => (chs r n).map (x :: ·) ++ chs r (n + 1)
theorem chs_nil {α : Type} (n : Nat) : chs ([] : List α) (n + 1) = [] := rfl
theorem chs_cons {α : Type} (x : α) (r : List α) (n : Nat) : chs (x :: r) (n + 1) = (chs r n).map (x :: ·) ++ chs r (n + 1) := rfl
theorem chs_zero {α : Type} (r : List α) : chs r 0 = [[]] := by cases r <;> rfl
theorem mem_chs {α : Type} : ∀ {r : List α} {n : Nat} {c : List α}, c ∈ chs r n ↔ c.Sublist r ∧ c.length = n
  | r, 0, c => by
    rw [chs_zero]
    constructor
    · intro h
      rw [List.mem_singleton.mp h]
      exact ⟨List.nil_sublist _, rfl⟩
    · intro ⟨_, h⟩
      rw [List.length_eq_zero_iff.mp h]
      exact List.mem_singleton.mpr rfl
  | [], n + 1, c => by
    rw [chs_nil]
    constructor
    · intro h; cases h
    · intro ⟨h, h2⟩
      rw [List.sublist_nil.mp h] at h2
      cases h2
  | x :: r, n + 1, c => by
    rw [chs_cons, List.mem_append, List.mem_map]
    constructor
    · rintro (⟨d, h, rfl⟩ | h)
      · obtain ⟨h1, h2⟩ := mem_chs.mp h
        exact ⟨h1.cons_cons x, by simp [h2]⟩
      · obtain ⟨h1, h2⟩ := mem_chs.mp h
        exact ⟨h1.cons x, h2⟩
    · intro ⟨h, h2⟩
      cases h with
      | cons _ h => exact .inr (mem_chs.mpr ⟨h, h2⟩)
      | cons_cons _ h => exact .inl ⟨_, mem_chs.mpr ⟨h, by simpa using h2⟩, rfl⟩
theorem chs_map {α β : Type} (f : α → β) : ∀ (r : List α) (n : Nat), chs (r.map f) n = (chs r n).map (·.map f)
  | r, 0 => by rw [chs_zero, chs_zero]; rfl
  | [], n + 1 => rfl
  | x :: r, n + 1 => by
    rw [List.map_cons, chs_cons, chs_cons, chs_map f r n, chs_map f r (n + 1), List.map_append, List.map_map, List.map_map]
    rfl
theorem chs_len {α : Type} : ∀ (r : List α) (n : Nat), (chs r n).length ≤ 2 ^ r.length
  | r, 0 => by rw [chs_zero]; exact Nat.one_le_two_pow
  | [], n + 1 => Nat.zero_le _
  | x :: r, n + 1 => by
    have h1 := chs_len r n
    have h2 := chs_len r (n + 1)
    rw [chs_cons, List.length_append, List.length_map, List.length_cons, Nat.pow_succ]
    omega
theorem flat_congr {α β : Type} {f g : α → List β} : ∀ {l : List α}, (∀ x ∈ l, f x = g x) → l.flatMap f = l.flatMap g
  | [], _ => rfl
  | x :: l, h => by rw [List.flatMap_cons, List.flatMap_cons, h x (by simp), flat_congr fun y hy => h y (by simp [hy])]
/-- the step of a choice by numbers: one more, behind the last -/
def nxt (a : Nat) (one : List Nat) : Nat := match one.getLast? with | some i => i + 1 | none => a
def ext1 (a b : Nat) (one : List Nat) : List (List Nat) := (List.range' (nxt a one) (b - nxt a one)).map fun i => one ++ [i]
theorem chs_one {α : Type} : ∀ r : List α, chs r 1 = r.map fun x => [x]
  | [] => rfl
  | x :: r => by rw [chs_cons, chs_zero, chs_one r]; rfl
theorem nxt_cons (a c : Nat) (one : List Nat) : nxt c (a :: one) = nxt (a + 1) one := by
  cases one with
  | nil => rfl
  | cons b r =>
    unfold nxt
    rw [List.getLast?_cons_cons]
    cases h : (b :: r).getLast? with
    | some i => rfl
    | none => exact absurd (List.getLast?_eq_none_iff.mp h) (by simp)
theorem chs_step : ∀ (n a : Nat) (k : Nat), chs (List.range' a n) (k + 1) = (chs (List.range' a n) k).flatMap (ext1 a (a + n))
  | n, a, 0 => by
    rw [chs_one, chs_zero]
    simp [ext1, nxt]
  | 0, a, k + 1 => rfl
  | n + 1, a, k + 1 => by
    have ih1 := chs_step n (a + 1) k
    have ih2 := chs_step n (a + 1) (k + 1)
    have e : a + 1 + n = a + (n + 1) := by omega
    rw [e] at ih1 ih2
    rw [List.range'_succ, chs_cons, chs_cons, List.flatMap_append]
    congr 1
    · rw [ih1, List.map_flatMap, List.flatMap_map]
      refine flat_congr fun one _ => ?_
      unfold ext1
      rw [nxt_cons, List.map_map]
      rfl
    · rw [ih2]
      refine flat_congr fun one h => ?_
      have hl := (mem_chs.mp h).2
      have : nxt (a + 1) one = nxt a one := by
        unfold nxt
        cases c : one.getLast? with
        | some i => rfl
        | none => rw [List.getLast?_eq_none_iff.mp c] at hl; cases hl
      unfold ext1
      rw [this]
/-! ### tuples of ints as keys -/
theorem keysOf_ints : ∀ zs : List Int, keysOf (zs.map .int) = some (zs.map .num)
  | [] => rfl
  | z :: zs => by rw [List.map_cons, List.map_cons]; unfold keysOf; rw [keysOf_ints zs]; rfl
theorem depth_nums : ∀ zs : List Int, NestedKey.depthAll (zs.map .num) = 0
  | [] => rfl
  | z :: zs => by rw [List.map_cons]; unfold NestedKey.depthAll; rw [depth_nums zs]; rfl
theorem keyT_intT (zs : List Int) : keyT (intT zs) = some (.tup (zs.map .num)) := by
  unfold keyT
  rw [if_pos (show isTupV (intT zs) = true from rfl)]
  show ((keysOf (zs.map .int)).map NestedKey.tup).filter _ = _
  rw [keysOf_ints]
  have : (NestedKey.tup (zs.map .num)).depth ≤ 8 := by
    show NestedKey.depthAll (zs.map .num) + 1 ≤ 8
    rw [depth_nums]; omega
  simp [this]
theorem num_inj : ∀ {a b : List Int}, a.map NestedKey.num = b.map NestedKey.num → a = b
  | [], [], _ => rfl
  | [], _ :: _, h => by cases h
  | _ :: _, [], h => by cases h
  | x :: a, y :: b, h => by
    rw [List.map_cons, List.map_cons] at h
    injection h with h1 h2
    injection h1 with h1
    rw [h1, num_inj h2]
theorem sameK_ints (a b : List Int) (v : D) : sameK (intT a) (intT b, v) = decide (b = a) := by
  unfold sameK
  rw [keyT_intT, keyT_intT]
  by_cases h : b = a
  · simp [h]
  · simp only [h, decide_false, decide_eq_false_iff_not]
    intro z
    injection z with z
    injection z with z
    exact h (num_inj z)
/-- a dict whose values are told by their keys -/
def dctF (f : List Int → D) (l : List (List Int)) : D := .dict (l.map fun z => (intT z, f z))
def ins {α : Type} [DecidableEq α] (l : List α) (z : α) : List α := if z ∈ l then l else l ++ [z]
theorem mem_ins {α : Type} [DecidableEq α] {l : List α} {z y : α} : y ∈ ins l z ↔ y ∈ l ∨ y = z := by
  unfold ins
  split
  · rename_i h
    constructor
    · exact .inl
    · rintro (h | rfl) <;> assumption
  · simp
theorem nodup_ins {α : Type} [DecidableEq α] {l : List α} {z : α} (h : l.Nodup) : (ins l z).Nodup := by
  unfold ins
  split
  · exact h
  · rename_i hz
    exact List.nodup_append.mpr ⟨h, by simp, fun a ha b hb => by rw [List.mem_singleton.mp hb]; exact fun e => hz (e ▸ ha)⟩
theorem len_ins {α : Type} [DecidableEq α] {l : List α} {z : α} : (ins l z).length ≤ l.length + 1 := by
  unfold ins
  split <;> simp
theorem find_dct (f : List Int → D) (z : List Int) : ∀ l : List (List Int), (l.map fun y => (intT y, f y)).find? (sameK (intT z)) = if z ∈ l then some (intT z, f z) else none
  | [] => rfl
  | y :: l => by
    rw [List.map_cons, List.find?_cons, sameK_ints, find_dct f z l]
    by_cases h : y = z
    · subst h; simp
    · have : ¬ z = y := fun e => h e.symm
      simp [h, this]
theorem getD_dct (f : List Int → D) {l : List (List Int)} {z : List Int} (h : z ∈ l) : getD (dctF f l) (intT z) = .ok (f z) := by
  simp only [getD, dctF, keyT_intT, valD, find_dct, Option.isSome_some, if_true, if_pos h, Option.map_some]
theorem dictKeys_dct (f : List Int → D) (l : List (List Int)) : dictKeys (dctF f l) = .ok (l.map intT) := by
  simp [dictKeys, dctF, List.map_map, Function.comp_def]
/-! ### sorted -/
def lexLe (a b : List Int) : Bool := decide (a ≤ b)
def srt (l : List (List Int)) : List (List Int) := l.mergeSort lexLe
theorem lexLe_trans (a b c : List Int) (h : lexLe a b = true) (h' : lexLe b c = true) : lexLe a c = true := by
  unfold lexLe at *
  simp only [decide_eq_true_eq] at *
  exact List.le_trans h h'
theorem lexLe_total (a b : List Int) : (lexLe a b || lexLe b a) = true := by
  unfold lexLe
  simp only [Bool.or_eq_true, decide_eq_true_eq]
  exact List.le_total a b
theorem srt_perm (l : List (List Int)) : (srt l).Perm l := List.mergeSort_perm _ _
theorem srt_pw (l : List (List Int)) : (srt l).Pairwise (fun a b => lexLe a b = true) := List.pairwise_mergeSort lexLe_trans lexLe_total l
theorem lex_uniq : ∀ {l m : List (List Int)}, l.Perm m → l.Pairwise (fun a b => lexLe a b = true) → m.Pairwise (fun a b => lexLe a b = true) → l = m
  | [], m, h, _, _ => (List.nil_perm.mp h).symm
  | a :: l, [], h, _, _ => by have := h.length_eq; simp at this
  | a :: l, b :: m, h, p, q => by
    have e : a = b := by
      obtain ⟨p1, p2⟩ := List.pairwise_cons.mp p
      obtain ⟨q1, q2⟩ := List.pairwise_cons.mp q
      have ha : a ∈ b :: m := h.mem_iff.mp List.mem_cons_self
      have hb : b ∈ a :: l := h.mem_iff.mpr List.mem_cons_self
      rcases List.mem_cons.mp ha with e | ha
      · exact e
      · rcases List.mem_cons.mp hb with e | hb
        · exact e.symm
        · have h1 := p1 b hb
          have h2 := q1 a ha
          simp only [lexLe, decide_eq_true_eq] at h1 h2
          exact List.le_antisymm h1 h2
    subst e
    rw [lex_uniq h.cons_inv (List.pairwise_cons.mp p).2 (List.pairwise_cons.mp q).2]
theorem mem_srt {l : List (List Int)} {x : List Int} : x ∈ srt l ↔ x ∈ l := (srt_perm l).mem_iff
theorem dataLe_tup (a b : List Int) : W.dataLe false id (intT a) (intT b) = lexLe a b := by
  rw [W.dataLe_eq]
  show (!W.dataLt (intT b) (intT a)) = _
  rw [W.dataLt_tuple]
  show (!W.rowLt (b.map .int) (a.map .int)) = _
  rw [W.dataLt_ints]
  unfold lexLe
  by_cases h : a ≤ b
  · have : ¬ b < a := List.not_lt.mpr h
    simp [h, this]
  · have : b < a := List.not_le.mp h
    simp [h, this]
theorem sortD_tups (l : List (List Int)) : sortD (l.map intT) = (srt l).map intT := by
  unfold sortD srt
  rw [List.map_mergeSort]
  intro a _ b _
  exact (dataLe_tup a b).symm
theorem sortOk_tups {l : List (List Int)} (h : ∀ z ∈ l, z ≠ []) (hl : l.length ≤ 16777216) : sortOk (l.map intT) = true := by
  unfold sortOk
  simp only [Bool.and_eq_true, Bool.or_eq_true]
  refine ⟨⟨⟨?_, .inl ?_⟩, ?_⟩, by simp [fits, hl]⟩
  · refine List.all_eq_true.mpr fun d hd => List.all_eq_true.mpr fun e he => ?_
    obtain ⟨a, _, rfl⟩ := List.mem_map.mp hd
    obtain ⟨b, _, rfl⟩ := List.mem_map.mp he
    exact W.alike_ints a b
  · refine List.all_eq_true.mpr fun d hd => ?_
    obtain ⟨a, ha, rfl⟩ := List.mem_map.mp hd
    cases a with
    | nil => exact absurd rfl (h _ ha)
    | cons x r => rfl
  · refine List.all_eq_true.mpr fun d hd => ?_
    obtain ⟨a, _, rfl⟩ := List.mem_map.mp hd
    have : (intT a).depth = 1 := by
      show PyData.depthAll (a.map .int) + 1 = 1
      rw [DL.depth_ints]
    simp [this]
theorem sorted_tups {l : List (List Int)} (h : ∀ z ∈ l, z ≠ []) (hl : l.length ≤ 16777216) : sortedV (.list (l.map intT)) = .ok (.list ((srt l).map intT)) := by
  show sortR _ = _
  unfold sortR
  rw [sortOk_tups h hl, sortD_tups]
  rfl
theorem eqvAll_tups : ∀ l m : List (List Int), PyData.eqvAll (l.map intT) (m.map intT) = decide (l = m)
  | [], [] => by simp [PyData.eqvAll]
  | [], _ :: _ => by simp [PyData.eqvAll]
  | _ :: _, [] => by simp [PyData.eqvAll]
  | a :: l, b :: m => by
    have he : ∀ x y : List Int, PyData.eqvAll (x.map .int) (y.map .int) = decide (x = y) := fun x => by
      induction x with
      | nil => intro y; cases y <;> simp [PyData.eqvAll]
      | cons c x ih => intro y; cases y <;> simp [PyData.eqvAll, ih, eqv_int]
    rw [List.map_cons, List.map_cons, PyData.eqvAll, eqvAll_tups l m]
    show (PyData.eqv (intT a) (intT b) && _) = _
    rw [show PyData.eqv (intT a) (intT b) = PyData.eqvAll (a.map .int) (b.map .int) from by simp [PyData.eqv], he]
    simp
theorem depth_tups : ∀ l : List (List Int), PyData.depthAll (l.map intT) ≤ 1
  | [] => by show 0 ≤ 1; omega
  | a :: l => by
    rw [List.map_cons, PyData.depthAll]
    refine Nat.max_le.mpr ⟨?_, depth_tups l⟩
    show PyData.depthAll (a.map .int) + 1 ≤ 1
    rw [DL.depth_ints]
    exact Nat.le_refl _
theorem canLay_tups : ∀ l : List (List Int), PyData.canLayAll0 (l.map intT) = true
  | [] => rfl
  | a :: l => by
    rw [List.map_cons, PyData.canLayAll0, canLay_tups l]
    simp [PyData.canLay0, canLay_ints]
theorem shaped_tups (l : List (List Int)) : SeqAt.shaped (.list (l.map intT)) = true := by
  have h1 := canLay_tups l
  have h2 := depth_tups l
  have h3 : PyData.depthAll (l.map intT) + 1 ≤ 64 := Nat.le_trans (Nat.succ_le_succ h2) (by decide)
  show (PyData.canLayAll0 (l.map intT) && decide (PyData.depthAll (l.map intT) + 1 ≤ 64)) = true
  rw [h1, decide_eq_true h3]
  rfl
theorem neV_tups (l m : List (List Int)) : neV (.list (l.map intT)) (.list (m.map intT)) = .ok (.bool (!decide (l = m))) := by
  simp [neV, shaped_tups, PyData.eqv, eqvAll_tups]
end DL
/-! Dicts by keys that are told by data; sorted lists of data that are told so; tuples of tuples of ints. -/
namespace DL
open PySem
section
variable {β : Type} [DecidableEq β]
/-- keys by data -/
structure EncK (enc : β → D) : Prop where
  key : ∀ z, (keyT (enc z)).isSome = true
  inj : ∀ a b, keyT (enc a) = keyT (enc b) → a = b
def dctG (enc : β → D) (f : β → D) (l : List β) : D := .dict (l.map fun z => (enc z, f z))
variable {enc : β → D} (E : EncK enc)
include E
theorem EncK.same (a b : β) (v : D) : sameK (enc a) (enc b, v) = decide (b = a) := by
  unfold sameK
  by_cases h : b = a
  · simp [h]
  · simp only [h, decide_false, decide_eq_false_iff_not]
    exact fun z => h (E.inj _ _ z)
theorem EncK.find (f : β → D) (z : β) : ∀ l : List β, (l.map fun y => (enc y, f y)).find? (sameK (enc z)) = if z ∈ l then some (enc z, f z) else none
  | [] => rfl
  | y :: l => by
    rw [List.map_cons, List.find?_cons, E.same, EncK.find f z l]
    by_cases h : y = z
    · subst h; simp
    · have : ¬ z = y := fun e => h e.symm
      simp [h, this]
theorem EncK.get (f : β → D) {l : List β} {z : β} (h : z ∈ l) : getD (dctG enc f l) (enc z) = .ok (f z) := by
  simp only [getD, dctG, E.key, valD, E.find, if_true, if_pos h, Option.map_some]
theorem EncK.set (f : β → D) {l : List β} (z : β) (hl : l.length < 16777216) : setD (dctG enc f l) (enc z) (f z) = .ok (dctG enc f (ins l z)) := by
  simp only [setD, dctG, E.key, List.length_map, hl, decide_true, Bool.and_true, if_true]
  congr 2
  unfold putD
  rw [E.find]
  by_cases h : z ∈ l
  · rw [if_pos h]
    unfold ins
    rw [if_pos h]
    simp only [Option.isSome_some, if_true, List.map_map]
    refine List.map_congr_left fun y _ => ?_
    simp only [Function.comp]
    rw [E.same]
    by_cases e : y = z
    · simp [e]
    · simp [e]
  · rw [if_neg h]
    unfold ins
    rw [if_neg h]
    simp
omit E
end
/-! ### sorted by an order -/
section
variable {β : Type} [DecidableEq β]
structure EncS (enc : β → D) (le : β → β → Bool) : Prop where
  trans : ∀ a b c, le a b = true → le b c = true → le a c = true
  total : ∀ a b, (le a b || le b a) = true
  anti : ∀ a b, le a b = true → le b a = true → a = b
  data : ∀ a b, W.dataLe false id (enc a) (enc b) = le a b
variable {enc : β → D} {le : β → β → Bool} (S : EncS enc le)
include S
theorem EncS.uniq : ∀ {l m : List β}, l.Perm m → l.Pairwise (fun a b => le a b = true) → m.Pairwise (fun a b => le a b = true) → l = m
  | [], m, h, _, _ => (List.nil_perm.mp h).symm
  | a :: l, [], h, _, _ => by have := h.length_eq; simp at this
  | a :: l, b :: m, h, p, q => by
    have e : a = b := by
      obtain ⟨p1, p2⟩ := List.pairwise_cons.mp p
      obtain ⟨q1, q2⟩ := List.pairwise_cons.mp q
      have ha : a ∈ b :: m := h.mem_iff.mp List.mem_cons_self
      have hb : b ∈ a :: l := h.mem_iff.mpr List.mem_cons_self
      rcases List.mem_cons.mp ha with e | ha
      · exact e
      · rcases List.mem_cons.mp hb with e | hb
        · exact e.symm
        · exact S.anti a b (p1 b hb) (q1 a ha)
    subst e
    rw [EncS.uniq h.cons_inv (List.pairwise_cons.mp p).2 (List.pairwise_cons.mp q).2]
theorem EncS.pw (l : List β) : (l.mergeSort le).Pairwise (fun a b => le a b = true) := List.pairwise_mergeSort S.trans S.total l
theorem EncS.eq {l m : List β} (h : l.Perm m) : l.mergeSort le = m.mergeSort le := S.uniq (((List.mergeSort_perm l le).trans h).trans (List.mergeSort_perm m le).symm) (S.pw l) (S.pw m)
end
/-! ### tuples of tuples of ints -/
end DL
namespace SC
open PySem DL
noncomputable def m_law_cell (script k : D) : Res D :=
  (ifR ((bd2 (Res.ok k) ((Res.ok script).bd lenV) ltV).bd bl) (bd2 (Res.ok script) (Res.ok k) ixV) (ifR ((bd2 ((Res.ok script).bd lenV) (Res.ok (PyData.int 0)) eqV).bd bl) (bd2 (bd2 (Res.ok (PyData.int 7919)) (Res.ok k) mulI) (Res.ok (PyData.int 101)) addV) (bd2 (bd2 (bd2 (Res.ok script) (bd2 (Res.ok k) ((Res.ok script).bd lenV) modV) ixV) (Res.ok (PyData.int 1000003)) modV) (bd2 (Res.ok (PyData.int 7919)) (Res.ok k) mulI) addV)))
noncomputable def m_law_draws (script k many base : D) : Res D :=
  (((consR (Res.ok (PyData.int 2147483647)) (consR (Res.ok (PyData.int 2147483629)) (consR (Res.ok (PyData.int 2147483587)) (consR (Res.ok (PyData.int 2147483579)) (consR (Res.ok (PyData.int 2147483563)) (consR (Res.ok (PyData.int 2147483549)) (consR (Res.ok (PyData.int 2147483543)) (consR (Res.ok (PyData.int 2147483497)) (Res.ok ([] : List D)))))))))).bd tupR).bd fun primes => (((consR (Res.ok script) (consR (Res.ok k) (Res.ok ([] : List D)))).bd (ap2 m_law_cell)).bd fun cell => ((Res.ok (PyData.int 0)).bd fun rest => ((ifR ((bd2 (Res.ok cell) (bd2 (Res.ok (PyData.int 10)) (Res.ok (PyData.int 18)) powV) geV).bd bl) ((Res.ok cell).bd fun rest_1 => (Res.ok rest_1)) (Res.ok rest)).bd fun s_ => (((Res.ok ([] : List D)).bd lstR).bd fun row => ((((Res.ok many).bd range1).bd fun ds => forN (fun j (s__1 : D × D) => ((bd2 (bd2 (Res.ok cell) (bd2 (Res.ok primes) (bd2 (Res.ok j) (Res.ok (PyData.int 8)) modV) ixV) modV) (bd2 (Res.ok (PyData.int 48271)) (bd2 (bd2 (Res.ok (PyData.int 2)) (Res.ok j) mulI) (Res.ok j) mulI) addV) mulI).bd fun mash => ((bd2 (bd2 (Res.ok mash) (bd2 (bd2 (Res.ok (PyData.int 7919)) (bd2 (Res.ok j) (Res.ok (PyData.int 1)) addV) mulI) (bd2 (Res.ok j) (Res.ok (PyData.int 1)) addV) mulI) addV) (bd2 (Res.ok (PyData.int 104729)) (Res.ok k) mulI) addV).bd fun mash_1 => ((bd2 (Res.ok mash_1) (bd2 (Res.ok primes) (bd2 (bd2 (bd2 (Res.ok (PyData.int 3)) (Res.ok j) mulI) (Res.ok k) addV) (Res.ok (PyData.int 8)) modV) ixV) modV).bd fun mash_2 => ((bd2 (bd2 (bd2 (Res.ok mash_2) (Res.ok mash_2) mulI) (Res.ok mash_2) mulI) (bd2 (Res.ok primes) (bd2 (bd2 (Res.ok j) (Res.ok (PyData.int 5)) addV) (Res.ok (PyData.int 8)) modV) ixV) modV).bd fun mash_3 => ((ifR ((bd2 (Res.ok s__1.2) (Res.ok (PyData.int 0)) gtV).bd bl) ((Res.ok s__1.2).bd fun mash_4 => (Res.ok mash_4)) (Res.ok mash_3)).bd fun s__2 => ((onL s__1.1 fun ds => (bd2 (Res.ok s__2) (Res.ok base) modV).bd fun d => app1 ds d).bd fun row_1 => ((bd2 (Res.ok s__1.2) (Res.ok base) fdivV).bd fun rest_2 => (Res.ok (row_1, rest_2)))))))))) ds (row, s_)).bd fun s__3 => (Res.ok s__3.1)))))))
noncomputable def m_law_code (script at_ most_k most_n : D) : Res D :=
  (((consR (Res.ok script) (consR (Res.ok at_) (consR (Res.ok (PyData.int 20)) (consR (Res.ok (PyData.int 27720)) (Res.ok ([] : List D)))))).bd (ap4 m_law_draws)).bd fun plan => (((consR (Res.ok (PyData.int 5)) (consR (Res.ok (PyData.int 7)) (consR (Res.ok (PyData.int 11)) (consR (Res.ok (PyData.int 13)) (consR (Res.ok (PyData.int 17)) (consR (Res.ok (PyData.int 19)) (consR (Res.ok (PyData.int 23)) (consR (Res.ok (PyData.int 29)) (consR (Res.ok (PyData.int 31)) (consR (Res.ok (PyData.int 37)) (consR (Res.ok (PyData.int 41)) (consR (Res.ok (PyData.int 43)) (consR (Res.ok (PyData.int 47)) (consR (Res.ok (PyData.int 53)) (consR (Res.ok (PyData.int 59)) (consR (Res.ok (PyData.int 61)) (consR (Res.ok (PyData.int 67)) (consR (Res.ok (PyData.int 71)) (consR (Res.ok (PyData.int 73)) (consR (Res.ok (PyData.int 79)) (consR (Res.ok (PyData.int 83)) (consR (Res.ok (PyData.int 89)) (consR (Res.ok (PyData.int 97)) (Res.ok ([] : List D))))))))))))))))))))))))).bd lstR).bd fun primes => ((bd2 ((consR (bd2 (Res.ok primes) (bd2 (bd2 (Res.ok plan) (Res.ok (PyData.int 0)) ixV) (Res.ok (PyData.int 23)) modV) ixV) (consR (bd2 (Res.ok primes) (bd2 (bd2 (Res.ok plan) (Res.ok (PyData.int 0)) ixV) (Res.ok (PyData.int 3)) modV) ixV) (Res.ok ([] : List D)))).bd lstR) (bd2 (bd2 (Res.ok plan) (Res.ok (PyData.int 1)) ixV) (Res.ok (PyData.int 2)) modV) ixV).bd fun p => ((bd2 (Res.ok (PyData.int 1)) (bd2 (bd2 (Res.ok plan) (Res.ok (PyData.int 2)) ixV) (bd2 (Res.ok most_k) (Res.ok p) min2V) modV) addV).bd fun k => ((bd2 (Res.ok k) (bd2 (bd2 (Res.ok plan) (Res.ok (PyData.int 3)) ixV) (bd2 (bd2 (bd2 (Res.ok most_n) (Res.ok p) min2V) (Res.ok k) subV) (Res.ok (PyData.int 1)) addV) modV) addV).bd fun many => ((listRange1 (Res.ok p)).bd fun left => ((Res.ok p).bd fun xa => (Res.ok k).bd fun xb => ((Res.ok many).bd range1).bd fun ds => onL left fun xcur => (popsR (fun j xcur => (bd2 (bd2 (Res.ok plan) (bd2 (Res.ok (PyData.int 4)) (Res.ok j) addV) ixV) ((Res.ok (.list xcur)).bd lenV) modV)) ds xcur).bd fun ys => (tupR ys).bd fun xt => .ok (.tuple [xa, xb, xt]))))))))
noncomputable def m_law_due (code t : D) : Res D :=
  (((Res.ok code).bd fun d => un3 d fun a b c => .ok (a, b, c)).bd fun s_ => (((consR (Res.ok (PyData.int 1)) (Res.ok ([] : List D))).bd lstR).bd fun row => (((((Res.ok s_.2.2).bd lenV).bd range1).bd fun ds => forN (fun step (s__1 : D) => (((bd2 (bd2 ((consR (Res.ok (PyData.int 0)) (Res.ok ([] : List D))).bd lstR) (Res.ok s__1) addV) (bd2 (Res.ok s__1) ((consR (Res.ok (PyData.int 0)) (Res.ok ([] : List D))).bd lstR) addV) zipAA).bd fun ds => (lcR (fun d => un2 d fun one other => (Res.ok true)) (fun d => un2 d fun one other => (bd2 (Res.ok one) (Res.ok other) addV)) ds).bd lstR).bd fun row_1 => (Res.ok row_1))) ds row).bd fun s__2 => ((bd2 (Res.ok s__2) (Res.ok t) ixV).bd fun found => ((Res.ok (PyData.int 1)).bd fun by_ => ((((bd2 (Res.ok t) (Res.ok s_.2.1) subV).bd range1).bd fun ds => forN (fun step_1 (s__3 : D) => ((bd2 (Res.ok s__3) (Res.ok s_.1) mulI).bd fun by__1 => (Res.ok by__1))) ds by_).bd fun s__4 => (bd2 (bd2 (Res.ok found) (Res.ok s__4) fdivW) ((bd2 (bd2 (Res.ok found) (Res.ok s__4) modV) (Res.ok (PyData.int 0)) gtV).bd intV) addV)))))))
noncomputable def m_choose (many few : D) : Res D :=
  ((Res.ok (PyData.int 1)).bd fun found => ((((Res.ok few).bd range1).bd fun ds => forN (fun k (s_ : D) => ((bd2 (bd2 (Res.ok s_) (bd2 (Res.ok many) (Res.ok k) subV) mulI) (bd2 (Res.ok k) (Res.ok (PyData.int 1)) addV) fdivV).bd fun found_1 => (Res.ok found_1))) ds found).bd fun s__1 => (Res.ok s__1)))
noncomputable def m_due_of (code t : D) : Res D :=
  (((Res.ok code).bd fun d => un3 d fun a b c => .ok (a, b, c)).bd fun s_ => (ifR (orR ((bd2 (Res.ok t) (Res.ok s_.2.1) ltV).bd bl) ((bd2 (Res.ok t) ((Res.ok s_.2.2).bd lenV) gtV).bd bl)) (Res.exc "TooFew") ((Res.ok (PyData.int 1)).bd fun by_ => ((((bd2 (Res.ok t) (Res.ok s_.2.1) subV).bd range1).bd fun ds => forN (fun step (s__1 : D) => ((bd2 (Res.ok s__1) (Res.ok s_.1) mulI).bd fun by__1 => (Res.ok by__1))) ds by_).bd fun s__2 => (bd2 (bd2 (bd2 ((consR ((Res.ok s_.2.2).bd lenV) (consR (Res.ok t) (Res.ok ([] : List D)))).bd (ap2 m_choose)) (Res.ok s__2) addV) (Res.ok (PyData.int 1)) subV) (Res.ok s__2) fdivW)))))
noncomputable def m_choices (some_ many : D) : Res D :=
  (((consR ((Res.ok ([] : List D)).bd lstR) (Res.ok ([] : List D))).bd lstR).bd fun found => ((((Res.ok many).bd range1).bd fun ds => forN (fun k (s_ : D) => (((Res.ok ([] : List D)).bd lstR).bd fun longer => ((((Res.ok s_).bd seqItems).bd fun ds => forN (fun one (s__1 : D) => ((Res.ok (PyData.int 0)).bd fun first => ((ifR ((bd2 (Res.ok one) ((Res.ok ([] : List D)).bd lstR) neV).bd bl) ((bd2 (bd2 (Res.ok one) ((Res.ok (PyData.int 1)).bd negV) ixV) (Res.ok (PyData.int 1)) addV).bd fun first_1 => (Res.ok first_1)) (Res.ok first)).bd fun s__2 => ((onL s__1 fun ds => ((bd2 (Res.ok s__2) ((Res.ok some_).bd lenV) range2).bd fun ds => (lcR (fun at_ => (Res.ok true)) (fun at_ => (bd2 (Res.ok one) ((consR (Res.ok at_) (Res.ok ([] : List D))).bd lstR) addV)) ds).bd lstR).bd fun d => extL ds d).bd fun longer_1 => (Res.ok longer_1))))) ds longer).bd fun s__3 => ((Res.ok s__3).bd fun found_1 => (Res.ok found_1))))) ds found).bd fun s__4 => (((Res.ok s__4).bd seqItems).bd fun ds => (lcR (fun one_1 => (Res.ok true)) (fun one_1 => (((Res.ok one_1).bd seqItems).bd fun ds => (lcR (fun at__1 => (Res.ok true)) (fun at__1 => (bd2 (Res.ok some_) (Res.ok at__1) ixV)) ds).bd lstR)) ds).bd lstR)))
noncomputable def m_value_at (p polynomial x : D) : Res D :=
  ((Res.ok (PyData.int 0)).bd fun found => (((((Res.ok polynomial).bd revA).bd seqItems).bd fun ds => forN (fun number (s_ : D) => ((bd2 (bd2 (bd2 (Res.ok s_) (Res.ok x) mulI) (Res.ok number) addV) (Res.ok p) modV).bd fun found_1 => (Res.ok found_1))) ds found).bd fun s__1 => (Res.ok s__1)))
noncomputable def m_times (p one other : D) : Res D :=
  ((bd2 ((consR (Res.ok (PyData.int 0)) (Res.ok ([] : List D))).bd lstR) (bd2 (bd2 ((Res.ok one).bd lenV) ((Res.ok other).bd lenV) addV) (Res.ok (PyData.int 1)) subV) repV).bd fun found => ((((Res.ok one).bd enumA).bd fun ds => forN (fun d (s_ : D) => un2 d fun k a => ((((Res.ok other).bd enumA).bd fun ds => forN (fun d (s__1 : D) => un2 d fun j b => ((onL s__1 fun ds => (bd2 (bd2 (bd2 (Res.ok s__1) (bd2 (Res.ok k) (Res.ok j) addV) ixV) (bd2 (Res.ok a) (Res.ok b) mulI) addV) (Res.ok p) modV).bd fun v => (bd2 (Res.ok k) (Res.ok j) addV).bd fun k => setL ds k v).bd fun found_1 => (Res.ok found_1))) ds s_).bd fun s__2 => (Res.ok s__2))) ds found).bd fun s__3 => ((Res.ok s__3).bd tupleV)))
noncomputable def m_many_near (code t : D) : Res D :=
  (((consR (Res.ok code) (consR (Res.ok t) (Res.ok ([] : List D)))).bd (ap2 m_due_of)).bd fun _ => (((Res.ok code).bd fun d => un3 d fun a b c => .ok (a, b, c)).bd fun s_ => ((Res.ok (PyData.dict [])).bd fun groups => (((((consR ((Res.ok s_.2.2).bd listV) (consR (Res.ok t) (Res.ok ([] : List D)))).bd (ap2 m_choices)).bd seqItems).bd fun ds => forN (fun choice (s__1 : D) => (((consR (Res.ok (PyData.int 1)) (Res.ok ([] : List D))).bd tupR).bd fun product => ((((Res.ok choice).bd seqItems).bd fun ds => forN (fun x (s__2 : D) => (((consR (Res.ok s_.1) (consR (Res.ok s__2) (consR ((consR (bd2 (Res.ok (PyData.int 0)) (Res.ok x) subV) (consR (Res.ok (PyData.int 1)) (Res.ok ([] : List D)))).bd tupR) (Res.ok ([] : List D))))).bd (ap3 m_times)).bd fun product_1 => (Res.ok product_1))) ds product).bd fun s__3 => (((((Res.ok s__3).bd seqItems).bd fun ds => (lcR (fun number => (Res.ok true)) (fun number => (bd2 (Res.ok number) (Res.ok s_.1) modV)) ds).bd lstR).bd tupleV).bd fun product_2 => (((slR (Res.ok product_2) ((Res.ok s_.2.1).bd partV) (Res.ok Option.none)).bd fun e => (slotG s__1 e).bd fun d1 => (slR (Res.ok product_2) (Res.ok Option.none) ((Res.ok s_.2.1).bd partV)).bd fun v => appG d1 e v).bd fun groups_1 => (Res.ok groups_1)))))) ds groups).bd fun s__4 => ((bd2 (((dictKeys s__4).bd fun ds => (lcR (fun one => (Res.ok true)) (fun one => ((consR (((Res.ok one).bd fun e => getD s__4 e).bd lenV) (consR (Res.ok one) (Res.ok ([] : List D)))).bd tupR)) ds).bd lstR).bd maxTV) (Res.ok (PyData.int 1)) ixV).bd fun top => ((((Res.ok s_.2.2).bd seqItems).bd fun ds => (lcR (fun x_1 => (Res.ok true)) (fun x_1 => ((consR (Res.ok s_.1) (consR (bd2 (bd2 ((consR (Res.ok (PyData.int 0)) (Res.ok ([] : List D))).bd tupR) (Res.ok s_.2.1) repT) ((((Res.ok top).bd seqItems).bd fun ds => (lcR (fun number_1 => (Res.ok true)) (fun number_1 => (bd2 (Res.ok (PyData.int 0)) (Res.ok number_1) subV)) ds).bd lstR).bd tupleV) addV) (consR (Res.ok x_1) (Res.ok ([] : List D))))).bd (ap3 m_value_at))) ds).bd lstR).bd fun row => ((consR (Res.ok row) (consR (((Res.ok top).bd fun e => getD s__4 e).bd sortedV) (Res.ok ([] : List D)))).bd tupR)))))))
noncomputable def m_law_word (n : Str) : Res D :=
  (((consR (Res.ok (PyData.bool (decide (n = "TooFew")))) (consR (Res.ok (PyData.bool (decide (n = "NoCurve")))) (consR (Res.ok (PyData.bool (decide (n = "NoPaper")))) (consR (Res.ok (PyData.bool (decide (n = "NoPlace")))) (Res.ok ([] : List D)))))).bd lstR).bd fun kinds => ((bd2 (Res.ok kinds) ((consR (Res.ok (PyData.bool (decide (n = "NoNumber")))) (consR (Res.ok (PyData.bool (decide (n = "Heard")))) (consR (Res.ok (PyData.bool (decide (n = "NotHeard")))) (Res.ok ([] : List D))))).bd lstR) addV).bd fun kinds_1 => ((bd2 (Res.ok kinds_1) ((consR (Res.ok (PyData.bool (decide (n = "NothingLeft")))) (consR (Res.ok (PyData.bool (decide (n = "NoText")))) (consR (Res.ok (PyData.bool (decide (n = "NoRow")))) (Res.ok ([] : List D))))).bd lstR) addV).bd fun kinds_2 => (ifR (orR ((bd2 ((Res.ok kinds_2).bd fun d => onL d fun ds => (Res.ok (PyData.bool true)).bd fun e => countL ds e) (Res.ok (PyData.int 1)) neV).bd bl) (notR ((Res.ok (PyData.bool true)).bd bl))) (Res.ok (PyData.str "other")) (((consR (Res.ok (PyData.str "few")) (consR (Res.ok (PyData.str "curve")) (consR (Res.ok (PyData.str "paper")) (consR (Res.ok (PyData.str "place")) (consR (Res.ok (PyData.str "number")) (consR (Res.ok (PyData.str "heard")) (consR (Res.ok (PyData.str "not heard")) (consR (Res.ok (PyData.str "nothing")) (consR (Res.ok (PyData.str "text")) (consR (Res.ok (PyData.str "row")) (Res.ok ([] : List D)))))))))))).bd lstR).bd fun words => (bd2 (Res.ok words) ((Res.ok kinds_2).bd fun d => onL d fun ds => (Res.ok (PyData.bool true)).bd fun e => indexL ds e) ixV))))))
theorem m_word_ok (n w : Str) (h : wordOf n = some w) : m_law_word n = .ok (.str w) := by
  have := word_mem h
  simp only [slips, List.mem_cons, Prod.mk.injEq, List.not_mem_nil, or_false] at this
  rcases this with ⟨rfl, rfl⟩ | ⟨rfl, rfl⟩ | ⟨rfl, rfl⟩ | ⟨rfl, rfl⟩ | ⟨rfl, rfl⟩ | ⟨rfl, rfl⟩ | ⟨rfl, rfl⟩ | ⟨rfl, rfl⟩ | ⟨rfl, rfl⟩ | ⟨rfl, rfl⟩ <;> rfl
noncomputable def m_law_told (way code t : D) : Res D :=
  ((Res.ok PyData.none).bd fun found => ((wordR (ifR ((bd2 (Res.ok way) (Res.ok (PyData.int 0)) eqV).bd bl) ((consR (Res.ok code) (consR (Res.ok t) (Res.ok ([] : List D)))).bd (ap2 m_due_of)) ((consR (Res.ok code) (consR (Res.ok t) (Res.ok ([] : List D)))).bd (ap2 m_many_near)))).bd fun found_1 => (Res.ok found_1)))
noncomputable def m_law_whole (found : D) : Res D :=
  (andV ((Res.ok found).bd (isiV "int")) (notV ((Res.ok found).bd (isiV "bool"))))
noncomputable def m_law_value (p polynomial x : D) : Res D :=
  ((Res.ok (PyData.int 0)).bd fun total => ((Res.ok (PyData.int 1)).bd fun power => ((((Res.ok polynomial).bd seqItems).bd fun ds => forN (fun number (s_ : D × D) => ((bd2 (bd2 (Res.ok s_.1) (bd2 (Res.ok number) (Res.ok s_.2) mulI) addV) (Res.ok p) modV).bd fun total_1 => ((bd2 (bd2 (Res.ok s_.2) (Res.ok x) mulI) (Res.ok p) modV).bd fun power_1 => (Res.ok (total_1, power_1))))) ds (total, power)).bd fun s__1 => (Res.ok s__1.1))))
noncomputable def m_law_fits (code row polynomial : D) : Res D :=
  ((bd2 (Res.ok code) (Res.ok (PyData.int 2)) ixV).bd fun places => (((((Res.ok row).bd lenV).bd range1).bd fun ds => (lcR (fun number => ((bd2 (bd2 (Res.ok row) (Res.ok number) ixV) (Res.ok PyData.none) notNV).bd bl)) (fun number => (Res.ok number)) ds).bd lstR).bd fun some_ => (((Res.ok some_).bd seqItems).bd fun ds => (lcR (fun number_1 => ((bd2 ((consR (bd2 (Res.ok code) (Res.ok (PyData.int 0)) ixV) (consR (Res.ok polynomial) (consR (bd2 (Res.ok places) (Res.ok number_1) ixV) (Res.ok ([] : List D))))).bd (ap3 m_law_value)) (bd2 (Res.ok row) (Res.ok number_1) ixV) eqV).bd bl)) (fun number_1 => (Res.ok number_1)) ds).bd lstR)))
noncomputable def m_law (script : D) : Res D :=
  ((((Res.ok (PyData.int 2)).bd range1).bd fun ds => forC (fun at_ (s_ : Unit) => (((consR (Res.ok script) (consR (bd2 (Res.ok (PyData.int 2)) (Res.ok at_) mulI) (consR (Res.ok (PyData.int 5)) (consR (bd2 ((consR (Res.ok (PyData.int 16)) (consR (Res.ok (PyData.int 10)) (Res.ok ([] : List D)))).bd lstR) (Res.ok at_) ixV) (Res.ok ([] : List D)))))).bd (ap4 m_law_code)).bd fun code => (((Res.ok code).bd fun d => un3 d fun a b c => .ok (a, b, c)).bd fun s__1 => (((consR (Res.ok script) (consR (bd2 (bd2 (Res.ok (PyData.int 2)) (Res.ok at_) mulI) (Res.ok (PyData.int 1)) addV) (consR (Res.ok (PyData.int 4)) (consR (Res.ok (PyData.int 27720)) (Res.ok ([] : List D)))))).bd (ap4 m_law_draws)).bd fun plan => (((((consR (Res.ok s__1.2.1) (consR (bd2 (Res.ok s__1.2.1) (bd2 (bd2 (Res.ok plan) (Res.ok (PyData.int 0)) ixV) (bd2 (bd2 ((Res.ok s__1.2.2).bd lenV) (Res.ok s__1.2.1) subV) (Res.ok (PyData.int 1)) addV) modV) addV) (consR (bd2 (Res.ok s__1.2.1) (bd2 (bd2 (Res.ok plan) (Res.ok (PyData.int 1)) ixV) (bd2 (bd2 ((Res.ok s__1.2.2).bd lenV) (Res.ok s__1.2.1) subV) (Res.ok (PyData.int 1)) addV) modV) addV) (Res.ok ([] : List D))))).bd lstR).bd seqItems).bd fun ds => forC (fun t (s__2 : Unit) => (((consR (Res.ok code) (consR (Res.ok t) (Res.ok ([] : List D)))).bd (ap2 m_law_due)).bd fun due => (ifR (orR ((bd2 ((consR (Res.ok (PyData.int 0)) (consR (Res.ok code) (consR (Res.ok t) (Res.ok ([] : List D))))).bd (ap3 m_law_told)) (Res.ok due) neV).bd bl) (notR (((consR ((consR (Res.ok (PyData.int 0)) (consR (Res.ok code) (consR (Res.ok t) (Res.ok ([] : List D))))).bd (ap3 m_law_told)) (Res.ok ([] : List D))).bd (ap1 m_law_whole)).bd bl))) ((Res.ok (PyData.bool false)).bd fun d => Res.ok (Ctl.ret d)) (((consR (Res.ok (PyData.int 1)) (consR (Res.ok code) (consR (Res.ok t) (Res.ok ([] : List D))))).bd (ap3 m_law_told)).bd fun found => (ifR (orR (notR (((Res.ok found).bd (isiV "tuple")).bd bl)) (orR ((bd2 ((Res.ok found).bd lenV) (Res.ok (PyData.int 2)) neV).bd bl) ((bd2 ((bd2 (Res.ok found) (Res.ok (PyData.int 0)) ixV).bd lenV) ((Res.ok s__1.2.2).bd lenV) neV).bd bl))) ((Res.ok (PyData.bool false)).bd fun d => Res.ok (Ctl.ret d)) (((Res.ok found).bd fun d => un2 d fun a b => Res.ok (a, b)).bd fun s__3 => (ifR (orR (notR (((Res.ok s__3.1).bd (isiV "list")).bd bl)) ((bd2 (Res.ok (PyData.bool false)) (((Res.ok s__3.1).bd seqItems).bd fun ds => (lcR (fun entry => (Res.ok true)) (fun entry => (andV ((consR (Res.ok entry) (Res.ok ([] : List D))).bd (ap1 m_law_whole)) (chV leV ltV (Res.ok (PyData.int 0)) (Res.ok entry) (Res.ok s__1.1)))) ds).bd lstR) inV).bd bl)) ((Res.ok (PyData.bool false)).bd fun d => Res.ok (Ctl.ret d)) (ifR (orR (notR (((Res.ok s__3.2).bd (isiV "list")).bd bl)) (orR ((bd2 ((Res.ok s__3.2).bd sortedSetN) (Res.ok s__3.2) neV).bd bl) ((bd2 ((Res.ok s__3.2).bd lenV) (Res.ok due) ltV).bd bl))) ((Res.ok (PyData.bool false)).bd fun d => Res.ok (Ctl.ret d)) ((((Res.ok s__3.2).bd seqItems).bd fun ds => forC (fun one (s__4 : Unit) => ((((Res.ok one).bd seqItems).bd fun ds => (lcR (fun number => (Res.ok true)) (fun number => (andV ((consR (Res.ok number) (Res.ok ([] : List D))).bd (ap1 m_law_whole)) (chV leV ltV (Res.ok (PyData.int 0)) (Res.ok number) (Res.ok s__1.1)))) ds).bd lstR).bd fun good => (ifR (orR ((bd2 ((Res.ok one).bd lenV) (Res.ok s__1.2.1) neV).bd bl) ((bd2 (Res.ok (PyData.bool false)) (Res.ok good) inV).bd bl)) ((Res.ok (PyData.bool false)).bd fun d => Res.ok (Ctl.ret d)) (ifR ((bd2 (((consR (Res.ok code) (consR (Res.ok s__3.1) (consR (Res.ok one) (Res.ok ([] : List D))))).bd (ap3 m_law_fits)).bd lenV) (Res.ok t) ltV).bd bl) ((Res.ok (PyData.bool false)).bd fun d => Res.ok (Ctl.ret d)) (Res.ok (Ctl.next ())))))) ds ()).thenC Ctl.ret fun s__5 => (Res.ok (Ctl.next ()))))))))))) ds ()).thenC Ctl.ret fun s__6 => (((((consR (bd2 (Res.ok s__1.2.1) (Res.ok (PyData.int 1)) subV) (consR (bd2 ((Res.ok (PyData.int 1)).bd negV) (bd2 (Res.ok plan) (Res.ok (PyData.int 2)) ixV) subV) (consR (bd2 ((Res.ok s__1.2.2).bd lenV) (Res.ok (PyData.int 1)) addV) (consR (bd2 (bd2 ((Res.ok s__1.2.2).bd lenV) (Res.ok (PyData.int 1)) addV) (bd2 (Res.ok plan) (Res.ok (PyData.int 3)) ixV) addV) (Res.ok ([] : List D)))))).bd lstR).bd seqItems).bd fun ds => forC (fun t_1 (s__7 : Unit) => (ifR ((bd2 (((Res.ok (PyData.int 2)).bd range1).bd fun ds => (lcR (fun way => (Res.ok true)) (fun way => ((consR (Res.ok way) (consR (Res.ok code) (consR (Res.ok t_1) (Res.ok ([] : List D))))).bd (ap3 m_law_told))) ds).bd lstR) ((consR (Res.ok (PyData.str "few")) (consR (Res.ok (PyData.str "few")) (Res.ok ([] : List D)))).bd lstR) neV).bd bl) ((Res.ok (PyData.bool false)).bd fun d => Res.ok (Ctl.ret d)) (Res.ok (Ctl.next ())))) ds ()).thenC Ctl.ret fun s__8 => (Res.ok (Ctl.next ())))))))) ds ()).thenC id fun s__9 => (Res.ok (PyData.bool true)))
end SC
namespace SC
open PySem DL
/-! ### numbers by a prime, polynomials -/
def Eqm (p a b : Int) : Prop := p ∣ a - b
theorem Eqm.refl (p a : Int) : Eqm p a a := ⟨0, by omega⟩
theorem Eqm.of_eq {p a b : Int} (h : a = b) : Eqm p a b := h ▸ Eqm.refl p a
theorem Eqm.symm {p a b : Int} (h : Eqm p a b) : Eqm p b a := by obtain ⟨k, hk⟩ := h; exact ⟨-k, by rw [Int.mul_neg]; omega⟩
theorem Eqm.trans {p a b c : Int} (h : Eqm p a b) (h' : Eqm p b c) : Eqm p a c := by obtain ⟨k, hk⟩ := h; obtain ⟨l, hl⟩ := h'; exact ⟨k + l, by rw [Int.mul_add]; omega⟩
theorem Eqm.add {p a b c d : Int} (h : Eqm p a b) (h' : Eqm p c d) : Eqm p (a + c) (b + d) := by obtain ⟨k, hk⟩ := h; obtain ⟨l, hl⟩ := h'; exact ⟨k + l, by rw [Int.mul_add]; omega⟩
theorem Eqm.sub {p a b c d : Int} (h : Eqm p a b) (h' : Eqm p c d) : Eqm p (a - c) (b - d) := by obtain ⟨k, hk⟩ := h; obtain ⟨l, hl⟩ := h'; exact ⟨k - l, by rw [Int.mul_sub]; omega⟩
theorem Eqm.mul {p a b c d : Int} (h : Eqm p a b) (h' : Eqm p c d) : Eqm p (a * c) (b * d) := by
  obtain ⟨k, hk⟩ := h; obtain ⟨l, hl⟩ := h'
  refine ⟨k * c + b * l, ?_⟩
  have e1 : a = b + p * k := by omega
  have e2 : c = d + p * l := by omega
  grind
theorem Eqm.mod (p a : Int) : Eqm p (a % p) a := ⟨-(a / p), by have := Int.emod_add_mul_ediv a p; rw [Int.mul_neg]; omega⟩
theorem Eqm.of_mod {p a b : Int} (h : a % p = b % p) : Eqm p a b := (Eqm.mod p a).symm.trans (h ▸ Eqm.mod p b)
theorem Eqm.to_mod {p a b : Int} (h : Eqm p a b) : a % p = b % p := by
  obtain ⟨k, hk⟩ := h
  rw [show a = b + p * k by omega, Int.add_mul_emod_self_left]
theorem Eqm.zero_iff {p a : Int} : Eqm p a 0 ↔ p ∣ a := by unfold Eqm; rw [Int.sub_zero]
theorem Eqm.eq {p a b : Int} (h : Eqm p a b) (a0 : 0 ≤ a) (a1 : a < p) (b0 : 0 ≤ b) (b1 : b < p) : a = b := by
  have := h.to_mod
  rwa [Int.emod_eq_of_lt a0 a1, Int.emod_eq_of_lt b0 b1] at this
theorem Eqm.mod_eq {p a b : Int} (h : Eqm p a b) (a0 : 0 ≤ a) (a1 : a < p) : a = b % p := by rw [← h.to_mod, Int.emod_eq_of_lt a0 a1]
/-- a prime: what is not 0 has a number by which it comes to 1 -/
structure Prm (p : Int) : Prop where
  two : 2 ≤ p
  hi : p ≤ 97
  fer : ∀ a, ¬ p ∣ a → Eqm p (a * a ^ (p - 2).toNat) 1
theorem Prm.inv {p : Int} (P : Prm p) (a : Int) (h : ¬ p ∣ a) : ∃ b, Eqm p (a * b) 1 := ⟨_, P.fer a h⟩
theorem Prm.pr {p : Int} (P : Prm p) {a b : Int} (h : p ∣ a * b) : p ∣ a ∨ p ∣ b := by
  by_cases ha : p ∣ a
  · exact .inl ha
  · obtain ⟨c, hc⟩ := P.inv a ha
    refine .inr (Eqm.zero_iff.mp ?_)
    have h1 : Eqm p (c * (a * b)) (c * 0) := Eqm.mul (Eqm.refl _ _) (Eqm.zero_iff.mpr h)
    have h2 : Eqm p (a * c * b) (1 * b) := Eqm.mul hc (Eqm.refl _ _)
    have e : c * (a * b) = a * c * b := by grind
    rw [e, Int.mul_zero] at h1
    rw [Int.one_mul] at h2
    exact h2.symm.trans h1
def ev : List Int → Int → Int
  | [], _ => 0
  | a :: l, x => a + x * ev l x
theorem ev_append (f g : List Int) (x : Int) : ev (f ++ g) x = ev f x + x ^ f.length * ev g x := by
  induction f with
  | nil => simp [ev]
  | cons a l ih => simp only [List.cons_append, ev, ih, List.length_cons, Int.pow_succ]; grind
theorem ev_zeros (n : Nat) (x : Int) : ev (List.replicate n 0) x = 0 := by
  induction n with
  | zero => rfl
  | succ n ih => simp [List.replicate_succ, ev, ih]
theorem ev_mod {p : Int} (f : List Int) (x : Int) : Eqm p (ev (f.map (· % p)) x) (ev f x) := by
  induction f with
  | nil => exact Eqm.refl _ _
  | cons a l ih => exact Eqm.add (Eqm.mod p a) (Eqm.mul (Eqm.refl _ _) ih)
theorem ev_set : ∀ (f : List Int) (m : Nat) (v u x : Int), f[m]? = some u → ev (f.set m v) x = ev f x + (v - u) * x ^ m
  | [], _, _, _, _, h => by cases h
  | a :: l, 0, v, u, x, h => by simp at h; subst h; simp [ev]; omega
  | a :: l, m + 1, v, u, x, h => by
    simp only [List.set_cons_succ, ev]
    rw [ev_set l m v u x (by simpa using h), Int.pow_succ]
    grind
theorem ev_take_succ (f : List Int) (i : Nat) (a x : Int) (h : f[i]? = some a) : ev (f.take (i + 1)) x = ev (f.take i) x + a * x ^ i := by
  have hl : i < f.length := by
    rcases Nat.lt_or_ge i f.length with z | z
    · exact z
    · rw [List.getElem?_eq_none z] at h; cases h
  rw [List.take_succ, h]
  simp only [Option.toList_some]
  rw [ev_append, List.length_take_of_le (Nat.le_of_lt hl)]
  simp [ev]
  grind
/-- division by x - c -/
def sd (c : Int) : List Int → List Int
  | [] => []
  | [_] => []
  | _ :: b :: l => ev (b :: l) c :: sd c (b :: l)
theorem sd_len (c : Int) : ∀ f, (sd c f).length = f.length - 1
  | [] => rfl
  | [_] => rfl
  | a :: b :: l => by simp only [sd, List.length_cons, sd_len c (b :: l)]; omega
theorem sd_ev (c x : Int) : ∀ f, ev f x - ev f c = (x - c) * ev (sd c f) x
  | [] => by simp [ev, sd]
  | [a] => by simp [ev, sd]
  | a :: b :: l => by
    have ih := sd_ev c x (b :: l)
    show a + x * ev (b :: l) x - (a + c * ev (b :: l) c) = (x - c) * (ev (b :: l) c + x * ev (sd c (b :: l)) x)
    generalize ev (b :: l) x = A at *
    generalize ev (b :: l) c = B at *
    generalize ev (sd c (b :: l)) x = C at *
    have e : A = B + (x - c) * C := by omega
    subst e
    grind
theorem sd_all {p c : Int} : ∀ f, (∀ a ∈ sd c f, p ∣ a) → Eqm p (ev f c) 0 → ∀ a ∈ f, p ∣ a
  | [], _, _, a, ha => by cases ha
  | [b], _, h, a, ha => by
    have : a = b := by simpa using ha
    subst this
    have e : ev [a] c = a := by simp [ev]
    rw [e] at h
    exact Eqm.zero_iff.mp h
  | b :: d :: l, h1, h2, a, ha => by
    have h3 : p ∣ ev (d :: l) c := h1 _ (by simp [sd])
    have h4 := sd_all (d :: l) (fun a ha => h1 a (by simp [sd, ha])) (Eqm.zero_iff.mpr h3)
    rcases List.mem_cons.mp ha with rfl | ha
    · have h2 : Eqm p (a + c * ev (d :: l) c) 0 := h2
      have := Eqm.sub h2 (Eqm.mul (Eqm.refl p c) (Eqm.zero_iff.mpr h3))
      rw [Int.mul_zero] at this
      have e : a + c * ev (d :: l) c - c * ev (d :: l) c = a := by omega
      rw [e] at this
      exact Eqm.zero_iff.mp this
    · exact h4 a ha
/-- so many unlike roots: nothing is left -/
theorem roots_zero {p : Int} (P : Prm p) : ∀ (pts : List Int) (f : List Int), f.length ≤ pts.length → pts.Pairwise (fun x y => ¬ p ∣ x - y) → (∀ x ∈ pts, Eqm p (ev f x) 0) → ∀ a ∈ f, p ∣ a
  | [], f, hl, _, _ => fun a ha => by
    have : f = [] := List.eq_nil_of_length_eq_zero (by simpa using hl)
    subst this; cases ha
  | c :: ps, f, hl, hd, h0 => by
    obtain ⟨d1, d2⟩ := List.pairwise_cons.mp hd
    refine sd_all f (roots_zero P ps (sd c f) (by rw [sd_len]; simp at hl; omega) d2 fun x hx => ?_) (h0 c (by simp))
    have e := sd_ev c x f
    have h1 : Eqm p (ev f x - ev f c) (0 - 0) := Eqm.sub (h0 x (by simp [hx])) (h0 c (by simp))
    rw [e] at h1
    rcases P.pr (Eqm.zero_iff.mp h1) with z | z
    · exfalso
      refine d1 x hx ?_
      obtain ⟨k, hk⟩ := z
      exact ⟨-k, by rw [Int.mul_neg]; omega⟩
    · exact Eqm.zero_iff.mpr z
theorem ev_sub : ∀ (f g : List Int) (x : Int), f.length = g.length → ev (List.zipWith (· - ·) f g) x = ev f x - ev g x
  | [], [], _, _ => rfl
  | a :: f, b :: g, x, h => by
    simp only [List.zipWith_cons_cons, ev]
    rw [ev_sub f g x (by simpa using h), Int.mul_sub]
    omega
/-- the polynomial through unlike points is the only one -/
theorem interp_uniq {p : Int} (P : Prm p) {f g pts : List Int} (hl : f.length = g.length) (hn : f.length ≤ pts.length) (hd : pts.Pairwise (fun x y => ¬ p ∣ x - y)) (h : ∀ x ∈ pts, Eqm p (ev f x) (ev g x))
    (hf : ∀ a ∈ f, 0 ≤ a ∧ a < p) (hg : ∀ a ∈ g, 0 ≤ a ∧ a < p) : f = g := by
  have z := roots_zero P pts (List.zipWith (· - ·) f g) (by simp [hl]; omega) hd fun x hx => by
    rw [ev_sub f g x hl]
    have := Eqm.sub (h x hx) (Eqm.refl p (ev g x))
    rwa [Int.sub_self] at this
  clear h hn hd
  induction f generalizing g with
  | nil => exact (List.eq_nil_of_length_eq_zero hl.symm).symm
  | cons a f ih =>
    cases g with
    | nil => cases hl
    | cons b g =>
      have h1 : p ∣ a - b := z _ (by simp)
      have h2 := Eqm.eq h1 (hf a (by simp)).1 (hf a (by simp)).2 (hg b (by simp)).1 (hg b (by simp)).2
      rw [h2, ih (by simpa using hl) (fun a ha => hf a (by simp [ha])) (fun a ha => hg a (by simp [ha])) fun a ha => z a (by simp [ha])]
end SC
namespace SC
open PySem DL
/-- c + (X + a) g, by its numbers -/
def mx (a c : Int) : List Int → List Int
  | [] => [c]
  | g :: gs => (c + a * g) :: mx a g gs
theorem mx_len (a : Int) : ∀ (c : Int) (g : List Int), (mx a c g).length = g.length + 1
  | _, [] => rfl
  | _, g :: gs => by rw [mx, List.length_cons, mx_len a g gs, List.length_cons]
theorem ev_mx (a x : Int) : ∀ (c : Int) (g : List Int), ev (mx a c g) x = c + (x + a) * ev g x
  | c, [] => by simp [mx, ev]
  | c, g :: gs => by
    rw [mx, ev, ev_mx a x g gs, ev]
    grind
end SC
namespace SC
open PySem DL
/-- binomials -/
def bc : Nat → Nat → Nat
  | _, 0 => 1
  | 0, _ + 1 => 0
  | n + 1, k + 1 => bc n k + bc n (k + 1)
theorem bc_z (n : Nat) : bc n 0 = 1 := by cases n <;> rfl
theorem bc_mul : ∀ n k : Nat, ((k : Int) + 1) * (bc n (k + 1) : Int) = (bc n k : Int) * ((n : Int) - k)
  | 0, 0 => by simp [bc]
  | 0, k + 1 => by simp [bc]
  | n + 1, 0 => by
    have ih := bc_mul n 0
    simp only [bc, bc_z, Nat.zero_add] at ih ⊢
    grind
  | n + 1, k + 1 => by
    have h1 := bc_mul n k
    have h2 := bc_mul n (k + 1)
    simp only [bc, Int.natCast_add] at h1 h2 ⊢
    grind
theorem bc_lt : ∀ n k : Nat, n < k → bc n k = 0
  | n, 0, h => absurd h (by omega)
  | 0, k + 1, _ => rfl
  | n + 1, k + 1, h => by rw [bc, bc_lt n k (by omega), bc_lt n (k + 1) (by omega)]
/-- the weight of the number s in the number i of f(X + a) -/
def wt (a : Int) (s i : Nat) : Int := (bc s i : Int) * a ^ (s - i)
/-- the number i of f(X + a), as a sum -/
def ip (a : Int) (i : Nat) : Nat → List Int → Int
  | _, [] => 0
  | k, c :: cs => c * wt a k i + ip a i (k + 1) cs
def coef (f : List Int) (i : Nat) : Int := f[i]?.getD 0
end SC
namespace SC
open PySem DL
theorem lc_of {α : Type} {f g : α → D} {cond : D → Res Bool} {elt : D → Res D} : ∀ {l : List α}, (∀ a ∈ l, cond (f a) = .ok true) → (∀ a ∈ l, elt (f a) = .ok (g a)) → lcR cond elt (l.map f) = .ok (l.map g)
  | [], _, _ => rfl
  | a :: l, h, h' => by
    rw [List.map_cons, List.map_cons]
    unfold lcR
    rw [h a (by simp), h' a (by simp), lc_of (fun b hb => h b (by simp [hb])) fun b hb => h' b (by simp [hb])]
    rfl
end SC
namespace SC
open PySem DL
/-! ### polynomials by a prime, number by number -/
def padd : List Int → List Int → List Int
  | [], g => g
  | a :: f, [] => a :: f
  | a :: f, b :: g => (a + b) :: padd f g
theorem ev_padd (x : Int) : ∀ f g : List Int, ev (padd f g) x = ev f x + ev g x
  | [], g => by simp [padd, ev]
  | a :: f, [] => by simp [padd, ev]
  | a :: f, b :: g => by
    rw [padd, ev, ev, ev, ev_padd x f g]
    grind
def pcm (c : Int) (f : List Int) : List Int := f.map fun a => c * a
theorem ev_pcm (c x : Int) : ∀ f : List Int, ev (pcm c f) x = c * ev f x
  | [] => by simp [pcm, ev]
  | a :: f => by
    have ih := ev_pcm c x f
    show c * a + x * ev (pcm c f) x = c * (a + x * ev f x)
    rw [ih]
    grind
def pmul : List Int → List Int → List Int
  | [], _ => []
  | a :: f, g => padd (pcm a g) (0 :: pmul f g)
theorem ev_pmul (x : Int) : ∀ f g : List Int, ev (pmul f g) x = ev f x * ev g x
  | [], g => by simp [pmul, ev]
  | a :: f, g => by
    rw [pmul, ev_padd, ev_pcm, ev, ev_pmul x f g, ev]
    grind
theorem coef_padd : ∀ (f g : List Int) (i : Nat), coef (padd f g) i = coef f i + coef g i
  | [], g, i => by simp [padd, coef]
  | a :: f, [], i => by simp [padd, coef]
  | a :: f, b :: g, 0 => by simp [padd, coef]
  | a :: f, b :: g, i + 1 => by
    have := coef_padd f g i
    simpa [padd, coef] using this
theorem coef_pcm (c : Int) (f : List Int) (i : Nat) : coef (pcm c f) i = c * coef f i := by
  unfold coef pcm
  rw [List.getElem?_map]
  cases f[i]? <;> simp
theorem coef_mem {f : List Int} {c : Int} (h : c ∈ f) : ∃ i, coef f i = c := by
  obtain ⟨i, hi, e⟩ := List.mem_iff_getElem.mp h
  exact ⟨i, by unfold coef; rw [List.getElem?_eq_getElem hi, e]; rfl⟩
theorem coef_in (f : List Int) (i : Nat) : coef f i = 0 ∨ coef f i ∈ f := by
  unfold coef
  cases h : f[i]? with
  | none => exact .inl rfl
  | some c => exact .inr (List.mem_of_getElem? h)
/-- a whole number whose powers it comes to, at all great numbers, is 0 -/
theorem ev_zero_all : ∀ (f : List Int) (N : Int), 0 ≤ N → (∀ x, N < x → ev f x = 0) → ∀ c ∈ f, c = 0
  | [], _, _, _, c, hc => by cases hc
  | a :: f, N, hN, h, c, hc => by
    have ha : a = 0 := by
      refine Classical.byContradiction fun ne => ?_
      have hx := h (N + 1 + a.natAbs) (by omega)
      rw [ev] at hx
      have hd : (N + 1 + (a.natAbs : Int)) ∣ a := ⟨-ev f (N + 1 + a.natAbs), by rw [Int.mul_neg]; omega⟩
      have := Int.le_of_dvd (a := N + 1 + (a.natAbs : Int)) (b := (a.natAbs : Int)) (by omega) (by
        exact Int.dvd_natAbs.mpr hd)
      omega
    subst ha
    rcases List.mem_cons.mp hc with rfl | hc
    · rfl
    · refine ev_zero_all f N hN (fun x hx => ?_) c hc
      have := h x hx
      rw [ev, Int.zero_add] at this
      rcases Int.mul_eq_zero.mp this with z | z
      · omega
      · exact z
def IsP (F : Int → Int) : Prop := ∃ l : List Int, ∀ x, F x = ev l x
theorem isP_ev (f : List Int) : IsP (ev f) := ⟨f, fun _ => rfl⟩
theorem IsP.add {F G : Int → Int} : IsP F → IsP G → IsP fun x => F x + G x := fun ⟨f, hf⟩ ⟨g, hg⟩ => ⟨padd f g, fun x => by rw [ev_padd, ← hf, ← hg]⟩
theorem IsP.mul {F G : Int → Int} : IsP F → IsP G → IsP fun x => F x * G x := fun ⟨f, hf⟩ ⟨g, hg⟩ => ⟨pmul f g, fun x => by rw [ev_pmul, ← hf, ← hg]⟩
theorem IsP.neg {F : Int → Int} : IsP F → IsP fun x => -F x := fun ⟨f, hf⟩ => ⟨pcm (-1) f, fun x => by rw [ev_pcm, ← hf]; show -F x = -1 * F x; omega⟩
theorem IsP.sub {F G : Int → Int} (h : IsP F) (h' : IsP G) : IsP fun x => F x - G x := by
  have := h.add h'.neg
  simpa [Int.sub_eq_add_neg] using this
theorem IsP.pow {F : Int → Int} (h : IsP F) : ∀ n : Nat, IsP fun x => F x ^ n
  | 0 => ⟨[1], fun x => by simp [ev]⟩
  | n + 1 => by
    obtain ⟨l, e⟩ := (IsP.pow h n).mul h
    exact ⟨l, fun x => by rw [← e x]; exact Int.pow_succ _ _⟩
def PEq (p : Int) (F G : Int → Int) : Prop := ∃ h : List Int, ∀ x, F x - G x = p * ev h x
section
variable {p : Int} {F F' G G' K : Int → Int}
theorem PEq.of_eq (h : ∀ x, F x = G x) : PEq p F G := ⟨[], fun x => by rw [h x]; simp [ev]⟩
theorem PEq.rf : PEq p F F := PEq.of_eq fun _ => rfl
theorem PEq.tr (h : PEq p F G) (h' : PEq p G K) : PEq p F K := by
  obtain ⟨h, e⟩ := h
  obtain ⟨h', e'⟩ := h'
  exact ⟨padd h h', fun x => by have := e x; have := e' x; rw [ev_padd]; grind⟩
theorem PEq.ad (h : PEq p F G) (h' : PEq p F' G') : PEq p (fun x => F x + F' x) (fun x => G x + G' x) := by
  obtain ⟨h, e⟩ := h
  obtain ⟨h', e'⟩ := h'
  exact ⟨padd h h', fun x => by have := e x; have := e' x; rw [ev_padd]; grind⟩
theorem PEq.sb (h : PEq p F G) (h' : PEq p F' G') : PEq p (fun x => F x - F' x) (fun x => G x - G' x) := by
  obtain ⟨h, e⟩ := h
  obtain ⟨h', e'⟩ := h'
  exact ⟨padd h (pcm (-1) h'), fun x => by have := e x; have := e' x; rw [ev_padd, ev_pcm]; grind⟩
theorem PEq.ml (h : PEq p F G) (h' : PEq p F' G') (i1 : IsP F) (i2 : IsP G') : PEq p (fun x => F x * F' x) (fun x => G x * G' x) := by
  obtain ⟨h, e⟩ := h
  obtain ⟨h', e'⟩ := h'
  obtain ⟨f, hf⟩ := i1
  obtain ⟨g, hg⟩ := i2
  exact ⟨padd (pmul f h') (pmul h g), fun x => by have := e x; have := e' x; have := hf x; have := hg x; rw [ev_padd, ev_pmul, ev_pmul]; grind⟩
theorem PEq.at (h : PEq p F G) (x : Int) : Eqm p (F x) (G x) := by
  obtain ⟨h, e⟩ := h
  exact ⟨ev h x, e x⟩
end
/-- noughts by the prime -/
theorem peq_zero {p : Int} {f : List Int} : PEq p (ev f) (fun _ => 0) ↔ ∀ c ∈ f, p ∣ c := by
  constructor
  · rintro ⟨h, e⟩ c hc
    have hz := ev_zero_all (padd f (pcm (-p) h)) 0 (Int.le_refl 0) fun x _ => by
      have := e x
      rw [ev_padd, ev_pcm]
      grind
    obtain ⟨i, rfl⟩ := coef_mem hc
    have e1 := coef_padd f (pcm (-p) h) i
    have e2 : coef (padd f (pcm (-p) h)) i = 0 := by
      rcases coef_in (padd f (pcm (-p) h)) i with z | z
      · exact z
      · exact hz _ z
    rw [e2, coef_pcm] at e1
    exact ⟨coef h i, by grind⟩
  · intro h
    refine ⟨f.map (· / p), fun x => ?_⟩
    induction f with
    | nil => simp [ev]
    | cons a f ih =>
      have ih := ih fun c hc => h c (by simp [hc])
      have ha := Int.mul_ediv_cancel' (h a (by simp))
      simp only [List.map_cons, ev]
      grind
/-! ### curves along polynomials -/
end SC
namespace SC
open PySem DL
/-! ### what the package's functions tell, in numbers -/
def InP (p : Int) (l : List Int) : Prop := ∀ a ∈ l, 0 ≤ a ∧ a < p
theorem Prm.pos {p : Int} (P : Prm p) : 0 < p := by have := P.two; omega
theorem Prm.mod0 {p : Int} (P : Prm p) (a : Int) : 0 ≤ a % p := Int.emod_nonneg _ (by have := P.two; omega)
theorem Prm.mod1 {p : Int} (P : Prm p) (a : Int) : a % p < p := Int.emod_lt_of_pos _ P.pos
theorem Prm.small {p a : Int} (P : Prm p) (h0 : 0 ≤ a) (h : a < p) : small a = true := small_of (by omega) (by have := P.hi; omega)
end SC
namespace SC
open PySem DL
theorem cell_ok {ns : List Int} {k : Int} (hk : 0 ≤ k) : ∃ c : Int, m_law_cell (intL ns) (.int k) = .ok (.int c) := by
  unfold m_law_cell
  simp only [bd_ok, bd2_ok, lenV_list, List.length_map, ltV_int, bl_bool, ifR_ok, eqV_int]
  by_cases h1 : k < (ns.length : Int)
  · obtain ⟨v, _, e⟩ := ix_ints hk h1
    exact ⟨v, by simp [h1, e]⟩
  · rw [if_neg (by simpa using h1)]
    by_cases h2 : (ns.length : Int) = 0
    · rw [if_pos (by simpa using h2), mulI_l k (by decide)]
      exact ⟨_, rfl⟩
    · rw [if_neg (by simpa using h2), modV_int (by omega), mulI_l k (by decide)]
      obtain ⟨v, _, e⟩ := ix_ints (ns := ns) (i := k % (ns.length : Int)) (Int.emod_nonneg _ (by omega)) (Int.emod_lt_of_pos _ (by omega))
      simp only [bd2_ok]
      rw [e]
      simp only [bd2_ok, modV_int (show (0 : Int) < 1000003 by decide), addV_int]
      exact ⟨_, rfl⟩
theorem primes_at {i : Int} (h0 : 0 ≤ i) (h : i < 8) : ∃ p : Int, 2147483497 ≤ p ∧ p ≤ 2147483647 ∧ ixV (.tuple [.int 2147483647, .int 2147483629, .int 2147483587, .int 2147483579, .int 2147483563, .int 2147483549, .int 2147483543, .int 2147483497]) (.int i) = .ok (.int p) := by
  obtain ⟨n, rfl⟩ : ∃ n : Nat, i = n := ⟨i.toNat, by omega⟩
  have hn : n < 8 := by omega
  match n, hn with
  | 0, _ => exact ⟨2147483647, by decide, by decide, rfl⟩
  | 1, _ => exact ⟨2147483629, by decide, by decide, rfl⟩
  | 2, _ => exact ⟨2147483587, by decide, by decide, rfl⟩
  | 3, _ => exact ⟨2147483579, by decide, by decide, rfl⟩
  | 4, _ => exact ⟨2147483563, by decide, by decide, rfl⟩
  | 5, _ => exact ⟨2147483549, by decide, by decide, rfl⟩
  | 6, _ => exact ⟨2147483543, by decide, by decide, rfl⟩
  | 7, _ => exact ⟨2147483497, by decide, by decide, rfl⟩
theorem draws_ok {ns : List Int} {k base : Int} (many : Nat) (hk : 0 ≤ k) (hm : many ≤ 1000) (hb : 0 < base) (hb2 : base < 1073741824) :
    ∃ row : List Int, row.length = many ∧ (∀ x ∈ row, 0 ≤ x ∧ x < base) ∧ m_law_draws (intL ns) (.int k) (.int many) (.int base) = .ok (intL row) := by
  obtain ⟨c, hc⟩ := cell_ok (ns := ns) hk
  unfold m_law_draws
  simp only [consR_ok, bd_ok, ap2_ok, hc]
  rw [tupR_ok (by decide)]
  simp only [bd_ok, bd2_ok, lstR_nil]
  rw [show powV (.int 10) (.int 18) = .ok (.int 1000000000000000000) by rfl]
  simp only [bd_ok, bd2_ok, geV_int, bl_bool, ifR_ok]
  obtain ⟨r0, hr0⟩ : ∃ r0 : Int, (if decide ((1000000000000000000 : Int) ≤ c) = true then Res.ok (PyData.int c) else Res.ok (PyData.int 0)) = .ok (.int r0) := by
    by_cases h : (1000000000000000000 : Int) ≤ c
    · exact ⟨c, by simp [h]⟩
    · exact ⟨0, by simp [h]⟩
  rw [hr0]
  simp only [bd_ok]
  rw [range1_ok (by omega) (by omega)]
  simp only [bd_ok, Int.toNat_natCast]
  refine forN_range_then (P := fun r => ∃ row : List Int, row.length = many ∧ (∀ x ∈ row, 0 ≤ x ∧ x < base) ∧ r = .ok (intL row))
    (fun i s => ∃ (row : List Int) (r : Int), s = (intL row, .int r) ∧ row.length = i ∧ ∀ x ∈ row, 0 ≤ x ∧ x < base) ⟨[], r0, rfl, rfl, by simp⟩ ?_ ?_
  · rintro i _ hi ⟨row, r, rfl, hl, hx⟩
    simp only [Int.zero_add]
    have hi0 : (0 : Int) ≤ (i : Int) := by omega
    have hi1 : (i : Int) < 1000 := by omega
    simp only [modV_int (show (0 : Int) < 8 by decide), bd2_ok, bd_ok]
    obtain ⟨p1, l1, u1, e1⟩ := primes_at (i := (i : Int) % 8) (by omega) (by omega)
    rw [e1]
    simp only [bd2_ok, bd_ok]
    rw [modV_int (by omega), mulI_l (i : Int) (show small 2 = true by decide)]
    simp only [bd2_ok, bd_ok]
    rw [mulI_r _ (show small (i : Int) = true from small_of (by omega) (by omega))]
    simp only [bd2_ok, bd_ok, addV_int]
    have m1 : 0 ≤ c % p1 := Int.emod_nonneg _ (by omega)
    have m2 : c % p1 < p1 := Int.emod_lt_of_pos _ (by omega)
    rw [mulI_l _ (show small (c % p1) = true from small_of (by omega) (by omega))]
    simp only [bd2_ok, bd_ok, addV_int]
    rw [mulI_l _ (show small 7919 = true by decide)]
    simp only [bd2_ok, bd_ok, addV_int]
    rw [mulI_r _ (show small ((i : Int) + 1) = true from small_of (by omega) (by omega))]
    simp only [bd2_ok, bd_ok, addV_int]
    rw [mulI_l k (show small 104729 = true by decide)]
    simp only [bd2_ok, bd_ok, addV_int]
    rw [mulI_l (i : Int) (show small 3 = true by decide)]
    simp only [bd2_ok, bd_ok, addV_int, modV_int (show (0 : Int) < 8 by decide)]
    obtain ⟨p2, l2, u2, e2⟩ := primes_at (i := (3 * (i : Int) + k) % 8) (by omega) (by omega)
    rw [e2]
    simp only [bd2_ok, bd_ok]
    rw [modV_int (by omega)]
    simp only [bd_ok]
    generalize hM : c % p1 * (48271 + 2 * (i : Int) * (i : Int)) + 7919 * ((i : Int) + 1) * ((i : Int) + 1) + 104729 * k = M
    have m3 : 0 ≤ M % p2 := Int.emod_nonneg _ (by omega)
    have m4 : M % p2 < p2 := Int.emod_lt_of_pos _ (by omega)
    have s2 : small (M % p2) = true := small_of (by omega) (by omega)
    simp only [mulI_r _ s2, bd2_ok, bd_ok]
    obtain ⟨p3, l3, u3, e3⟩ := primes_at (i := ((i : Int) + 5) % 8) (by omega) (by omega)
    rw [e3]
    simp only [bd2_ok, bd_ok]
    rw [modV_int (by omega)]
    simp only [bd2_ok, bd_ok, gtV_int, bl_bool, ifR_ok]
    obtain ⟨y, hy⟩ : ∃ y : Int, (if decide (0 < r) = true then Res.ok (PyData.int r) else Res.ok (PyData.int (M % p2 * (M % p2) * (M % p2) % p3))) = .ok (.int y) := by
      by_cases h : 0 < r
      · exact ⟨r, by simp [h]⟩
      · exact ⟨_, by simp [h]; rfl⟩
    rw [hy]
    simp only [bd_ok, onL_list]
    rw [modV_int hb, fdivV_int hb hb2]
    simp only [bd_ok]
    rw [app1_ok (by simp; omega)]
    simp only [bd_ok]
    refine ⟨_, rfl, row ++ [y % base], r / base, by simp, by simp [hl], fun x h => ?_⟩
    rcases List.mem_append.mp h with h | h
    · exact hx x h
    · rw [List.mem_singleton.mp h]
      exact ⟨Int.emod_nonneg _ (by omega), Int.emod_lt_of_pos _ hb⟩
  · rintro _ ⟨row, r, rfl, hl, hx⟩
    exact ⟨row, hl, hx, rfl⟩
/-- an item of such a row -/
theorem row_at {row : List Int} {b i : Int} (hx : ∀ x ∈ row, 0 ≤ x ∧ x < b) (h0 : 0 ≤ i) (h : i < row.length) : ∃ v, 0 ≤ v ∧ v < b ∧ ixV (intL row) (.int i) = .ok (.int v) := by
  obtain ⟨v, h1, h2⟩ := ix_ints h0 h
  obtain ⟨h3, h4⟩ := hx v (List.mem_of_getElem? h1)
  exact ⟨v, h3, h4, h2⟩
end SC
namespace SC
open PySem DL
/-! ### codes by digits -/
def pw (p a : Nat) : Nat → Nat
  | 0 => 1
  | n + 1 => pw p a n * a % p
def pchk (p : Nat) : Bool := (List.range p).all fun a => a == 0 || a * pw p a (p - 2) % p == 1
theorem pw_eq (p a : Nat) : ∀ n, Eqm (p : Int) ((pw p a n : Nat) : Int) ((a : Int) ^ n)
  | 0 => Eqm.refl _ _
  | n + 1 => by
    unfold pw
    rw [Int.natCast_emod, Int.natCast_mul, Int.pow_succ]
    exact (Eqm.mod _ _).trans (Eqm.mul (pw_eq p a n) (Eqm.refl _ _))
theorem Eqm.pow {p a b : Int} (h : Eqm p a b) : ∀ n : Nat, Eqm p (a ^ n) (b ^ n)
  | 0 => by rw [Int.pow_zero, Int.pow_zero]; exact Eqm.refl _ _
  | n + 1 => by rw [Int.pow_succ, Int.pow_succ]; exact Eqm.mul (Eqm.pow h n) h
theorem prm_of_chk {p : Nat} (h2 : 2 ≤ p) (h97 : p ≤ 97) (h : pchk p = true) : Prm (p : Int) := by
  refine ⟨by omega, by omega, fun a ha => ?_⟩
  have m0 : 0 ≤ a % (p : Int) := Int.emod_nonneg _ (by omega)
  have m1 : a % (p : Int) < p := Int.emod_lt_of_pos _ (by omega)
  obtain ⟨r, hr⟩ : ∃ r : Nat, a % (p : Int) = r := ⟨(a % (p : Int)).toNat, by omega⟩
  have q := List.all_eq_true.mp h r (List.mem_range.mpr (by omega))
  have hr0 : r ≠ 0 := fun z => ha (Int.dvd_of_emod_eq_zero (by rw [hr, z]; rfl))
  simp only [Bool.or_eq_true, beq_iff_eq, hr0, false_or] at q
  have e : Eqm (p : Int) a r := hr ▸ (Eqm.mod _ _).symm
  have f : Eqm (p : Int) ((r * pw p r (p - 2) : Nat) : Int) 1 := Eqm.of_mod (by
    rw [← Int.natCast_emod, q]
    rw [Int.emod_eq_of_lt (by decide) (by omega)]; rfl)
  rw [show ((p : Int) - 2).toNat = p - 2 by omega]
  rw [Int.natCast_mul] at f
  exact (Eqm.mul e ((e.pow _).trans (pw_eq p r _).symm)).trans f
def pns : List Nat := [5, 7, 11, 13, 17, 19, 23, 29, 31, 37, 41, 43, 47, 53, 59, 61, 67, 71, 73, 79, 83, 89, 97]
def pis : List Int := [5, 7, 11, 13, 17, 19, 23, 29, 31, 37, 41, 43, 47, 53, 59, 61, 67, 71, 73, 79, 83, 89, 97]
theorem pis_ok : ∀ v ∈ pis, Prm v ∧ 5 ≤ v := fun v hv => by
  have e : pis = pns.map fun (n : Nat) => (n : Int) := rfl
  rw [e] at hv
  obtain ⟨n, hn, rfl⟩ := List.mem_map.mp hv
  have q : ∀ n ∈ pns, 5 ≤ n ∧ n ≤ 97 ∧ pchk n = true := by decide +kernel
  obtain ⟨q1, q2, q3⟩ := q n hn
  exact ⟨prm_of_chk (by omega) q2 q3, by show (5 : Int) ≤ (n : Int); omega⟩
theorem nodup_erase {l : List Int} (h : l.Nodup) {k : Nat} {y : Int} (hy : l[k]? = some y) : y ∉ l.eraseIdx k ∧ (l.eraseIdx k).Nodup := by
  induction l generalizing k with
  | nil => cases hy
  | cons a l ih =>
    obtain ⟨h1, h2⟩ := List.nodup_cons.mp h
    cases k with
    | zero => simp at hy; subst hy; exact ⟨h1, h2⟩
    | succ k =>
      have hy' : l[k]? = some y := by simpa using hy
      obtain ⟨i1, i2⟩ := ih h2 hy'
      rw [List.eraseIdx_cons_succ]
      have hm := List.mem_of_getElem? hy'
      refine ⟨fun z => ?_, List.nodup_cons.mpr ⟨fun z => h1 (List.mem_of_mem_eraseIdx z), i2⟩⟩
      rcases List.mem_cons.mp z with z | z
      · exact h1 (z ▸ hm)
      · exact i1 z
theorem erase_map {α β : Type} (f : α → β) : ∀ (l : List α) (k : Nat), (l.map f).eraseIdx k = (l.eraseIdx k).map f
  | [], _ => rfl
  | a :: l, 0 => rfl
  | a :: l, k + 1 => by simp only [List.map_cons, List.eraseIdx_cons_succ]; rw [erase_map f l k]
theorem pops_ok {row : List Int} (hx : ∀ x ∈ row, 0 ≤ x) : ∀ (m a : Nat) (cur : List Int), 4 + a + m ≤ row.length → m ≤ cur.length → cur.length ≤ 1000000 → cur.Nodup → ∃ ys : List Int, popsR (fun j xcur => (bd2 (bd2 (Res.ok (intL row)) (addV (PyData.int 4) j) ixV) (Res.ok (.int xcur.length)) modV)) (rangeL a m) (cur.map .int) = .ok (ys.map .int) ∧ ys.length = m ∧ ys.Nodup ∧ ∀ y ∈ ys, y ∈ cur
  | 0, a, cur, _, _, _, _ => ⟨[], rfl, rfl, List.nodup_nil, fun _ z => by cases z⟩
  | m + 1, a, cur, h1, h2, h3, hn => by
    rw [rangeL_succ]
    unfold popsR
    obtain ⟨v, hv, ev⟩ := ix_ints (ns := row) (i := 4 + (a : Int)) (by omega) (by omega)
    have v0 := hx v (List.mem_of_getElem? hv)
    have hc : (0 : Int) < cur.length := by omega
    simp only [bd2_ok, addV_int, ev, bd_ok, lenV_list, List.length_map, modV_int hc, nx_ok]
    obtain ⟨k, hk⟩ : ∃ k : Nat, v % (cur.length : Int) = k := ⟨(v % (cur.length : Int)).toNat, by have := Int.emod_nonneg v (show (cur.length : Int) ≠ 0 by omega); omega⟩
    have hkl : k < cur.length := by have := Int.emod_lt_of_pos v hc; omega
    rw [hk]
    have hg : cur[k]? = some cur[k] := List.getElem?_eq_getElem hkl
    have pl : popL (cur.map .int) (.int (k : Int)) = .ok (.int cur[k], (cur.eraseIdx k).map .int) := by
      unfold popL
      have c1 : decide (-(2 ^ 63) ≤ (k : Int) ∧ (k : Int) < 2 ^ 63) = true := decide_eq_true ⟨by omega, by omega⟩
      have c2 : seqIndex? (k : Int) (cur.map PyData.int).length = some k := by
        rw [List.length_map]
        unfold seqIndex?
        simp
        omega
      simp only [c1, if_true, c2, List.getElem?_map, hg, Option.map_some]
      rw [erase_map]
    rw [pl]
    simp only [bd_ok]
    obtain ⟨n1, n2⟩ := nodup_erase hn hg
    obtain ⟨ys, e, l, nd, mem⟩ := pops_ok hx m (a + 1) (cur.eraseIdx k) (by omega) (by rw [List.length_eraseIdx_of_lt hkl]; omega) (by rw [List.length_eraseIdx_of_lt hkl]; omega) n2
    rw [show (a : Int) + 1 = ((a + 1 : Nat) : Int) by omega, e]
    refine ⟨cur[k] :: ys, rfl, by simp [l], List.nodup_cons.mpr ⟨fun z => n1 (mem _ z), nd⟩, fun y hy => ?_⟩
    rcases List.mem_cons.mp hy with rfl | hy
    · exact List.mem_of_getElem? hg
    · exact List.mem_of_mem_eraseIdx (mem y hy)
theorem rangeL_ints (n : Nat) : rangeL 0 n = ((List.range n).map fun (i : Nat) => (i : Int)).map .int := by
  unfold rangeL
  rw [List.map_map]
  refine List.map_congr_left fun i _ => ?_
  simp
theorem law_code_ok {ns : List Int} {at_ : Int} {mk mn : Int} (h0 : 0 ≤ at_) (h1 : 1 ≤ mk) (h2 : mk ≤ mn) (h3 : mn ≤ 16) : ∃ (p k : Int) (places : List Int), m_law_code (intL ns) (.int at_) (.int mk) (.int mn) = .ok (.tuple [.int p, .int k, intT places]) ∧ Prm p ∧ 5 ≤ p ∧ 1 ≤ k ∧ k ≤ mk ∧ k ≤ p ∧ k ≤ places.length ∧ (places.length : Int) ≤ mn ∧ InP p places ∧ places.Nodup := by
  unfold m_law_code
  simp only [consR_ok, bd_ok, ap4_ok]
  obtain ⟨row, hl, hx, e⟩ := draws_ok (ns := ns) (k := at_) (base := 27720) 20 h0 (by decide) (by decide) (by decide)
  rw [show (.int ((20 : Nat) : Int) : D) = .int 20 from rfl] at e
  rw [e]
  simp only [bd_ok]
  obtain ⟨v0, l0, u0, e0⟩ := row_at (i := 0) hx (by decide) (by omega)
  obtain ⟨v1, l1, u1, e1⟩ := row_at (i := 1) hx (by decide) (by omega)
  obtain ⟨v2, l2, u2, e2⟩ := row_at (i := 2) hx (by decide) (by omega)
  obtain ⟨v3, l3, u3, e3⟩ := row_at (i := 3) hx (by decide) (by omega)
  rw [show ([PyData.int 5, .int 7, .int 11, .int 13, .int 17, .int 19, .int 23, .int 29, .int 31, .int 37, .int 41, .int 43, .int 47, .int 53, .int 59, .int 61, .int 67, .int 71, .int 73, .int 79, .int 83, .int 89, .int 97] : List D) = pis.map .int from rfl, lstR_ok (by decide)]
  obtain ⟨a, ha, ea⟩ := ix_ints (ns := pis) (i := v0 % 23) (by omega) (by show v0 % 23 < 23; omega)
  obtain ⟨b, hb, eb⟩ := ix_ints (ns := pis) (i := v0 % 3) (by omega) (by show v0 % 3 < 23; omega)
  simp only [bd_ok, bd2_ok, e0, e1, e2, e3, modV_int (show (0 : Int) < 23 by decide), modV_int (show (0 : Int) < 3 by decide), modV_int (show (0 : Int) < 2 by decide), ea, eb, consR_ok]
  rw [lstR_ok (xs := [.int a, .int b]) (by show 2 ≤ _; decide)]
  simp only [bd2_ok]
  obtain ⟨p, hp, ep⟩ : ∃ p, (p = a ∨ p = b) ∧ ixV (.list [.int a, .int b]) (.int (v1 % 2)) = .ok (.int p) := by
    by_cases h : v1 % 2 = 0
    · rw [h]; exact ⟨a, .inl rfl, rfl⟩
    · rw [show v1 % 2 = 1 by omega]; exact ⟨b, .inr rfl, rfl⟩
  have P : Prm p ∧ 5 ≤ p := by
    rcases hp with rfl | rfl
    · exact pis_ok _ (List.mem_of_getElem? ha)
    · exact pis_ok _ (List.mem_of_getElem? hb)
  obtain ⟨P, p5⟩ := P
  have p97 := P.hi
  rw [ep]
  simp only [bd_ok, min2V_int, bd2_ok]
  generalize hm : (if p < mk then p else mk) = m1
  have b1 : 1 ≤ m1 ∧ m1 ≤ mk ∧ m1 ≤ p := by rw [← hm]; split <;> omega
  rw [modV_int (by omega)]
  simp only [bd2_ok, addV_int, bd_ok]
  generalize hk : 1 + v2 % m1 = k
  have b2 : 1 ≤ k ∧ k ≤ m1 := by have := Int.emod_nonneg v2 (show m1 ≠ 0 by omega); have := Int.emod_lt_of_pos v2 (show 0 < m1 by omega); omega
  simp only [subV_int, bd2_ok, addV_int]
  generalize hm2 : (if p < mn then p else mn) = m2
  have b3 : m1 ≤ m2 ∧ m2 ≤ mn ∧ m2 ≤ p := by rw [← hm2, ← hm]; split <;> split <;> omega
  rw [modV_int (by omega)]
  simp only [bd2_ok, addV_int, bd_ok]
  obtain ⟨many, hmany⟩ : ∃ many : Nat, k + v3 % (m2 - k + 1) = many := ⟨(k + v3 % (m2 - k + 1)).toNat, by have := Int.emod_nonneg v3 (show m2 - k + 1 ≠ 0 by omega); omega⟩
  have b4 : k ≤ many ∧ (many : Int) ≤ m2 := by have := Int.emod_nonneg v3 (show m2 - k + 1 ≠ 0 by omega); have := Int.emod_lt_of_pos v3 (show 0 < m2 - k + 1 by omega); omega
  rw [hmany]
  have lr : listRange1 (Res.ok (.int p)) = .ok (.list (rangeL 0 p.toNat)) := by
    unfold listRange1 rgL rgOk
    simp only [bd_ok]
    rw [in62_of (by omega) (by omega), in62_of (by omega) (by omega)]
    have : fits (p - 0).toNat = true := decide_eq_true (by omega)
    rw [this]
    simp
  rw [lr, range1_ok (by omega) (by omega), Int.toNat_natCast]
  simp only [bd_ok, onL_list]
  obtain ⟨ys, ey, yl, yn, ym⟩ := pops_ok (row := row) (fun x h => (hx x h).1) many 0 ((List.range p.toNat).map fun (i : Nat) => (i : Int)) (by omega) (by simp; omega) (by simp; omega) (by
    refine List.Pairwise.map _ (fun a b h => ?_) List.nodup_range
    omega)
  rw [rangeL_ints p.toNat]
  rw [show ((0 : Nat) : Int) = 0 from rfl] at ey
  simp only [bd_ok, bd2_ok, lenV_list]
  rw [ey]
  simp only [bd_ok]
  rw [tupR_ok (by simp; omega)]
  simp only [bd_ok]
  refine ⟨p, k, ys, rfl, P, p5, b2.1, by omega, by omega, by omega, by omega, fun y hy => ?_, yn⟩
  obtain ⟨i, hi, rfl⟩ := List.mem_map.mp (ym y hy)
  have := List.mem_range.mp hi
  exact ⟨by omega, by omega⟩
end SC
namespace SC
open PySem DL
theorem value_ok {p : Int} (P : Prm p) (xs : List Int) (x : Int) : m_value_at (.int p) (intT xs) (.int x) = .ok (.int (ev xs x % p)) := by
  unfold m_value_at
  simp only [bd_ok, revA_tup, seqItems_tup]
  refine forN_then (S := D) (T := D) (P := fun r => r = .ok (.int (ev xs x % p))) (fun i s => i ≤ xs.length ∧ ∃ v : Int, s = .int v ∧ 0 ≤ v ∧ v < p ∧ Eqm p v (ev (xs.drop (xs.length - i)) x)) ⟨Nat.zero_le _, 0, rfl, Int.le_refl _, P.pos, by rw [Nat.sub_zero, List.drop_length]; exact Eqm.refl _ _⟩ ?_ ?_
  · rintro j d _ hd ⟨hj, v, rfl, v0, v1, hv⟩
    have hlt : j < xs.length := by
      rcases Nat.lt_or_ge j xs.length with z | z
      · exact z
      · rw [List.getElem?_eq_none (by simpa using z)] at hd; cases hd
    rw [List.getElem?_reverse (by simpa using hlt), List.length_map] at hd
    obtain ⟨a, ha, rfl⟩ := ints_get hd
    simp only [bd2_ok, mulI_l _ (P.small v0 v1), addV_int, modV_int P.pos, bd_ok]
    refine ⟨_, rfl, hlt, _, rfl, P.mod0 _, P.mod1 _, (Eqm.mod _ _).trans ?_⟩
    have e : xs.drop (xs.length - (j + 1)) = a :: xs.drop (xs.length - j) := by
      have hl : xs.length - 1 - j < xs.length := by omega
      rw [show xs.length - (j + 1) = xs.length - 1 - j by omega, List.drop_eq_getElem_cons hl]
      rw [List.getElem?_eq_getElem hl] at ha
      cases ha
      rw [show xs.length - 1 - j + 1 = xs.length - j by omega]
    rw [e]
    show Eqm p _ (a + x * _)
    rw [Int.mul_comm v x, Int.add_comm]
    exact Eqm.add (Eqm.refl _ _) (Eqm.mul (Eqm.refl _ _) hv)
  · rintro _ ⟨_, v, rfl, v0, v1, hv⟩
    rw [List.length_reverse, List.length_map, Nat.sub_self, List.drop_zero] at hv
    rw [hv.mod_eq v0 v1]
end SC
namespace SC
open PySem DL
theorem law_value_seq {p : Int} (P : Prm p) {d : D} {xs : List Int} (hd : seqItems d = .ok (xs.map .int)) (x : Int) : m_law_value (.int p) d (.int x) = .ok (.int (ev xs x % p)) := by
  unfold m_law_value
  simp only [bd_ok, hd]
  refine forN_then (S := D × D) (T := D) (P := fun r => r = .ok (.int (ev xs x % p))) (fun i s => ∃ v w : Int, s = (.int v, .int w) ∧ 0 ≤ v ∧ v < p ∧ 0 ≤ w ∧ w < p ∧ Eqm p v (ev (xs.take i) x) ∧ Eqm p w (x ^ i)) ⟨0, 1, rfl, Int.le_refl _, P.pos, by decide, by have := P.two; omega, Eqm.refl _ _, by rw [Int.pow_zero]; exact Eqm.refl _ _⟩ ?_ ?_
  · rintro j d _ hd ⟨v, w, rfl, v0, v1, w0, w1, hv, hw⟩
    obtain ⟨a, ha, rfl⟩ := ints_get hd
    simp only [mulI_r _ (P.small w0 w1), mulI_l _ (P.small w0 w1), bd2_ok, addV_int, modV_int P.pos, bd_ok]
    refine ⟨_, rfl, _, _, rfl, P.mod0 _, P.mod1 _, P.mod0 _, P.mod1 _, (Eqm.mod _ _).trans ?_, (Eqm.mod _ _).trans ?_⟩
    · rw [ev_take_succ xs j a x ha]
      exact Eqm.add hv (Eqm.mul (Eqm.refl _ _) hw)
    · rw [Int.pow_succ]
      exact Eqm.mul hw (Eqm.refl _ _)
  · rintro _ ⟨v, w, rfl, v0, v1, w0, w1, hv, hw⟩
    rw [List.length_map, List.take_length] at hv
    rw [hv.mod_eq v0 v1]
end SC
namespace SC
open PySem DL
/-! ### products and sums by numbers -/
theorem peq_set {p : Int} {zs : List Int} {m : Nat} {u c : Int} (h : zs[m]? = some u) : PEq p (ev (zs.set m ((u + c) % p))) (fun x => ev zs x + c * x ^ m) := by
  refine ⟨List.replicate m 0 ++ [-((u + c) / p)], fun x => ?_⟩
  rw [ev_set zs m _ u x h, ev_append, ev_zeros, List.length_replicate]
  have := Int.emod_add_mul_ediv (u + c) p
  generalize (u + c) / p = q at *
  have e : (u + c) % p = u + c - p * q := by omega
  rw [e]
  simp only [ev]
  grind
theorem addin {p : Int} (P : Prm p) {enc : List Int → D} {body : D → D → Res D} {ds : List D} {vals zs : List Int} {off : Nat} (hlen : ds.length = vals.length) (hl : off + vals.length ≤ zs.length) (hz : InP p zs)
    (hb : ∀ (i : Nat) (d : D) (v u : Int) (ws : List Int), ds[i]? = some d → vals[i]? = some v → ws[off + i]? = some u → ws.length = zs.length → InP p ws → body d (enc ws) = .ok (enc (ws.set (off + i) ((u + v) % p)))) :
    ∃ ws, forN body ds (enc zs) = .ok (enc ws) ∧ ws.length = zs.length ∧ InP p ws ∧ PEq p (ev ws) (fun x => ev zs x + x ^ off * ev vals x) := by
  obtain ⟨s, e, ws, rfl, h1, h2, h3⟩ := forN_inv (body := body) (fun i s => ∃ ws, s = enc ws ∧ ws.length = zs.length ∧ InP p ws ∧ PEq p (ev ws) (fun x => ev zs x + x ^ off * ev (vals.take i) x)) ds 0 (enc zs) ⟨zs, rfl, rfl, hz, PEq.of_eq fun x => by simp [ev]⟩ (by
    rintro i d s hd ⟨ws, rfl, h1, h2, h3⟩
    rw [Nat.zero_add] at h3 ⊢
    have hi : i < ds.length := (List.getElem?_eq_some_iff.mp hd).1
    have hv : vals[i]? = some vals[i] := List.getElem?_eq_getElem (by omega)
    have hu : ws[off + i]? = some ws[off + i] := List.getElem?_eq_getElem (by omega)
    generalize vals[i] = v at hv
    generalize ws[off + i] = u at hu
    refine ⟨_, hb i d v u ws hd hv hu h1 h2, _, rfl, by simp [h1], fun a ha => ?_, ?_⟩
    · rcases List.mem_or_eq_of_mem_set ha with z | z
      · exact h2 a z
      · rw [z]; exact ⟨P.mod0 _, P.mod1 _⟩
    · refine (peq_set (c := v) hu).tr ((h3.ad (PEq.rf (F := fun x => v * x ^ (off + i)))).tr (PEq.of_eq fun x => ?_))
      rw [ev_take_succ vals i v x hv, Int.pow_add]
      grind)
  rw [Nat.zero_add, hlen, List.take_length] at h3
  exact ⟨ws, e, h1, h2, h3⟩
theorem enumX_len' (xs : List D) : (enumX xs).length = xs.length := by simp [enumX]
/-- a product -/
theorem times_pe {p : Int} (P : Prm p) {xs ys : List Int} (hx : InP p xs) (h1 : 0 < xs.length) (h2 : 0 < ys.length) (h3 : xs.length + ys.length ≤ 100000) :
    ∃ zs : List Int, m_times (.int p) (intT xs) (intT ys) = .ok (intT zs) ∧ zs.length = xs.length + ys.length - 1 ∧ InP p zs ∧ PEq p (ev zs) (fun x => ev xs x * ev ys x) := by
  have p2 := P.two
  have p9 := P.hi
  unfold m_times
  have hr := repV_zero (v := 0) (n := xs.length + ys.length - 1) (by omega)
  rw [show (((xs.length + ys.length - 1 : Nat) : Int)) = (xs.length : Int) + ys.length - 1 by omega] at hr
  have hr' : repV (PyData.list [.int 0]) (.int ((xs.length : Int) + ys.length - 1)) = .ok (intL (List.replicate (xs.length + ys.length - 1) 0)) := hr
  simp (disch := (first | assumption | omega | decide | (simp only [List.length_cons, List.length_nil, List.length_map, List.length_append]; omega))) only [bd_ok, bd_exc, bd2_ok, consR_ok, nx_ok, ap1_ok, ap2_ok, ap3_ok, ap4_ok, ap5_ok, un2_tup, un3_tup, onL_list, addV_int, subV_int, ltV_int, leV_int, gtV_int, geV_int, augI_int, negV_int, eqV_int, neV_int, bl_bool, ifR_ok, andR_ok, orR_ok, notR_ok, andV_ok, orV_ok, notV_ok, lenV_list, lenV_tup, List.length_map, List.length_cons, List.length_nil, seqItems_list, seqItems_tup, enumA_list, enumA_tup, zipAA_list, zipAA_tup, revA_tup, revA_list, tupleV_list, tupleV_tup, listV_list, listV_tup, max2V_int, min2V_int, lstR_nil, thenC_next, thenC_ret, Bool.not_true, Bool.not_false, if_true, if_false, Bool.false_eq_true, modV_int, fdivV_a, mulI_a, mulI_b, range1_a, range2_a, lstR_ok, tupR_ok, app1_ok, ix_intsA, ix_intsT, isi_int_int, isi_bool_int, isi_bool_bool, isi_list_list, isi_tup_tup, isNV_int, isNV_none, isNV_list, isNV_tup, notNV_int, notNV_none, notNV_list, notNV_tup, addV_lst, addV_tup, partV_int, slR_list, slR_tup, setL_a, chV_int, Int.zero_add, Int.toNat_natCast, decide_true, decide_false, List.length_append, List.length_singleton, Nat.reduceAdd, Nat.zero_add, Int.cast_ofNat_Int, Int.natCast_zero, Int.natCast_one, Int.reduceLT, Int.reduceLE, Int.reduceEq, Int.reduceNe, Int.reduceAdd, Int.reduceSub, Int.reduceMul, Int.reduceNeg, Int.reduceToNat, eq_self, ite_self, hr']
  refine forN_then (S := D) (T := D) (P := fun r => ∃ zs : List Int, r = .ok (intT zs) ∧ zs.length = xs.length + ys.length - 1 ∧ InP p zs ∧ PEq p (ev zs) (fun x => ev xs x * ev ys x)) (fun i s => ∃ zs : List Int, s = intL zs ∧ zs.length = xs.length + ys.length - 1 ∧ InP p zs ∧ PEq p (ev zs) (fun x => ev (xs.take i) x * ev ys x)) ⟨_, rfl, by simp, fun a ha => by rw [List.eq_of_mem_replicate ha]; omega, PEq.of_eq fun x => by rw [ev_zeros]; simp [ev]⟩ ?_ ?_
  · rintro j d _ hd ⟨zs, rfl, zl, zp, ze⟩
    obtain ⟨a, ha, rfl⟩ := enum_get hd
    have hj : j < xs.length := (List.getElem?_eq_some_iff.mp ha).1
    have ha2 := hx a (List.mem_of_getElem? ha)
    simp (disch := (first | assumption | omega | decide | (simp only [List.length_cons, List.length_nil, List.length_map, List.length_append]; omega))) only [bd_ok, bd_exc, bd2_ok, consR_ok, nx_ok, ap1_ok, ap2_ok, ap3_ok, ap4_ok, ap5_ok, un2_tup, un3_tup, onL_list, addV_int, subV_int, ltV_int, leV_int, gtV_int, geV_int, augI_int, negV_int, eqV_int, neV_int, bl_bool, ifR_ok, andR_ok, orR_ok, notR_ok, andV_ok, orV_ok, notV_ok, lenV_list, lenV_tup, List.length_map, List.length_cons, List.length_nil, seqItems_list, seqItems_tup, enumA_list, enumA_tup, zipAA_list, zipAA_tup, revA_tup, revA_list, tupleV_list, tupleV_tup, listV_list, listV_tup, max2V_int, min2V_int, lstR_nil, thenC_next, thenC_ret, Bool.not_true, Bool.not_false, if_true, if_false, Bool.false_eq_true, modV_int, fdivV_a, mulI_a, mulI_b, range1_a, range2_a, lstR_ok, tupR_ok, app1_ok, ix_intsA, ix_intsT, isi_int_int, isi_bool_int, isi_bool_bool, isi_list_list, isi_tup_tup, isNV_int, isNV_none, isNV_list, isNV_tup, notNV_int, notNV_none, notNV_list, notNV_tup, addV_lst, addV_tup, partV_int, slR_list, slR_tup, setL_a, chV_int, Int.zero_add, Int.toNat_natCast, decide_true, decide_false, List.length_append, List.length_singleton, Nat.reduceAdd, Nat.zero_add, Int.cast_ofNat_Int, Int.natCast_zero, Int.natCast_one, Int.reduceLT, Int.reduceLE, Int.reduceEq, Int.reduceNe, Int.reduceAdd, Int.reduceSub, Int.reduceMul, Int.reduceNeg, Int.reduceToNat, eq_self, ite_self]
    obtain ⟨ws, w1, w2, w3, w4⟩ := addin P (enc := intL) (vals := pcm a ys) (zs := zs) (off := j) (ds := enumX (ys.map .int)) (body := fun d s__1 => un2 d fun j_1 b => (onL s__1 fun ds => (bd2 (bd2 (bd2 (Res.ok s__1) (addV (PyData.int (j : Int)) j_1) ixV) (mulI (PyData.int a) b) addV) (Res.ok (PyData.int p)) modV).bd fun v => (addV (PyData.int (j : Int)) j_1).bd fun k => setL ds k v).bd fun found_1 => Res.ok found_1) (by simp [enumX, pcm]) (by simp [pcm]; omega) zp (fun i d v u ws hd hv hu wl wp => by
      obtain ⟨b, hb, rfl⟩ := enum_get hd
      have hi : j + i < ws.length := (List.getElem?_eq_some_iff.mp hu).1
      have hv' : v = a * b := by
        unfold pcm at hv
        rw [List.getElem?_map, hb] at hv
        exact (Option.some.inj hv).symm
      have e1 : (j : Int) + (i : Int) = ((j + i : Nat) : Int) := by omega
      have hget : ixV (intL ws) (.int ((j + i : Nat) : Int)) = .ok (.int u) := ix_list (by omega) (by rw [Int.toNat_natCast, List.getElem?_map, hu]; rfl)
      subst hv'
      simp (disch := (first | assumption | omega | decide | (simp only [List.length_cons, List.length_nil, List.length_map, List.length_append]; omega))) only [bd_ok, bd_exc, bd2_ok, consR_ok, nx_ok, ap1_ok, ap2_ok, ap3_ok, ap4_ok, ap5_ok, un2_tup, un3_tup, onL_list, addV_int, subV_int, ltV_int, leV_int, gtV_int, geV_int, augI_int, negV_int, eqV_int, neV_int, bl_bool, ifR_ok, andR_ok, orR_ok, notR_ok, andV_ok, orV_ok, notV_ok, lenV_list, lenV_tup, List.length_map, List.length_cons, List.length_nil, seqItems_list, seqItems_tup, enumA_list, enumA_tup, zipAA_list, zipAA_tup, revA_tup, revA_list, tupleV_list, tupleV_tup, listV_list, listV_tup, max2V_int, min2V_int, lstR_nil, thenC_next, thenC_ret, Bool.not_true, Bool.not_false, if_true, if_false, Bool.false_eq_true, modV_int, fdivV_a, mulI_a, mulI_b, range1_a, range2_a, lstR_ok, tupR_ok, app1_ok, ix_intsA, ix_intsT, isi_int_int, isi_bool_int, isi_bool_bool, isi_list_list, isi_tup_tup, isNV_int, isNV_none, isNV_list, isNV_tup, notNV_int, notNV_none, notNV_list, notNV_tup, addV_lst, addV_tup, partV_int, slR_list, slR_tup, setL_a, chV_int, Int.zero_add, Int.toNat_natCast, decide_true, decide_false, List.length_append, List.length_singleton, Nat.reduceAdd, Nat.zero_add, Int.cast_ofNat_Int, Int.natCast_zero, Int.natCast_one, Int.reduceLT, Int.reduceLE, Int.reduceEq, Int.reduceNe, Int.reduceAdd, Int.reduceSub, Int.reduceMul, Int.reduceNeg, Int.reduceToNat, eq_self, ite_self, e1, hget]
      rw [← List.map_set])
    rw [w1]
    refine ⟨_, rfl, ws, rfl, by omega, w3, w4.tr ((ze.ad PEq.rf).tr (PEq.of_eq fun x => ?_))⟩
    rw [ev_take_succ xs j a x ha, ev_pcm]
    grind
  · rintro _ ⟨zs, rfl, zl, zp, ze⟩
    refine ⟨zs, rfl, zl, zp, ?_⟩
    rwa [enumX_len', List.length_map, List.take_length] at ze
end SC
namespace SC
open PySem DL
/-- a choice by numbers, as data -/
def ixs (one : List Nat) : D := .list (one.map fun (i : Nat) => .int (i : Int))
theorem ixs_snoc (one : List Nat) (i : Nat) (h : one.length ≤ 1000) : addV (ixs one) (.list [.int (i : Int)]) = .ok (ixs (one ++ [i])) := by
  unfold ixs
  rw [addV_lst (by simp; omega)]
  simp
theorem neV_ixs (one : List Nat) : neV (ixs one) (.list []) = .ok (.bool (!one.isEmpty)) := by
  have h : SeqAt.shaped (ixs one) = true := shaped_intL' one
  unfold neV
  rw [h, shaped_nil]
  cases one with
  | nil => simp [ixs, PyData.eqv, PyData.eqvAll]
  | cons a r => simp [ixs, PyData.eqv, PyData.eqvAll]
theorem atI_last {α : Type} {xs : List α} {v : α} (h : xs.getLast? = some v) : L2.atI xs (-1) = some v := by
  have hl : 0 < xs.length := by
    cases xs with
    | nil => simp at h
    | cons _ _ => simp
  rw [List.getLast?_eq_getElem?] at h
  unfold L2.atI L2.ixN
  rw [if_neg (by omega), if_pos (by omega), Option.bind_some, ← h]
  congr 1
  omega
theorem first_ok (one : List Nat) : ifR (.ok (!one.isEmpty)) ((bd2 (ixV (ixs one) (.int (-1))) (Res.ok (PyData.int 1)) addV).bd fun first_1 => (Res.ok first_1)) (Res.ok (PyData.int 0)) = .ok (.int ((nxt 0 one : Nat) : Int)) := by
  cases c : one.getLast? with
  | none =>
    rw [List.getLast?_eq_none_iff.mp c]
    rfl
  | some i =>
    have e : one.isEmpty = false := by cases one with | nil => simp at c | cons _ _ => rfl
    have h : L2.atI (one.map fun (i : Nat) => PyData.int (i : Int)) (-1) = some (.int (i : Int)) := atI_last (by rw [List.getLast?_map, c]; rfl)
    rw [e]
    have h2 : ixV (ixs one) (.int (-1)) = .ok (.int (i : Int)) := by
      unfold ixs
      simp only [ixV, h]
    rw [h2]
    unfold nxt
    rw [c]
    simp
theorem ext_ok (one : List Nat) (m : Nat) (h : one.length ≤ 1000) : lcR (fun at_ => (Res.ok true)) (fun at_ => addV (ixs one) (PyData.list [at_])) (rangeL ((nxt 0 one : Nat) : Int) ((m : Int) - ((nxt 0 one : Nat) : Int)).toNat) = .ok ((ext1 0 m one).map ixs) := by
  have e : rangeL ((nxt 0 one : Nat) : Int) ((m : Int) - ((nxt 0 one : Nat) : Int)).toNat = (List.range' (nxt 0 one) (m - nxt 0 one)).map fun (i : Nat) => .int (i : Int) := by
    unfold rangeL
    rw [List.range'_eq_map_range, List.map_map, show ((m : Int) - ((nxt 0 one : Nat) : Int)).toNat = m - nxt 0 one by omega]
    exact List.map_congr_left fun i _ => by simp
  rw [e, lc_of (f := fun (i : Nat) => PyData.int (i : Int)) (g := fun i => ixs (one ++ [i])) (fun _ _ => rfl) (fun i _ => ixs_snoc one i h)]
  unfold ext1
  rw [List.map_map]
  rfl
theorem take_flat {α β : Type} (f : α → List β) (l : List α) (j : Nat) : ((l.take j).flatMap f).length ≤ (l.flatMap f).length := by
  have e : l.flatMap f = (l.take j).flatMap f ++ (l.drop j).flatMap f := by rw [← List.flatMap_append, List.take_append_drop]
  rw [e, List.length_append]
  omega
theorem choices_ok {xs : List D} {n : Nat} (hl : xs.length ≤ 40) (hn : n ≤ 40) (hb : ∀ j, j ≤ n → (chs (List.range xs.length) j).length ≤ 1000000) : m_choices (.list xs) (.int (n : Int)) = .ok (.list ((chs xs n).map .list)) := by
  unfold m_choices
  simp (disch := (first | assumption | omega | decide | (simp only [List.length_cons, List.length_nil, List.length_map, List.length_append]; omega))) only [bd_ok, bd_exc, bd2_ok, consR_ok, nx_ok, ap1_ok, ap2_ok, ap3_ok, ap4_ok, ap5_ok, un2_tup, un3_tup, onL_list, addV_int, subV_int, ltV_int, leV_int, gtV_int, geV_int, augI_int, negV_int, eqV_int, neV_int, bl_bool, ifR_ok, andR_ok, orR_ok, notR_ok, andV_ok, orV_ok, notV_ok, lenV_list, lenV_tup, List.length_map, List.length_cons, List.length_nil, seqItems_list, seqItems_tup, enumA_list, enumA_tup, zipAA_list, zipAA_tup, revA_tup, revA_list, tupleV_list, tupleV_tup, listV_list, listV_tup, max2V_int, min2V_int, lstR_nil, thenC_next, thenC_ret, Bool.not_true, Bool.not_false, if_true, if_false, Bool.false_eq_true, modV_int, fdivV_a, mulI_a, mulI_b, range1_a, range2_a, lstR_ok, tupR_ok, app1_ok, ix_intsA, ix_intsT, isi_int_int, isi_bool_int, isi_bool_bool, isi_list_list, isi_tup_tup, isNV_int, isNV_none, isNV_list, isNV_tup, notNV_int, notNV_none, notNV_list, notNV_tup, addV_lst, addV_tup, partV_int, slR_list, slR_tup, setL_a, chV_int, Int.zero_add, Int.toNat_natCast, decide_true, decide_false, List.length_append, List.length_singleton, Nat.reduceAdd, Nat.zero_add, Int.cast_ofNat_Int, Int.natCast_zero, Int.natCast_one, Int.reduceLT, Int.reduceLE, Int.reduceEq, Int.reduceNe, Int.reduceAdd, Int.reduceSub, Int.reduceMul, Int.reduceNeg, Int.reduceToNat, eq_self, ite_self]
  refine forN_range_then (P := fun r => r = _) (I := fun k s => s = PyData.list ((chs (List.range xs.length) k).map ixs)) ?_ ?_ ?_
  · rw [chs_zero]; rfl
  · intro k s hk hs
    subst hs
    simp (disch := (first | assumption | omega | decide | (simp only [List.length_cons, List.length_nil, List.length_map, List.length_append]; omega))) only [bd_ok, bd_exc, bd2_ok, consR_ok, nx_ok, ap1_ok, ap2_ok, ap3_ok, ap4_ok, ap5_ok, un2_tup, un3_tup, onL_list, addV_int, subV_int, ltV_int, leV_int, gtV_int, geV_int, augI_int, negV_int, eqV_int, neV_int, bl_bool, ifR_ok, andR_ok, orR_ok, notR_ok, andV_ok, orV_ok, notV_ok, lenV_list, lenV_tup, List.length_map, List.length_cons, List.length_nil, seqItems_list, seqItems_tup, enumA_list, enumA_tup, zipAA_list, zipAA_tup, revA_tup, revA_list, tupleV_list, tupleV_tup, listV_list, listV_tup, max2V_int, min2V_int, lstR_nil, thenC_next, thenC_ret, Bool.not_true, Bool.not_false, if_true, if_false, Bool.false_eq_true, modV_int, fdivV_a, mulI_a, mulI_b, range1_a, range2_a, lstR_ok, tupR_ok, app1_ok, ix_intsA, ix_intsT, isi_int_int, isi_bool_int, isi_bool_bool, isi_list_list, isi_tup_tup, isNV_int, isNV_none, isNV_list, isNV_tup, notNV_int, notNV_none, notNV_list, notNV_tup, addV_lst, addV_tup, partV_int, slR_list, slR_tup, setL_a, chV_int, Int.zero_add, Int.toNat_natCast, decide_true, decide_false, List.length_append, List.length_singleton, Nat.reduceAdd, Nat.zero_add, Int.cast_ofNat_Int, Int.natCast_zero, Int.natCast_one, Int.reduceLT, Int.reduceLE, Int.reduceEq, Int.reduceNe, Int.reduceAdd, Int.reduceSub, Int.reduceMul, Int.reduceNeg, Int.reduceToNat, eq_self, ite_self]
    refine forN_then (P := fun r => ∃ s1, r = .ok s1 ∧ s1 = PyData.list ((chs (List.range xs.length) (k + 1)).map ixs)) (I := fun j s => s = PyData.list ((((chs (List.range xs.length) k).take j).flatMap (ext1 0 xs.length)).map ixs)) rfl ?_ ?_
    · intro j d s hj hs
      subst hs
      obtain ⟨one, ho, rfl⟩ : ∃ one, (chs (List.range xs.length) k)[j]? = some one ∧ d = ixs one := by
        rw [List.getElem?_map] at hj
        cases c : (chs (List.range xs.length) k)[j]? with
        | none => rw [c] at hj; cases hj
        | some one => rw [c] at hj; cases hj; exact ⟨one, rfl, rfl⟩
      obtain ⟨sub, len⟩ := mem_chs.mp (List.mem_of_getElem? ho)
      have hlo : one.length ≤ 1000 := by omega
      have hx : ¬ 1000 < nxt 0 one := by
        unfold nxt
        cases c : one.getLast? with
        | none => simp
        | some i =>
          have := List.mem_range.mp (sub.subset (List.mem_of_getLast? c))
          simp only
          omega
      have hz1 : (ext1 0 xs.length one).length ≤ 1000 := by unfold ext1; simp; omega
      refine ⟨_, ?_, rfl⟩
      simp (disch := (first | assumption | omega | decide | (simp only [List.length_cons, List.length_nil, List.length_map, List.length_append]; omega))) only [bd_ok, bd_exc, bd2_ok, consR_ok, nx_ok, ap1_ok, ap2_ok, ap3_ok, ap4_ok, ap5_ok, un2_tup, un3_tup, onL_list, addV_int, subV_int, ltV_int, leV_int, gtV_int, geV_int, augI_int, negV_int, eqV_int, neV_int, bl_bool, ifR_ok, andR_ok, orR_ok, notR_ok, andV_ok, orV_ok, notV_ok, lenV_list, lenV_tup, List.length_map, List.length_cons, List.length_nil, seqItems_list, seqItems_tup, enumA_list, enumA_tup, zipAA_list, zipAA_tup, revA_tup, revA_list, tupleV_list, tupleV_tup, listV_list, listV_tup, max2V_int, min2V_int, lstR_nil, thenC_next, thenC_ret, Bool.not_true, Bool.not_false, if_true, if_false, Bool.false_eq_true, modV_int, fdivV_a, mulI_a, mulI_b, range1_a, range2_a, lstR_ok, tupR_ok, app1_ok, ix_intsA, ix_intsT, isi_int_int, isi_bool_int, isi_bool_bool, isi_list_list, isi_tup_tup, isNV_int, isNV_none, isNV_list, isNV_tup, notNV_int, notNV_none, notNV_list, notNV_tup, addV_lst, addV_tup, partV_int, slR_list, slR_tup, setL_a, chV_int, Int.zero_add, Int.toNat_natCast, decide_true, decide_false, List.length_append, List.length_singleton, Nat.reduceAdd, Nat.zero_add, Int.cast_ofNat_Int, Int.natCast_zero, Int.natCast_one, Int.reduceLT, Int.reduceLE, Int.reduceEq, Int.reduceNe, Int.reduceAdd, Int.reduceSub, Int.reduceMul, Int.reduceNeg, Int.reduceToNat, eq_self, ite_self, neV_ixs, first_ok one, ext_ok one xs.length hlo]
      simp only [bd_ok, extL, onL_list]
      have e1 : (chs (List.range xs.length) k).take (j + 1) = (chs (List.range xs.length) k).take j ++ [one] := by rw [List.take_succ, ho]; rfl
      have hz := take_flat (ext1 0 xs.length) (chs (List.range xs.length) k) (j + 1)
      have st : (chs (List.range xs.length) k).flatMap (ext1 0 xs.length) = chs (List.range xs.length) (k + 1) := by
        have := chs_step xs.length 0 k
        rw [Nat.zero_add, ← List.range_eq_range'] at this
        exact this.symm
      rw [st] at hz
      have hb1 := hb (k + 1) (by omega)
      rw [e1, List.flatMap_append] at hz ⊢
      simp only [List.flatMap_cons, List.flatMap_nil, List.append_nil, List.length_append] at hz ⊢
      have hf : fits (((((chs (List.range xs.length) k).take j).flatMap (ext1 0 xs.length)).map ixs).length + ((ext1 0 xs.length one).map ixs).length) = true := by
        simp only [fits, List.length_map, decide_eq_true_eq]
        omega
      rw [hf]
      simp
    · intro s hs
      refine ⟨_, rfl, ?_⟩
      subst hs
      rw [List.length_map, List.take_length]
      have := chs_step xs.length 0 k
      rw [Nat.zero_add, ← List.range_eq_range'] at this
      rw [← this]
  · intro s hs
    subst hs
    have hx : xs = (List.range xs.length).map fun i => (xs[i]?).getD .none := by
      apply List.ext_getElem?
      intro i
      rw [List.getElem?_map]
      by_cases h : i < xs.length
      · rw [List.getElem?_range h, List.getElem?_eq_getElem h]; simp [h]
      · rw [List.getElem?_eq_none (by omega), List.getElem?_eq_none (by simp; omega)]; rfl
    have hc : chs xs n = (chs (List.range xs.length) n).map fun one => one.map fun i => (xs[i]?).getD .none := by
      conv => lhs; rw [hx]
      rw [chs_map]
    have hb0 := hb n (Nat.le_refl _)
    rw [hc, List.map_map]
    simp only [bd_ok, seqItems_list]
    rw [lc_of (g := fun one => PyData.list (one.map fun i => (xs[i]?).getD .none)) (fun _ _ => rfl) (fun one ho => ?_), bd_ok, lstR_ok (by simp; omega)]
    · rfl
    · obtain ⟨sub, len⟩ := mem_chs.mp ho
      show (((seqItems (ixs one))).bd fun ds => (lcR (fun _ => Res.ok true) (fun at__1 => bd2 (Res.ok (PyData.list xs)) (Res.ok at__1) ixV) ds).bd lstR) = _
      unfold ixs
      rw [seqItems_list, bd_ok, lc_of (g := fun i => (xs[i]?).getD .none) (fun _ _ => rfl) (fun i hi => ?_), bd_ok, lstR_ok (by simp; omega)]
      have := List.mem_range.mp (sub.subset hi)
      rw [bd2_ok, ix_list (by omega) (by rw [Int.toNat_natCast, List.getElem?_eq_getElem this])]
      simp [this]
end SC
namespace SC
open PySem DL
/-! ### rows -/
def oD : Option Int → D
  | some i => .int i
  | none => .none
abbrev rowL (r : List (Option Int)) : D := .list (r.map oD)
end SC
namespace SC
open PySem DL
/-- the numbers of the heard places, from n on -/
def hrd : Nat → List (Option Int) → List Int
  | _, [] => []
  | n, some _ :: r => (n : Int) :: hrd (n + 1) r
  | n, none :: r => hrd (n + 1) r
theorem hrd_mem : ∀ (r : List (Option Int)) (n : Nat) (i : Int), i ∈ hrd n r → ∃ j : Nat, i = ((n + j : Nat) : Int) ∧ ∃ a, r[j]? = some (some a)
  | [], _, _, h => by cases h
  | some a :: r, n, i, h => by
    rcases List.mem_cons.mp h with rfl | h
    · exact ⟨0, rfl, a, rfl⟩
    · obtain ⟨j, e, b, hb⟩ := hrd_mem r (n + 1) i h
      exact ⟨j + 1, by rw [e]; congr 1; omega, b, by simpa using hb⟩
  | none :: r, n, i, h => by
    obtain ⟨j, e, b, hb⟩ := hrd_mem r (n + 1) i h
    exact ⟨j + 1, by rw [e]; congr 1; omega, b, by simpa using hb⟩
theorem hrd_len : ∀ (r : List (Option Int)) (n : Nat), (hrd n r).length ≤ r.length
  | [], _ => Nat.le_refl _
  | some a :: r, n => by simp only [hrd, List.length_cons]; have := hrd_len r (n + 1); omega
  | none :: r, n => by simp only [hrd, List.length_cons]; have := hrd_len r (n + 1); omega
end SC
namespace SC
open PySem DL
/-- a comprehension over numbers with a test -/
theorem lc_flt {cond : D → Res Bool} {elt : D → Res D} {c : Int → Bool} : ∀ {xs : List Int}, (∀ a ∈ xs, cond (.int a) = .ok (c a)) → (∀ a ∈ xs, elt (.int a) = .ok (.int a)) → lcR cond elt (xs.map .int) = .ok ((xs.filter c).map .int)
  | [], _, _ => rfl
  | a :: xs, h1, h2 => by
    have ih := lc_flt (xs := xs) (fun x hx => h1 x (by simp [hx])) (fun x hx => h2 x (by simp [hx]))
    simp only [List.map_cons]
    unfold lcR
    rw [h1 a (by simp), h2 a (by simp), ih]
    cases hc : c a <;> simp [hc]
theorem row_get {r : List (Option Int)} {j : Nat} {o : Option Int} (h : r[j]? = some o) : ixV (rowL r) (.int ((j : Nat) : Int)) = .ok (oD o) := by
  refine ix_list (by omega) ?_
  rw [List.getElem?_map, Int.toNat_natCast, h]; rfl
/-- whether it fits there -/
def fitB (p : Int) (places : List Int) (r : List (Option Int)) (xs : List Int) (i : Int) : Bool := decide (some (some (ev xs ((places[i.toNat]?).getD 0) % p)) = r[i.toNat]?)
end SC
namespace SC
open PySem DL
theorem range_hrd {c : Int → Bool} : ∀ (r : List (Option Int)) (n : Nat), (∀ j o, r[j]? = some o → c ((n + j : Nat) : Int) = o.isSome) → ((List.range' n r.length).map fun (i : Nat) => (i : Int)).filter c = hrd n r
  | [], _, _ => rfl
  | o :: r, n, h => by
    have ih := range_hrd r (n + 1) fun j q hq => by
      have := h (j + 1) q (by simpa using hq)
      rwa [show n + (j + 1) = n + 1 + j by omega] at this
    have h0 := h 0 o rfl
    rw [Nat.add_zero] at h0
    rw [List.length_cons, List.range'_succ, List.map_cons, List.filter_cons, h0, ih]
    cases o <;> rfl
theorem law_fits_ok {p k : Int} (P : Prm p) {places : List Int} {r : List (Option Int)} {xs : List Int} (hl : r.length = places.length) (h : r.length ≤ 1000) : m_law_fits (.tuple [.int p, .int k, intT places]) (rowL r) (intT xs) = .ok (intL ((hrd 0 r).filter (fitB p places r xs))) := by
  unfold m_law_fits
  simp only [bd2_ok]
  rw [ix_tup (xs := [.int p, .int k, intT places]) (v := intT places) (i := 2) (by decide) rfl, ix_tup (xs := [.int p, .int k, intT places]) (v := .int p) (i := 0) (by decide) rfl]
  simp only [bd_ok, lenV_list, List.length_map]
  rw [range1_ok (by omega) (by omega), Int.toNat_natCast]
  simp only [bd_ok]
  rw [rangeL_ints]
  let c : Int → Bool := fun i => match r[i.toNat]? with | some (some _) => true | _ => false
  rw [lc_flt (c := c) (fun i hi => by
    obtain ⟨j, hj, rfl⟩ := List.mem_map.mp hi
    have hj := List.mem_range.mp hj
    rw [row_get (List.getElem?_eq_getElem hj)]
    simp only [bd2_ok]
    show _ = Res.ok (match r[((j : Nat) : Int).toNat]? with | some (some _) => true | _ => false)
    rw [Int.toNat_natCast, List.getElem?_eq_getElem hj]
    cases r[j] <;> rfl) (fun a _ => rfl)]
  have e : ((List.range r.length).map fun (i : Nat) => (i : Int)).filter c = hrd 0 r := by
    rw [List.range_eq_range']
    refine range_hrd r 0 fun j o ho => ?_
    show (match r[((0 + j : Nat) : Int).toNat]? with | some (some _) => true | _ => false) = _
    rw [Int.toNat_natCast, Nat.zero_add, ho]
    cases o <;> rfl
  rw [e]
  simp only [bd_ok]
  rw [lstR_ok (by have := hrd_len r 0; simp; omega)]
  simp only [bd_ok, seqItems_list]
  rw [lc_flt (xs := hrd 0 r) (c := fitB p places r xs) (fun i hi => by
    obtain ⟨j, rfl, a, ha⟩ := hrd_mem r 0 i hi
    rw [Nat.zero_add]
    have hj : j < places.length := by
      rcases Nat.lt_or_ge j r.length with z | z
      · omega
      · rw [List.getElem?_eq_none z] at ha; cases ha
    rw [row_get ha]
    rw [ix_tup (xs := places.map .int) (v := .int places[j]) (i := (j : Int)) (by omega) (by rw [List.getElem?_map, Int.toNat_natCast, List.getElem?_eq_getElem hj]; rfl)]
    simp only [consR_ok, bd_ok, ap3_ok]
    rw [law_value_seq P (xs := xs) rfl]
    simp only [bd2_ok, oD, eqV_int, bd_ok, bl_bool]
    unfold fitB
    rw [Int.toNat_natCast, ha, List.getElem?_eq_getElem hj]
    simp) (fun a _ => rfl)]
  simp only [bd_ok]
  rw [lstR_ok (by have := hrd_len r 0; have := List.length_filter_le (fitB p places r xs) (hrd 0 r); simp; omega)]
end SC
namespace SC
open PySem DL
theorem foldl_ins_mem {α : Type} [DecidableEq α] : ∀ (ms : List α) (l : List α) (x : α), x ∈ ms.foldl ins l ↔ x ∈ l ∨ x ∈ ms
  | [], l, x => by simp
  | m :: ms, l, x => by
    rw [List.foldl_cons, foldl_ins_mem ms, mem_ins, List.mem_cons]
    constructor
    · rintro ((h | h) | h)
      · exact .inl h
      · exact .inr (.inl h)
      · exact .inr (.inr h)
    · rintro (h | h | h)
      · exact .inl (.inl h)
      · exact .inl (.inr h)
      · exact .inr h
theorem foldl_ins_nodup {α : Type} [DecidableEq α] : ∀ (ms : List α) (l : List α), l.Nodup → (ms.foldl ins l).Nodup
  | [], _, h => h
  | m :: ms, l, h => foldl_ins_nodup ms (ins l m) (nodup_ins h)
theorem foldl_ins_len {α : Type} [DecidableEq α] : ∀ (ms : List α) (l : List α), (ms.foldl ins l).length ≤ l.length + ms.length
  | [], l => by simp
  | m :: ms, l => by
    have h1 := foldl_ins_len ms (ins l m)
    have h2 := len_ins (l := l) (z := m)
    rw [List.foldl_cons, List.length_cons]
    omega
end SC
namespace SC
open PySem DL
theorem bc_step (m i : Nat) : (bc m i : Int) * ((m : Int) - i) / ((i : Int) + 1) = bc m (i + 1) := by
  rw [← bc_mul, Int.mul_ediv_cancel_left _ (by omega)]
theorem choose_ok {m f : Nat} (hm : m ≤ 1000) (hf : f ≤ 1000) : m_choose (.int (m : Int)) (.int (f : Int)) = .ok (.int (bc m f : Int)) := by
  unfold m_choose
  simp (disch := (first | assumption | omega | decide | (simp only [List.length_cons, List.length_nil, List.length_map, List.length_append]; omega))) only [bd_ok, bd_exc, bd2_ok, consR_ok, nx_ok, ap1_ok, ap2_ok, ap3_ok, ap4_ok, ap5_ok, un2_tup, un3_tup, onL_list, addV_int, subV_int, ltV_int, leV_int, gtV_int, geV_int, augI_int, negV_int, eqV_int, neV_int, bl_bool, ifR_ok, andR_ok, orR_ok, notR_ok, andV_ok, orV_ok, notV_ok, lenV_list, lenV_tup, List.length_map, List.length_cons, List.length_nil, seqItems_list, seqItems_tup, enumA_list, enumA_tup, zipAA_list, zipAA_tup, revA_tup, revA_list, tupleV_list, tupleV_tup, listV_list, listV_tup, max2V_int, min2V_int, lstR_nil, thenC_next, thenC_ret, Bool.not_true, Bool.not_false, if_true, if_false, Bool.false_eq_true, modV_int, fdivV_a, mulI_a, mulI_b, range1_a, range2_a, lstR_ok, tupR_ok, app1_ok, ix_intsA, ix_intsT, isi_int_int, isi_bool_int, isi_bool_bool, isi_list_list, isi_tup_tup, isNV_int, isNV_none, isNV_list, isNV_tup, notNV_int, notNV_none, notNV_list, notNV_tup, addV_lst, addV_tup, partV_int, slR_list, slR_tup, setL_a, chV_int, Int.zero_add, Int.toNat_natCast, decide_true, decide_false, List.length_append, List.length_singleton, Nat.reduceAdd, Nat.zero_add, Int.cast_ofNat_Int, Int.natCast_zero, Int.natCast_one, Int.reduceLT, Int.reduceLE, Int.reduceEq, Int.reduceNe, Int.reduceAdd, Int.reduceSub, Int.reduceMul, Int.reduceNeg, Int.reduceToNat, eq_self, ite_self]
  refine forN_range_then (P := fun r => r = _) (I := fun i s => s = .int (bc m i : Int)) (by rw [bc_z]; rfl) ?_ ?_
  · rintro i s hi rfl
    refine ⟨_, ?_, rfl⟩
    have hi' : i < f := by omega
    have e : (0 + (i : Int)) + 1 = (i : Int) + 1 := by omega
    have e2 : (m : Int) - (0 + (i : Int)) = (m : Int) - i := by omega
    simp (disch := (first | assumption | omega | decide | (simp only [List.length_cons, List.length_nil, List.length_map, List.length_append]; omega))) only [bd_ok, bd_exc, bd2_ok, consR_ok, nx_ok, ap1_ok, ap2_ok, ap3_ok, ap4_ok, ap5_ok, un2_tup, un3_tup, onL_list, addV_int, subV_int, ltV_int, leV_int, gtV_int, geV_int, augI_int, negV_int, eqV_int, neV_int, bl_bool, ifR_ok, andR_ok, orR_ok, notR_ok, andV_ok, orV_ok, notV_ok, lenV_list, lenV_tup, List.length_map, List.length_cons, List.length_nil, seqItems_list, seqItems_tup, enumA_list, enumA_tup, zipAA_list, zipAA_tup, revA_tup, revA_list, tupleV_list, tupleV_tup, listV_list, listV_tup, max2V_int, min2V_int, lstR_nil, thenC_next, thenC_ret, Bool.not_true, Bool.not_false, if_true, if_false, Bool.false_eq_true, modV_int, fdivV_a, mulI_a, mulI_b, range1_a, range2_a, lstR_ok, tupR_ok, app1_ok, ix_intsA, ix_intsT, isi_int_int, isi_bool_int, isi_bool_bool, isi_list_list, isi_tup_tup, isNV_int, isNV_none, isNV_list, isNV_tup, notNV_int, notNV_none, notNV_list, notNV_tup, addV_lst, addV_tup, partV_int, slR_list, slR_tup, setL_a, chV_int, Int.zero_add, Int.toNat_natCast, decide_true, decide_false, List.length_append, List.length_singleton, Nat.reduceAdd, Nat.zero_add, Int.cast_ofNat_Int, Int.natCast_zero, Int.natCast_one, Int.reduceLT, Int.reduceLE, Int.reduceEq, Int.reduceNe, Int.reduceAdd, Int.reduceSub, Int.reduceMul, Int.reduceNeg, Int.reduceToNat, eq_self, ite_self, e2, e, bc_step]
  · rintro s rfl
    simp
end SC
namespace SC
open PySem DL
/-! ### the product of x less some numbers -/
def prL (g : List Int) (c : List Int) : List Int := c.foldl (fun g x => mx (-x) 0 g) g
theorem prL_snoc (g c : List Int) (y : Int) : prL g (c ++ [y]) = mx (-y) 0 (prL g c) := by
  unfold prL
  rw [List.foldl_append]
  rfl
theorem prL_len : ∀ (c g : List Int), (prL g c).length = g.length + c.length
  | [], g => rfl
  | y :: c, g => by
    show (prL (mx (-y) 0 g) c).length = _
    rw [prL_len c, mx_len, List.length_cons]
    omega
theorem pr_zero {x : Int} : ∀ (c g : List Int), ev g x = 0 → ev (prL g c) x = 0
  | [], _, h => h
  | y :: c, g, h => pr_zero c (mx (-y) 0 g) (by rw [ev_mx, h]; simp)
theorem pr_root {x : Int} : ∀ (c g : List Int), x ∈ c → ev (prL g c) x = 0
  | y :: c, g, h => by
    rcases List.mem_cons.mp h with rfl | h
    · exact pr_zero c _ (by rw [ev_mx, show x + -x = 0 by omega]; simp)
    · exact pr_root c _ h
theorem pr_ne {p x : Int} (P : Prm p) : ∀ (c g : List Int), ¬ p ∣ ev g x → (∀ y ∈ c, ¬ p ∣ x - y) → ¬ p ∣ ev (prL g c) x
  | [], _, h, _ => h
  | y :: c, g, h, hc => pr_ne P c (mx (-y) 0 g) (fun z => by
    rw [ev_mx, Int.zero_add] at z
    rcases P.pr z with q | q
    · exact hc y (by simp) (by rwa [show x - y = x + -y by omega])
    · exact h q) fun z hz => hc z (by simp [hz])
theorem mx_last (a c : Int) : ∀ (g : List Int) (d : Int), g.getLast? = some d → (mx a c g).getLast? = some d := fun g => by
  induction g generalizing c with
  | nil => intro d h; cases h
  | cons b g ih =>
    intro d h
    rw [mx]
    cases g with
    | nil =>
      simp at h
      subst h
      rfl
    | cons e g =>
      rw [List.getLast?_cons_cons] at h
      have := ih b d h
      rw [mx] at this ⊢
      rw [List.getLast?_cons_cons]
      exact this
theorem pr_last : ∀ (c g : List Int) (d : Int), g.getLast? = some d → (prL g c).getLast? = some d
  | [], _, _, h => h
  | y :: c, g, d, h => pr_last c _ d (mx_last _ _ _ _ h)
theorem peq_list {p : Int} (P : Prm p) {f g : List Int} (h : PEq p (ev f) (ev g)) (hl : f.length = g.length) (hf : InP p f) : f = g.map (· % p) := by
  have h0 : PEq p (ev (padd f (pcm (-1) g))) fun _ => 0 := by
    refine (PEq.of_eq fun x => ?_).tr ((h.sb (PEq.rf (F := ev g))).tr (PEq.of_eq fun x => by show ev g x - ev g x = 0; omega))
    rw [ev_padd, ev_pcm]
    show ev f x + -1 * ev g x = ev f x - ev g x
    omega
  have h1 := peq_zero.mp h0
  refine List.ext_getElem (by rw [List.length_map, hl]) fun i a b => ?_
  have hc : p ∣ coef (padd f (pcm (-1) g)) i := by
    rcases coef_in (padd f (pcm (-1) g)) i with e | e
    · rw [e]; exact Int.dvd_zero p
    · exact h1 _ e
  rw [coef_padd, coef_pcm] at hc
  have e1 : coef f i = f[i] := by unfold coef; rw [List.getElem?_eq_getElem a]; rfl
  have hgl : i < g.length := by omega
  have e2 : coef g i = g[i] := by unfold coef; rw [List.getElem?_eq_getElem hgl]; rfl
  rw [e1, e2] at hc
  have hm : Eqm p f[i] g[i] := by
    show p ∣ f[i] - g[i]
    rwa [show f[i] - g[i] = f[i] + -1 * g[i] by omega]
  have hi := hf f[i] (List.getElem_mem a)
  rw [List.getElem_map]
  exact hm.mod_eq hi.1 hi.2
/-- .. by the prime -/
def pp (p : Int) (c : List Int) : List Int := (prL [1] c).map (· % p)
theorem pp_len (p : Int) (c : List Int) : (pp p c).length = c.length + 1 := by
  unfold pp
  rw [List.length_map, prL_len]
  simp
  omega
theorem pp_in {p : Int} (P : Prm p) (c : List Int) : InP p (pp p c) := fun a ha => by
  obtain ⟨b, _, rfl⟩ := List.mem_map.mp ha
  exact ⟨P.mod0 b, P.mod1 b⟩
theorem mod_in {p : Int} {f : List Int} (h : InP p f) : f.map (· % p) = f := by
  have : ∀ l : List Int, (∀ a ∈ l, 0 ≤ a ∧ a < p) → l.map (· % p) = l := fun l => by
    induction l with
    | nil => intro _; rfl
    | cons a l ih =>
      intro h
      have h1 := h a (by simp)
      rw [List.map_cons, ih fun b hb => h b (by simp [hb]), Int.emod_eq_of_lt h1.1 h1.2]
  exact this f h
theorem prod_loop {p : Int} (P : Prm p) {c : List Int} (hl : c.length ≤ 1000) : forN (fun x (s__2 : D) => (((consR (Res.ok (PyData.int p)) (consR (Res.ok s__2) (consR ((consR (bd2 (Res.ok (PyData.int 0)) (Res.ok x) subV) (consR (Res.ok (PyData.int 1)) (Res.ok ([] : List D)))).bd tupR) (Res.ok ([] : List D))))).bd (ap3 m_times)).bd fun product_1 => (Res.ok product_1))) (c.map .int) (intT [1]) = .ok (intT (pp p c)) := by
  have p2 := P.two
  obtain ⟨s', e, zs, rfl, z2, z3, z4⟩ := forN_inv (body := fun x (s__2 : D) => (((consR (Res.ok (PyData.int p)) (consR (Res.ok s__2) (consR ((consR (bd2 (Res.ok (PyData.int 0)) (Res.ok x) subV) (consR (Res.ok (PyData.int 1)) (Res.ok ([] : List D)))).bd tupR) (Res.ok ([] : List D))))).bd (ap3 m_times)).bd fun product_1 => (Res.ok product_1)))
    (fun j s => ∃ zs : List Int, s = intT zs ∧ zs.length = j + 1 ∧ InP p zs ∧ PEq p (ev zs) (ev (prL [1] (c.take j)))) (c.map .int) 0 (intT [1]) ⟨[1], rfl, rfl, fun a ha => by simp at ha; omega, PEq.rf⟩ fun j d s hj hs => by
    rw [Nat.zero_add] at hs ⊢
    obtain ⟨zs, rfl, z2, z3, z4⟩ := hs
    rw [List.getElem?_map] at hj
    cases hc : c[j]? with
    | none => rw [hc] at hj; cases hj
    | some y =>
      rw [hc] at hj
      cases hj
      have hjl := (List.getElem?_eq_some_iff.mp hc).1
      obtain ⟨ws, w1, w2, w3, w4⟩ := times_pe P z3 (ys := [0 - y, 1]) (by omega) (by simp) (by simp; omega)
      have w1' : m_times (.int p) (intT zs) (.tuple [.int (0 - y), .int 1]) = .ok (intT ws) := w1
      refine ⟨intT ws, ?_, ws, rfl, by rw [w2, z2]; rfl, w3, ?_⟩
      · simp (disch := (first | assumption | omega | decide | (simp only [List.length_cons, List.length_nil, List.length_map, List.length_append]; omega))) only [bd_ok, bd_exc, bd2_ok, consR_ok, nx_ok, ap1_ok, ap2_ok, ap3_ok, ap4_ok, ap5_ok, un2_tup, un3_tup, onL_list, addV_int, subV_int, ltV_int, leV_int, gtV_int, geV_int, augI_int, negV_int, eqV_int, neV_int, bl_bool, ifR_ok, andR_ok, orR_ok, notR_ok, andV_ok, orV_ok, notV_ok, lenV_list, lenV_tup, List.length_map, List.length_cons, List.length_nil, seqItems_list, seqItems_tup, enumA_list, enumA_tup, zipAA_list, zipAA_tup, revA_tup, revA_list, tupleV_list, tupleV_tup, listV_list, listV_tup, max2V_int, min2V_int, lstR_nil, thenC_next, thenC_ret, Bool.not_true, Bool.not_false, if_true, if_false, Bool.false_eq_true, modV_int, fdivV_a, mulI_a, mulI_b, range1_a, range2_a, lstR_ok, tupR_ok, app1_ok, ix_intsA, ix_intsT, isi_int_int, isi_bool_int, isi_bool_bool, isi_list_list, isi_tup_tup, isNV_int, isNV_none, isNV_list, isNV_tup, notNV_int, notNV_none, notNV_list, notNV_tup, addV_lst, addV_tup, partV_int, slR_list, slR_tup, setL_a, chV_int, Int.zero_add, Int.toNat_natCast, decide_true, decide_false, List.length_append, List.length_singleton, Nat.reduceAdd, Nat.zero_add, Int.cast_ofNat_Int, Int.natCast_zero, Int.natCast_one, Int.reduceLT, Int.reduceLE, Int.reduceEq, Int.reduceNe, Int.reduceAdd, Int.reduceSub, Int.reduceMul, Int.reduceNeg, Int.reduceToNat, eq_self, ite_self, w1']
      · have e1 : c.take (j + 1) = c.take j ++ [y] := by rw [List.take_succ, hc]; rfl
        rw [e1, prL_snoc]
        refine w4.tr ((z4.ml PEq.rf (isP_ev _) (isP_ev _)).tr (PEq.of_eq fun x => ?_))
        rw [ev_mx]
        simp only [ev]
        grind
  rw [e]
  rw [List.length_map, Nat.zero_add] at z2 z4
  rw [List.take_length] at z4
  rw [peq_list P z4 (by rw [z2, prL_len]; simp; omega) z3]
  rfl
/-! ### groups -/
theorem idx_dct (f : List Int → D) (z : List Int) : ∀ l : List (List Int), (l.map fun y => (intT y, f y)).findIdx? (sameK (intT z)) = l.findIdx? fun y => decide (y = z)
  | [] => rfl
  | y :: l => by
    rw [List.map_cons, List.findIdx?_cons, List.findIdx?_cons, idx_dct f z l, sameK_ints]
theorem set_dct (f : List Int → D) (z : List Int) (w : D) : ∀ {l : List (List Int)} {n : Nat}, l.Nodup → l[n]? = some z → (l.map fun y => (intT y, f y)).set n (intT z, w) = l.map fun y => (intT y, if y = z then w else f y)
  | [], _, _, h => by simp at h
  | y :: l, 0, nd, h => by
    simp at h
    subst h
    have hn := (List.nodup_cons.mp nd).1
    rw [List.map_cons, List.map_cons, List.set_cons_zero, if_pos rfl]
    congr 1
    refine List.map_congr_left fun x hx => ?_
    have : ¬ x = y := fun e => hn (e ▸ hx)
    rw [if_neg this]
  | y :: l, n + 1, nd, h => by
    have hz : l[n]? = some z := by simpa using h
    have hn := (List.nodup_cons.mp nd).1
    have : ¬ y = z := fun e => hn (e ▸ List.mem_of_getElem? hz)
    rw [List.map_cons, List.map_cons, List.set_cons_succ, set_dct f z w (List.nodup_cons.mp nd).2 hz, if_neg this]
theorem idx_mem {z : List Int} : ∀ {l : List (List Int)}, z ∈ l → ∃ n, (l.findIdx? fun y => decide (y = z)) = some n ∧ l[n]? = some z
  | y :: l, h => by
    rw [List.findIdx?_cons]
    by_cases e : y = z
    · subst e
      exact ⟨0, by simp, rfl⟩
    · rcases List.mem_cons.mp h with h | h
      · exact absurd h.symm e
      · obtain ⟨n, h1, h2⟩ := idx_mem h
        exact ⟨n + 1, by simp [e, h1], by simpa using h2⟩
theorem idx_none {z : List Int} : ∀ {l : List (List Int)}, z ∉ l → (l.findIdx? fun y => decide (y = z)) = none := fun {l} h => by
  rw [List.findIdx?_eq_none_iff]
  intro x hx
  exact decide_eq_false fun e => h (e ▸ hx)
/-- what stands with a key, of some pairs -/
def vls (L : List (List Int × List Int)) (z : List Int) : List (List Int) := (L.filter fun q => decide (q.1 = z)).map (·.2)
noncomputable def kys (L : List (List Int × List Int)) : List (List Int) := (L.map (·.1)).foldl ins []
noncomputable def grD (L : List (List Int × List Int)) : D := dctF (fun z => .list ((vls L z).map intT)) (kys L)
theorem vls_snoc (L : List (List Int × List Int)) (q : List Int × List Int) (z : List Int) : vls (L ++ [q]) z = if z = q.1 then vls L z ++ [q.2] else vls L z := by
  unfold vls
  rw [List.filter_append, List.map_append]
  by_cases h : q.1 = z
  · simp [h]
  · have : ¬ z = q.1 := fun e => h e.symm
    simp [h, this]
theorem kys_snoc (L : List (List Int × List Int)) (q : List Int × List Int) : kys (L ++ [q]) = ins (kys L) q.1 := by
  unfold kys
  rw [List.map_append, List.foldl_append]
  rfl
theorem kys_mem {L : List (List Int × List Int)} {z : List Int} : z ∈ kys L ↔ ∃ q ∈ L, q.1 = z := by
  unfold kys
  rw [foldl_ins_mem]
  simp
theorem kys_nd (L : List (List Int × List Int)) : (kys L).Nodup := foldl_ins_nodup _ _ .nil
theorem kys_len (L : List (List Int × List Int)) : (kys L).length ≤ L.length := by
  unfold kys
  have := foldl_ins_len (L.map (·.1)) []
  simpa using this
theorem group_step (L : List (List Int × List Int)) (q : List Int × List Int) (hl : L.length < 1000000) : ((slotG (grD L) (intT q.1)).bd fun d1 => appG d1 (intT q.1) (intT q.2)) = .ok (grD (L ++ [q])) := by
  have hkl := kys_len L
  have hvl : ∀ z, (vls L z).length ≤ L.length := fun z => by
    unfold vls
    rw [List.length_map]
    exact List.length_filter_le _ _
  have hs : slotG (grD L) (intT q.1) = .ok (dctF (fun z => .list ((vls L z).map intT)) (ins (kys L) q.1)) := by
    unfold grD
    simp only [slotG, dctF, keyT_intT, List.length_map, Option.isSome_some, idx_dct]
    rw [decide_eq_true (by omega)]
    simp only [Bool.and_self, if_true]
    unfold ins
    by_cases h : q.1 ∈ kys L
    · obtain ⟨n, h1, _⟩ := idx_mem h
      rw [h1, if_pos h]
    · rw [idx_none h, if_neg h]
      have hv : vls L q.1 = [] := by
        unfold vls
        rw [List.filter_eq_nil_iff.mpr fun x hx => ?_]
        · rfl
        · simp only [decide_eq_true_eq]
          exact fun e => h (kys_mem.mpr ⟨x, hx, e⟩)
      simp only [List.map_append, List.map_cons, List.map_nil, hv]
  rw [hs, bd_ok]
  obtain ⟨n, h1, h2⟩ := idx_mem (mem_ins.mpr (.inr rfl) : q.1 ∈ ins (kys L) q.1)
  have hg : ((ins (kys L) q.1).map fun y => (intT y, (PyData.list ((vls L y).map intT) : D)))[n]? = some (intT q.1, .list ((vls L q.1).map intT)) := by
    rw [List.getElem?_map, h2]
    rfl
  simp only [appG, dctF, idx_dct, h1, hg]
  rw [decide_eq_true (by rw [List.length_map]; have := hvl q.1; omega), if_pos rfl]
  rw [set_dct _ _ _ (nodup_ins (kys_nd L)) h2]
  unfold grD dctF
  rw [kys_snoc]
  congr 2
  refine List.map_congr_left fun y _ => ?_
  show _ = (intT y, PyData.list ((vls (L ++ [q]) y).map intT))
  rw [vls_snoc]
  by_cases e : y = q.1
  · rw [if_pos e, if_pos e, e, List.map_append]
    rfl
  · rw [if_neg e, if_neg e]
end SC
namespace SC
open PySem DL
section
variable {p k : Int} {places : List Int}
theorem pow_loop {p : Int} (P : Prm p) {n : Nat} (hn : n ≤ 16) : forN (fun step (s__1 : D) => ((bd2 (Res.ok s__1) (Res.ok (.int p)) mulI).bd fun by__1 => (Res.ok by__1))) (rangeL 0 n) (.int 1) = .ok (.int (p ^ n)) := by
  have p2 := P.two
  have p9 := P.hi
  have e0 : ∀ r : Res D, r.bd (fun s => Res.ok s) = r := fun r => by cases r <;> rfl
  rw [← e0 (forN _ _ _)]
  refine forN_range_then (P := fun r => r = _) (I := fun j s => s = .int (p ^ j)) (by rw [Int.pow_zero]) ?_ ?_
  · rintro j s hj rfl
    refine ⟨.int (p ^ (j + 1)), ?_, rfl⟩
    rw [bd2_ok, mulI_r _ (small_of (by omega) (by omega)), bd_ok, Int.pow_succ]
  · rintro s rfl
    rfl
theorem pow_small {p : Int} (P : Prm p) {n : Nat} (hn : n ≤ 16) : 0 < p ^ n ∧ (p ^ n).natAbs < 2 ^ 200 := by
  have p2 := P.two
  have p9 := P.hi
  have h0 : 0 < p ^ n := Int.pow_pos (by omega)
  refine ⟨h0, ?_⟩
  rw [Int.natAbs_pow]
  have h1 : p.natAbs ^ n ≤ 97 ^ n := Nat.pow_le_pow_left (by omega) n
  have h2 : (97 : Nat) ^ n ≤ 97 ^ 16 := Nat.pow_le_pow_right (by decide) hn
  have h3 : (97 : Nat) ^ 16 < 2 ^ 200 := Nat.lt_of_lt_of_le (show (97 : Nat) ^ 16 < 2 ^ 112 by decide) (Nat.pow_le_pow_right (by decide) (by decide))
  exact Nat.lt_of_le_of_lt h1 (Nat.lt_of_le_of_lt h2 h3)
def dueN (p : Int) (n t k : Nat) : Int := ((bc n t : Int) + p ^ (t - k) - 1) / p ^ (t - k)
theorem due_ok (P : Prm p) (k1 : 1 ≤ k) (h16 : places.length ≤ 16) {t : Nat} (hk : k ≤ (t : Int)) (ht : t ≤ places.length) : m_due_of (.tuple [.int p, .int k, intT places]) (.int (t : Int)) = .ok (.int (dueN p places.length t k.toNat)) := by
  have hr : range1 (.int ((t : Int) - k)) = .ok (rangeL 0 (t - k.toNat)) := by
    rw [range1_ok (by omega) (by omega)]
    congr 2
    omega
  have e1 : decide ((t : Int) < k) = false := decide_eq_false (by omega)
  have e2 : decide ((places.length : Int) < t) = false := decide_eq_false (by omega)
  have hl := pow_loop P (n := t - k.toNat) (by omega)
  have hc := choose_ok (m := places.length) (f := t) (by omega) (by omega)
  have hp := pow_small P (n := t - k.toNat) (by omega)
  unfold m_due_of
  simp only [bd2_ok, bd_ok] at hl
  obtain ⟨hp1, hp2⟩ := hp
  have hf := fdivW_ok (i := (bc places.length t : Int) + p ^ (t - k.toNat) - 1) hp1 hp2
  clear hp1 hp2
  simp (disch := (first | assumption | omega | decide | (simp only [List.length_cons, List.length_nil, List.length_map, List.length_append]; omega))) only [bd_ok, bd_exc, bd2_ok, consR_ok, nx_ok, ap1_ok, ap2_ok, ap3_ok, ap4_ok, ap5_ok, un2_tup, un3_tup, onL_list, addV_int, subV_int, ltV_int, leV_int, gtV_int, geV_int, augI_int, negV_int, eqV_int, neV_int, bl_bool, ifR_ok, andR_ok, orR_ok, notR_ok, andV_ok, orV_ok, notV_ok, lenV_list, lenV_tup, List.length_map, List.length_cons, List.length_nil, seqItems_list, seqItems_tup, enumA_list, enumA_tup, zipAA_list, zipAA_tup, revA_tup, revA_list, tupleV_list, tupleV_tup, listV_list, listV_tup, max2V_int, min2V_int, lstR_nil, thenC_next, thenC_ret, Bool.not_true, Bool.not_false, if_true, if_false, Bool.false_eq_true, modV_int, fdivV_a, mulI_a, mulI_b, range1_a, range2_a, lstR_ok, tupR_ok, app1_ok, ix_intsA, ix_intsT, isi_int_int, isi_bool_int, isi_bool_bool, isi_list_list, isi_tup_tup, isNV_int, isNV_none, isNV_list, isNV_tup, notNV_int, notNV_none, notNV_list, notNV_tup, addV_lst, addV_tup, partV_int, slR_list, slR_tup, setL_a, chV_int, Int.zero_add, Int.toNat_natCast, decide_true, decide_false, List.length_append, List.length_singleton, Nat.reduceAdd, Nat.zero_add, Int.cast_ofNat_Int, Int.natCast_zero, Int.natCast_one, Int.reduceLT, Int.reduceLE, Int.reduceEq, Int.reduceNe, Int.reduceAdd, Int.reduceSub, Int.reduceMul, Int.reduceNeg, Int.reduceToNat, eq_self, ite_self, hr, hl, hc]
  rw [hf] --  hp.1 hp.2]
  simp only [e1, e2, Bool.false_eq_true, if_false, ifR_ok]
  rfl
end
end SC
namespace SC
open PySem DL
/-! ### the greatest of some groups -/
open PySem.W PySem.SeqAt PyProof.Rows in
theorem lt_pair {m n : Int} (a b : List D) : (m < n → dataLt (.tuple (.int m :: a)) (.tuple (.int n :: b)) = true) ∧ (n < m → dataLt (.tuple (.int m :: a)) (.tuple (.int n :: b)) = false) := by
  have e : m ≠ n → dataLt (.tuple (.int m :: a)) (.tuple (.int n :: b)) = lexLt itemOrd [Sum.inl m] [Sum.inl n] := fun h => by
    unfold dataLt
    rw [keyToks, keyToks, keyToksAll, keyToksAll, keyToks, keyToks]
    have := lex_pre [Sum.inl 1] (Sum.inl m :: keyToksAll a) (Sum.inl n :: keyToksAll b)
    rw [show [(Sum.inl 1 : Int ⊕ List Nat)] ++ (Sum.inl m :: keyToksAll a) = Sum.inl 1 :: ([Sum.inl m] ++ keyToksAll a) from rfl, show [(Sum.inl 1 : Int ⊕ List Nat)] ++ (Sum.inl n :: keyToksAll b) = Sum.inl 1 :: ([Sum.inl n] ++ keyToksAll b) from rfl] at this
    rw [this]
    exact lex_atom (fun z => h (Sum.inl.inj z)) _ _
  have e2 : lexLt itemOrd [Sum.inl m] [Sum.inl n] = dataLt (.int m) (.int n) := rfl
  constructor
  · intro h
    rw [e (by omega), e2, dataLt_int]
    exact decide_eq_true h
  · intro h
    rw [e (by omega), e2, dataLt_int]
    exact decide_eq_false (by omega)
theorem max_pairs (f : List Int → List (List Int)) : ∀ (l : List (List Int)) (a : List Int), ∃ b ∈ a :: l, PySem.W.maxD (.tuple [.int (f a).length, intT a]) (l.map fun z => .tuple [.int ((f z).length : Int), intT z]) = .tuple [.int ((f b).length : Int), intT b] ∧ ∀ z ∈ a :: l, (f z).length ≤ (f b).length
  | [], a => ⟨a, by simp, rfl, fun z hz => by simp at hz; rw [hz]; exact Nat.le_refl _⟩
  | y :: l, a => by
    unfold PySem.W.maxD
    rw [List.map_cons, List.foldl_cons]
    obtain ⟨h1, h2⟩ := lt_pair (m := ((f a).length : Int)) (n := ((f y).length : Int)) [intT a] [intT y]
    cases hd : PySem.W.dataLt (.tuple [.int ((f a).length : Int), intT a]) (.tuple [.int ((f y).length : Int), intT y]) with
    | true =>
      obtain ⟨b, b1, b2, b3⟩ := max_pairs f l y
      unfold PySem.W.maxD at b2
      refine ⟨b, List.mem_cons_of_mem _ b1, by rw [if_pos rfl]; exact b2, fun z hz => ?_⟩
      rcases List.mem_cons.mp hz with rfl | hz
      · have := b3 y (by simp)
        have : ¬ ((f y).length : Int) < (f z).length := fun q => by rw [h2 q] at hd; cases hd
        omega
      · exact b3 z hz
    | false =>
      obtain ⟨b, b1, b2, b3⟩ := max_pairs f l a
      unfold PySem.W.maxD at b2
      refine ⟨b, ?_, by rw [if_neg (by simp)]; exact b2, fun z hz => ?_⟩
      · rcases List.mem_cons.mp b1 with rfl | b1
        · simp
        · simp [b1]
      · rcases List.mem_cons.mp hz with rfl | hz
        · exact b3 z (by simp)
        · rcases List.mem_cons.mp hz with rfl | hz
          · have := b3 a (by simp)
            have : ¬ ((f a).length : Int) < (f z).length := fun q => by rw [h1 q] at hd; cases hd
            omega
          · exact b3 z (by simp [hz])
theorem sortOk_pairs (f : List Int → List (List Int)) {l : List (List Int)} (hl : l.length ≤ 16777216) : sortOk (l.map fun z => (.tuple [.int ((f z).length : Int), intT z] : D)) = true := by
  unfold sortOk
  simp only [Bool.and_eq_true, Bool.or_eq_true]
  refine ⟨⟨⟨?_, .inl ?_⟩, ?_⟩, by simp [fits, hl]⟩
  · unfold alikeB
    rw [List.all_eq_true]
    intro x hx
    rw [List.all_eq_true]
    intro y hy
    obtain ⟨a, _, rfl⟩ := List.mem_map.mp hx
    obtain ⟨b, _, rfl⟩ := List.mem_map.mp hy
    have : PySem.W.alikeAll (a.map .int) (b.map .int) = true := by
      rename_i ha hb
      clear hx hy ha hb
      induction a generalizing b with
      | nil => cases b <;> simp [PySem.W.alikeAll]
      | cons i a ih =>
        cases b with
        | nil => simp [PySem.W.alikeAll]
        | cons j b =>
          simp only [List.map_cons, PySem.W.alikeAll, PySem.W.alike, Bool.true_and]
          exact ih b
    simp [PySem.W.alike, PySem.W.alikeAll, this]
  · simp only [List.all_map, List.all_eq_true]
    intro x _; rfl
  · simp only [List.all_map, List.all_eq_true]
    intro x _
    simp [PyData.depth, PyData.depthAll, depth_ints]
end SC
namespace SC
open PySem DL
theorem repT_zero {n : Nat} (h : 1 ≤ n) (h2 : n ≤ 1000) : repT (intT [0]) (.int (n : Int)) = .ok (intT (List.replicate n 0)) := by
  unfold repT
  by_cases e : n = 1
  · subst e; rfl
  · show (if (n : Int) = 1 then _ else if decide _ = true then _ else _) = _
    rw [if_neg (by omega), if_pos (decide_eq_true ⟨by simp, by omega, by omega, by simp⟩)]
    rw [Int.toNat_natCast]
    congr 2
    clear h h2 e
    induction n with
    | zero => rfl
    | succ n ih => simp only [List.replicate_succ, List.flatten_cons, List.map_cons, List.map_nil, List.singleton_append]; rw [← ih]; rfl
end SC
namespace SC
open PySem DL
section
variable {p k : Int} {places : List Int}
def kv (p k : Int) (c : List Int) : List Int × List Int := ((pp p c).drop k.toNat, (pp p c).take k.toNat)
theorem ev_neg (l : List Int) (x : Int) : ev (l.map fun y => 0 - y) x = - ev l x := by
  induction l with
  | nil => rfl
  | cons a l ih =>
    simp only [List.map_cons, ev, ih]
    rw [Int.mul_neg]
    omega
theorem dict_nil : (PyData.dict [] : D) = grD [] := rfl
theorem many_ok (P : Prm p) (k1 : 1 ≤ k) (ip : InP p places) (h16 : places.length ≤ 16) {t : Nat} (hk : k ≤ (t : Int)) (ht : t ≤ places.length) : ∃ (b : List Int) (R : Int → Int), b ∈ kys ((chs places t).map (kv p k)) ∧ (∀ z, (vls ((chs places t).map (kv p k)) z).length ≤ (vls ((chs places t).map (kv p k)) b).length) ∧ m_many_near (.tuple [.int p, .int k, intT places]) (.int (t : Int)) = .ok (.tuple [intL (places.map R), .list ((srt (vls ((chs places t).map (kv p k)) b)).map intT)]) ∧ (∀ x, 0 ≤ R x ∧ R x < p) ∧ ∀ z ∈ vls ((chs places t).map (kv p k)) b, z.length = k.toNat ∧ InP p z ∧ ∃ c : List Int, c.Sublist places ∧ c.length = t ∧ ∀ x ∈ c, R x = ev z x % p := by
  have p2 := P.two
  have hcs : (chs places t).length ≤ 65536 := by
    have h1 := chs_len places t
    have h2 : 2 ^ places.length ≤ 2 ^ 16 := Nat.pow_le_pow_right (by decide) h16
    have h3 : (2 : Nat) ^ 16 = 65536 := by decide
    omega
  generalize hLs : (chs places t).map (kv p k) = Ls
  have hLl : Ls.length ≤ 65536 := by rw [← hLs, List.length_map]; exact hcs
  have hch : m_choices (.list (places.map .int)) (.int (t : Int)) = .ok (.list ((chs places t).map fun c => .list (c.map .int))) := by
    have := choices_ok (xs := places.map .int) (n := t) (by rw [List.length_map]; omega) (by omega) (fun j hj => by
      rw [List.length_map]
      have h1 := chs_len (List.range places.length) j
      have h2 : 2 ^ (List.range places.length).length ≤ 2 ^ 16 := Nat.pow_le_pow_right (by decide) (by rw [List.length_range]; exact h16)
      have h3 : (2 : Nat) ^ 16 = 65536 := by decide
      omega)
    rw [this, chs_map, List.map_map]
    rfl
  have hloop : forN (fun choice (s__1 : D) => (((consR (Res.ok (PyData.int 1)) (Res.ok ([] : List D))).bd tupR).bd fun product => ((((Res.ok choice).bd seqItems).bd fun ds => forN (fun x (s__2 : D) => (((consR (Res.ok (PyData.int p)) (consR (Res.ok s__2) (consR ((consR (bd2 (Res.ok (PyData.int 0)) (Res.ok x) subV) (consR (Res.ok (PyData.int 1)) (Res.ok ([] : List D)))).bd tupR) (Res.ok ([] : List D))))).bd (ap3 m_times)).bd fun product_1 => (Res.ok product_1))) ds product).bd fun s__3 => (((((Res.ok s__3).bd seqItems).bd fun ds => (lcR (fun number => (Res.ok true)) (fun number => (bd2 (Res.ok number) (Res.ok (PyData.int p)) modV)) ds).bd lstR).bd tupleV).bd fun product_2 => (((slR (Res.ok product_2) ((Res.ok (PyData.int k)).bd partV) (Res.ok Option.none)).bd fun e => (slotG s__1 e).bd fun d1 => (slR (Res.ok product_2) (Res.ok Option.none) ((Res.ok (PyData.int k)).bd partV)).bd fun v => appG d1 e v).bd fun groups_1 => (Res.ok groups_1)))))) ((chs places t).map fun c => .list (c.map .int)) (PyData.dict []) = .ok (grD Ls) := by
    have e0 : ∀ r : Res D, r.bd (fun s => Res.ok s) = r := fun r => by cases r <;> rfl
    rw [← e0 (forN _ _ _)]
    refine forN_then (P := fun r => r = _) (I := fun j s => s = grD (Ls.take j)) dict_nil ?_ ?_
    · rintro j d s hj rfl
      rw [List.getElem?_map] at hj
      cases hc : (chs places t)[j]? with
      | none => rw [hc] at hj; cases hj
      | some c =>
        rw [hc] at hj
        cases hj
        obtain ⟨sub, len⟩ := mem_chs.mp (List.mem_of_getElem? hc)
        have hcl : c.length ≤ 16 := by omega
        have hLj : Ls[j]? = some (kv p k c) := by rw [← hLs, List.getElem?_map, hc]; rfl
        have e1 : Ls.take (j + 1) = Ls.take j ++ [kv p k c] := by rw [List.take_succ, hLj]; rfl
        refine ⟨grD (Ls.take (j + 1)), ?_, rfl⟩
        have pl := prod_loop P (c := c) (by omega)
        have hpl := pp_len p c
        have hmod : lcR (fun number => Res.ok true) (fun number => modV number (PyData.int p)) ((pp p c).map .int) = .ok ((pp p c).map .int) := by
          rw [lc_of (f := PyData.int) (g := fun x => PyData.int (x % p)) (fun _ _ => rfl) fun x _ => modV_int P.pos]
          have := congrArg (List.map PyData.int) (mod_in (pp_in P c))
          rw [List.map_map] at this
          exact congrArg Res.ok this
        have hg := group_step (Ls.take j) (kv p k c) (by rw [List.length_take]; omega)
        rw [e1]
        simp only [bd_ok, consR_ok, seqItems_list, bd2_ok] at pl ⊢
        rw [tupR_ok (by simp), bd_ok, show (PyData.tuple [.int 1] : D) = intT [1] from rfl, pl, bd_ok, seqItems_tup, bd_ok, hmod, bd_ok, lstR_ok (by rw [List.length_map]; omega)]
        simp only [bd_ok, tupleV_list, partV_int, slR_tup]
        rw [cut_from (by omega), cut_to (by omega), ← List.map_drop, ← List.map_take]
        exact (bd_ret _).trans hg
    · rintro s rfl
      rw [List.length_map, ← List.length_map (f := kv p k), hLs, List.take_length]
  have hne : kys Ls ≠ [] := by
    have hm : places.take t ∈ chs places t := mem_chs.mpr ⟨List.take_sublist _ _, by rw [List.length_take]; omega⟩
    have : (kv p k (places.take t)).1 ∈ kys Ls := kys_mem.mpr ⟨_, by rw [← hLs]; exact List.mem_map.mpr ⟨_, hm, rfl⟩, rfl⟩
    exact List.ne_nil_of_mem this
  have hkl := kys_len Ls
  obtain ⟨a, ks, hks⟩ := List.exists_cons_of_ne_nil hne
  obtain ⟨b, b1, b2, b3⟩ := max_pairs (vls Ls) ks a
  rw [← hks] at b1 b3
  have hvl : ∀ z, (vls Ls z).length ≤ 65536 := fun z => by
    unfold vls
    rw [List.length_map]
    exact Nat.le_trans (List.length_filter_le _ _) hLl
  have hlc : lcR (fun one => Res.ok true) (fun one => ((consR (((Res.ok one).bd fun e => getD (grD Ls) e).bd lenV) (consR (Res.ok one) (Res.ok ([] : List D)))).bd tupR)) ((kys Ls).map intT) = .ok ((kys Ls).map fun z => .tuple [.int ((vls Ls z).length : Int), intT z]) := by
    refine lc_of (f := intT) (fun _ _ => rfl) fun z hz => ?_
    have hgd : getD (grD Ls) (intT z) = .ok (.list ((vls Ls z).map intT)) := getD_dct _ hz
    simp only [bd_ok, hgd, lenV_list, List.length_map, consR_ok]
    exact tupR_ok (by simp)
  have hmax : maxTV (.list ((kys Ls).map fun z => .tuple [.int ((vls Ls z).length : Int), intT z])) = .ok (.tuple [.int ((vls Ls b).length : Int), intT b]) := by
    have hs := sortOk_pairs (vls Ls) (l := kys Ls) (by omega)
    rw [hks] at hs ⊢
    rw [List.map_cons] at hs ⊢
    show (if sortOk _ = true then _ else _) = _
    rw [if_pos hs, b2]
  have hbl : b.length ≤ 100 := by
    obtain ⟨q, hq, rfl⟩ := kys_mem.mp b1
    rw [← hLs] at hq
    obtain ⟨c, hc, rfl⟩ := List.mem_map.mp hq
    have := (mem_chs.mp hc).2
    show ((pp p c).drop k.toNat).length ≤ 100
    rw [List.length_drop, pp_len]
    omega
  refine ⟨b, fun x => ev (List.replicate k.toNat 0 ++ b.map fun y => 0 - y) x % p, b1, fun z => ?_, ?_, fun x => ⟨P.mod0 _, P.mod1 _⟩, fun z hz => ?_⟩
  · by_cases hz : z ∈ kys Ls
    · exact b3 z hz
    · have : vls Ls z = [] := by
        unfold vls
        rw [List.filter_eq_nil_iff.mpr fun x hx => ?_]
        · rfl
        · simp only [decide_eq_true_eq]
          exact fun e => hz (kys_mem.mpr ⟨x, hx, e⟩)
      rw [this]
      exact Nat.zero_le _
  · have hdue := due_ok P k1 h16 hk ht
    have hdk : dictKeys (grD Ls) = .ok ((kys Ls).map intT) := dictKeys_dct _ _
    have hx1 : ixV (.tuple [.int ((vls Ls b).length : Int), intT b]) (.int 1) = .ok (intT b) := ix_tup (by decide) rfl
    have hgb : getD (grD Ls) (intT b) = .ok (.list ((vls Ls b).map intT)) := getD_dct _ b1
    have hst : sortedV (.list ((vls Ls b).map intT)) = .ok (.list ((srt (vls Ls b)).map intT)) := sorted_tups (fun z hz e => by
      subst e
      unfold vls at hz
      obtain ⟨q, hq, h2⟩ := List.mem_map.mp hz
      have hq := (List.mem_filter.mp hq).1
      rw [← hLs] at hq
      obtain ⟨c, hc, rfl⟩ := List.mem_map.mp hq
      have h3 : (pp p c).take k.toNat = [] := h2
      have := congrArg List.length h3
      rw [List.length_take, pp_len] at this
      simp at this
      omega) (by have := hvl b; omega)
    have hneg : lcR (fun number_1 => Res.ok true) (fun number_1 => subV (PyData.int 0) number_1) (b.map .int) = .ok ((b.map fun y => 0 - y).map .int) := by
      rw [List.map_map]
      exact lc_of (f := PyData.int) (fun _ _ => rfl) fun _ _ => rfl
    have hrep : repT (.tuple [.int 0]) (.int k) = .ok (.tuple ((List.replicate k.toNat 0).map .int)) := by
      have := repT_zero (n := k.toNat) (by omega) (by omega)
      rw [show ((k.toNat : Nat) : Int) = k by omega] at this
      exact this
    unfold m_many_near
    simp (disch := (first | assumption | omega | decide | (simp only [List.length_cons, List.length_nil, List.length_map, List.length_append]; omega))) only [bd_ok, bd_exc, bd2_ok, consR_ok, nx_ok, ap1_ok, ap2_ok, ap3_ok, ap4_ok, ap5_ok, un2_tup, un3_tup, onL_list, addV_int, subV_int, ltV_int, leV_int, gtV_int, geV_int, augI_int, negV_int, eqV_int, neV_int, bl_bool, ifR_ok, andR_ok, orR_ok, notR_ok, andV_ok, orV_ok, notV_ok, lenV_list, lenV_tup, List.length_map, List.length_cons, List.length_nil, seqItems_list, seqItems_tup, enumA_list, enumA_tup, zipAA_list, zipAA_tup, revA_tup, revA_list, tupleV_list, tupleV_tup, listV_list, listV_tup, max2V_int, min2V_int, lstR_nil, thenC_next, thenC_ret, Bool.not_true, Bool.not_false, if_true, if_false, Bool.false_eq_true, modV_int, fdivV_a, mulI_a, mulI_b, range1_a, range2_a, lstR_ok, tupR_ok, app1_ok, ix_intsA, ix_intsT, isi_int_int, isi_bool_int, isi_bool_bool, isi_list_list, isi_tup_tup, isNV_int, isNV_none, isNV_list, isNV_tup, notNV_int, notNV_none, notNV_list, notNV_tup, addV_lst, addV_tup, partV_int, slR_list, slR_tup, setL_a, chV_int, Int.zero_add, Int.toNat_natCast, decide_true, decide_false, List.length_append, List.length_singleton, Nat.reduceAdd, Nat.zero_add, Int.cast_ofNat_Int, Int.natCast_zero, Int.natCast_one, Int.reduceLT, Int.reduceLE, Int.reduceEq, Int.reduceNe, Int.reduceAdd, Int.reduceSub, Int.reduceMul, Int.reduceNeg, Int.reduceToNat, eq_self, ite_self, hdue, hch]
    simp (disch := (first | assumption | omega | decide | (simp only [List.length_cons, List.length_nil, List.length_map, List.length_append]; omega))) only [bd_ok, bd_exc, bd2_ok, consR_ok, nx_ok, ap1_ok, ap2_ok, ap3_ok, ap4_ok, ap5_ok, un2_tup, un3_tup, onL_list, addV_int, subV_int, ltV_int, leV_int, gtV_int, geV_int, augI_int, negV_int, eqV_int, neV_int, bl_bool, ifR_ok, andR_ok, orR_ok, notR_ok, andV_ok, orV_ok, notV_ok, lenV_list, lenV_tup, List.length_map, List.length_cons, List.length_nil, seqItems_list, seqItems_tup, enumA_list, enumA_tup, zipAA_list, zipAA_tup, revA_tup, revA_list, tupleV_list, tupleV_tup, listV_list, listV_tup, max2V_int, min2V_int, lstR_nil, thenC_next, thenC_ret, Bool.not_true, Bool.not_false, if_true, if_false, Bool.false_eq_true, modV_int, fdivV_a, mulI_a, mulI_b, range1_a, range2_a, lstR_ok, tupR_ok, app1_ok, ix_intsA, ix_intsT, isi_int_int, isi_bool_int, isi_bool_bool, isi_list_list, isi_tup_tup, isNV_int, isNV_none, isNV_list, isNV_tup, notNV_int, notNV_none, notNV_list, notNV_tup, addV_lst, addV_tup, partV_int, slR_list, slR_tup, setL_a, chV_int, Int.zero_add, Int.toNat_natCast, decide_true, decide_false, List.length_append, List.length_singleton, Nat.reduceAdd, Nat.zero_add, Int.cast_ofNat_Int, Int.natCast_zero, Int.natCast_one, Int.reduceLT, Int.reduceLE, Int.reduceEq, Int.reduceNe, Int.reduceAdd, Int.reduceSub, Int.reduceMul, Int.reduceNeg, Int.reduceToNat, eq_self, ite_self] at hloop hlc
    rw [hloop, bd_ok, hdk]
    simp (disch := (first | assumption | omega | decide | (simp only [List.length_cons, List.length_nil, List.length_map, List.length_append]; omega))) only [bd_ok, bd_exc, bd2_ok, consR_ok, nx_ok, ap1_ok, ap2_ok, ap3_ok, ap4_ok, ap5_ok, un2_tup, un3_tup, onL_list, addV_int, subV_int, ltV_int, leV_int, gtV_int, geV_int, augI_int, negV_int, eqV_int, neV_int, bl_bool, ifR_ok, andR_ok, orR_ok, notR_ok, andV_ok, orV_ok, notV_ok, lenV_list, lenV_tup, List.length_map, List.length_cons, List.length_nil, seqItems_list, seqItems_tup, enumA_list, enumA_tup, zipAA_list, zipAA_tup, revA_tup, revA_list, tupleV_list, tupleV_tup, listV_list, listV_tup, max2V_int, min2V_int, lstR_nil, thenC_next, thenC_ret, Bool.not_true, Bool.not_false, if_true, if_false, Bool.false_eq_true, modV_int, fdivV_a, mulI_a, mulI_b, range1_a, range2_a, lstR_ok, tupR_ok, app1_ok, ix_intsA, ix_intsT, isi_int_int, isi_bool_int, isi_bool_bool, isi_list_list, isi_tup_tup, isNV_int, isNV_none, isNV_list, isNV_tup, notNV_int, notNV_none, notNV_list, notNV_tup, addV_lst, addV_tup, partV_int, slR_list, slR_tup, setL_a, chV_int, Int.zero_add, Int.toNat_natCast, decide_true, decide_false, List.length_append, List.length_singleton, Nat.reduceAdd, Nat.zero_add, Int.cast_ofNat_Int, Int.natCast_zero, Int.natCast_one, Int.reduceLT, Int.reduceLE, Int.reduceEq, Int.reduceNe, Int.reduceAdd, Int.reduceSub, Int.reduceMul, Int.reduceNeg, Int.reduceToNat, eq_self, ite_self, hlc]
    have hrow : lcR (fun x_1 => Res.ok true) (fun x_1 => (consR (Res.ok (PyData.int p)) (consR (Res.ok (.tuple ((List.replicate k.toNat 0).map .int ++ (b.map fun y => 0 - y).map .int))) (Res.ok [x_1]))).bd (ap3 m_value_at)) (places.map .int) = .ok ((places.map fun x => ev (List.replicate k.toNat 0 ++ b.map fun y => 0 - y) x % p).map .int) := by
      rw [List.map_map (l := places)]
      refine lc_of (f := PyData.int) (fun _ _ => rfl) fun x _ => ?_
      simp only [consR_ok, bd_ok, ap3_ok]
      rw [← List.map_append]
      exact value_ok P _ x
    rw [hmax]
    simp only [bd2_ok, hx1, bd_ok, seqItems_tup, hneg]
    rw [lstR_ok (by rw [List.length_map, List.length_map]; omega)]
    simp only [bd_ok, tupleV_list, hrep, bd2_ok]
    rw [addV_tup (by simp only [List.length_map, List.length_replicate]; omega), hrow, bd_ok, lstR_ok (by rw [List.length_map, List.length_map]; omega)]
    simp only [bd_ok, hgb, hst, consR_ok]
    exact tupR_ok (by simp)
  · obtain ⟨q, hq, rfl⟩ := List.mem_map.mp hz
    obtain ⟨hq1, hq2⟩ := List.mem_filter.mp hq
    rw [← hLs] at hq1
    obtain ⟨c, hc, rfl⟩ := List.mem_map.mp hq1
    have hqb : (pp p c).drop k.toNat = b := of_decide_eq_true hq2
    obtain ⟨sub, len⟩ := mem_chs.mp hc
    have hpl := pp_len p c
    have htl : ((pp p c).take k.toNat).length = k.toNat := by rw [List.length_take]; omega
    refine ⟨htl, fun x hx => pp_in P c x (List.mem_of_mem_take hx), c, sub, len, fun x hx => ?_⟩
    have h1 : Eqm p (ev (pp p c) x) 0 := by
      unfold pp
      have := ev_mod (p := p) (prL [1] c) x
      rw [pr_root c [1] hx] at this
      exact this
    have h2 : ev (pp p c) x = ev ((pp p c).take k.toNat) x + x ^ k.toNat * ev b x := by
      rw [← hqb]
      conv => lhs; rw [← List.take_append_drop k.toNat (pp p c)]
      rw [ev_append, htl]
    have h3 : ev (List.replicate k.toNat 0 ++ b.map fun y => 0 - y) x = - (x ^ k.toNat * ev b x) := by
      rw [ev_append, ev_zeros, List.length_replicate, ev_neg, Int.mul_neg]
      omega
    show ev _ x % p = ev ((pp p c).take k.toNat) x % p
    refine Eqm.to_mod ?_
    rw [h3]
    have h4 : Eqm p (0 - x ^ k.toNat * ev b x) (ev (pp p c) x - x ^ k.toNat * ev b x) := h1.symm.sub (Eqm.refl _ _)
    rw [h2] at h4
    rw [show - (x ^ k.toNat * ev b x) = 0 - x ^ k.toNat * ev b x by omega]
    refine h4.trans (Eqm.of_eq ?_)
    omega
end
end SC
namespace SC
open PySem DL
def allP (p : Int) : Nat → List (List Int)
  | 0 => [[]]
  | k + 1 => (allP p k).flatMap fun one => ((List.range p.toNat).map fun (i : Nat) => one ++ [(i : Int)])
theorem mem_allP {p : Int} (hp : 0 ≤ p) : ∀ {k : Nat} {z : List Int}, z ∈ allP p k ↔ z.length = k ∧ InP p z
  | 0, z => by
    unfold allP
    rw [List.mem_singleton]
    constructor
    · rintro rfl; exact ⟨rfl, fun _ h => nomatch h⟩
    · intro ⟨h, _⟩; exact List.length_eq_zero_iff.mp h
  | k + 1, z => by
    unfold allP
    rw [List.mem_flatMap]
    constructor
    · rintro ⟨o, ho, hz⟩
      obtain ⟨i, hi, rfl⟩ := List.mem_map.mp hz
      obtain ⟨h1, h2⟩ := (mem_allP hp).mp ho
      have := List.mem_range.mp hi
      refine ⟨by simp [h1], fun a ha => ?_⟩
      rcases List.mem_append.mp ha with ha | ha
      · exact h2 a ha
      · rw [List.mem_singleton.mp ha]; omega
    · intro ⟨h1, h2⟩
      have hne : z ≠ [] := fun e => by rw [e] at h1; simp at h1
      have hl := h2 _ (List.getLast_mem hne)
      refine ⟨z.dropLast, (mem_allP hp).mpr ⟨by simp [h1], fun a ha => h2 a (List.dropLast_sublist z |>.subset ha)⟩, List.mem_map.mpr ⟨(z.getLast hne).toNat, List.mem_range.mpr (by omega), ?_⟩⟩
      rw [show ((z.getLast hne).toNat : Int) = z.getLast hne by omega]
      exact List.dropLast_concat_getLast hne
theorem allP_len {p : Int} (p0 : 0 ≤ p) : ∀ k : Nat, (allP p k).length = p.toNat ^ k
  | 0 => rfl
  | k + 1 => by
    unfold allP
    rw [List.length_flatMap, List.map_congr_left (g := fun _ => p.toNat) (fun o _ => by simp)]
    have : ∀ l : List (List Int), (l.map fun _ => p.toNat).sum = l.length * p.toNat := fun l => by
      induction l with
      | nil => simp
      | cons a l ih => simp [ih, Nat.add_mul]; omega
    rw [this, allP_len p0 k, Nat.pow_succ]
end SC
namespace SC
open PySem DL
theorem inF_trues {α : Type} (l : List α) : inV (.bool false) (.list (l.map fun _ => PyData.bool true)) = .ok (.bool false) ∧ notInV (.bool false) (.list (l.map fun _ => PyData.bool true)) = .ok (.bool true) := by
  have h1 : PyData.canLayAll0 (l.map fun _ => PyData.bool true) = true := by
    induction l with
    | nil => rfl
    | cons a l ih => rw [List.map_cons, PyData.canLayAll0, ih]; rfl
  have h2 : PyData.depthAll (l.map fun _ => PyData.bool true) = 0 := by
    clear h1
    induction l with
    | nil => rfl
    | cons a l ih => rw [List.map_cons, PyData.depthAll, ih]; rfl
  have h3 : SeqAt.shaped (.list (l.map fun _ => PyData.bool true)) = true := by
    show (PyData.canLayAll0 (l.map fun _ => PyData.bool true) && decide (PyData.depthAll (l.map fun _ => PyData.bool true) + 1 ≤ 64)) = true
    rw [h1, h2]
    rfl
  have h4 : ((l.map fun _ => PyData.bool true).any fun y => PyData.eqv y (.bool false)) = false := by
    rw [List.any_eq_false]
    intro x hx
    obtain ⟨_, _, rfl⟩ := List.mem_map.mp hx
    simp [PyData.eqv]
  constructor
  · show (if _ then _ else _) = _
    rw [shaped_bool, h3]
    show Res.ok (PyData.bool ((l.map fun _ => PyData.bool true).any fun y => PyData.eqv y (.bool false))) = _
    rw [h4]
  · show (if _ then _ else _) = _
    rw [shaped_bool, h3]
    show Res.ok (PyData.bool (!((l.map fun _ => PyData.bool true).any fun y => PyData.eqv y (.bool false)))) = _
    rw [h4]
    rfl
end SC
namespace SC
open PySem DL
theorem chs_bc {α : Type} : ∀ (l : List α) (n : Nat), (chs l n).length = bc l.length n
  | l, 0 => by rw [chs_zero, bc_z]; rfl
  | [], n + 1 => rfl
  | x :: r, n + 1 => by
    rw [chs_cons, List.length_append, List.length_map, chs_bc r n, chs_bc r (n + 1)]
    rfl
theorem chs_nd {α : Type} : ∀ (l : List α) (n : Nat), l.Nodup → (chs l n).Nodup
  | l, 0, _ => by rw [chs_zero]; simp
  | [], n + 1, _ => List.nodup_nil
  | x :: r, n + 1, h => by
    obtain ⟨h1, h2⟩ := List.nodup_cons.mp h
    rw [chs_cons]
    refine List.nodup_append.mpr ⟨List.pairwise_map.mpr ((chs_nd r n h2).imp fun hne e => hne (by injection e)), chs_nd r (n + 1) h2, fun a ha b hb e => ?_⟩
    obtain ⟨c, _, rfl⟩ := List.mem_map.mp ha
    subst e
    obtain ⟨s, _⟩ := mem_chs.mp hb
    exact h1 (s.subset (by simp))
theorem inj_len {α : Type} (f : α → List Int) : ∀ (l : List α) (m : List (List Int)), l.Nodup → (∀ x ∈ l, ∀ y ∈ l, f x = f y → x = y) → (∀ x ∈ l, f x ∈ m) → l.length ≤ m.length
  | [], _, _, _, _ => Nat.zero_le _
  | x :: l, m, hn, hi, hs => by
    obtain ⟨h1, h2⟩ := List.nodup_cons.mp hn
    have hx : f x ∈ m := hs x List.mem_cons_self
    have ih := inj_len f l (m.erase (f x)) h2 (fun a ha b hb => hi a (List.mem_cons_of_mem _ ha) b (List.mem_cons_of_mem _ hb)) fun y hy => by
      have hne : f y ≠ f x := fun e => h1 (hi y (List.mem_cons_of_mem _ hy) x List.mem_cons_self e ▸ hy)
      exact (List.mem_erase_of_ne hne).2 (hs y (List.mem_cons_of_mem _ hy))
    have e := List.length_erase_of_mem hx
    have hp : 0 < m.length := List.length_pos_of_mem hx
    rw [List.length_cons]
    omega
theorem len_keys {M : Nat} : ∀ (Ks : List (List Int)) (L : List (List Int × List Int)), (∀ q ∈ L, q.1 ∈ Ks) → (∀ z, (vls L z).length ≤ M) → L.length ≤ Ks.length * M
  | [], L, h, _ => by
    cases L with
    | nil => exact Nat.zero_le _
    | cons q L => exact nomatch h q (by simp)
  | z :: Ks, L, h, hM => by
    have e1 : (L.filter fun q => decide (q.1 = z)).length ≤ M := by
      have := hM z
      unfold vls at this
      rwa [List.length_map] at this
    have ih := len_keys (M := M) Ks (L.filter fun q => !decide (q.1 = z)) (fun q hq => by
      obtain ⟨h1, h2⟩ := List.mem_filter.mp hq
      rcases List.mem_cons.mp (h q h1) with e | e
      · simp [e] at h2
      · exact e) fun y => by
      refine Nat.le_trans ?_ (hM y)
      unfold vls
      rw [List.length_map, List.length_map]
      exact (List.Sublist.filter _ List.filter_sublist).length_le
    have e2 : L.length = (L.filter fun q => decide (q.1 = z)).length + (L.filter fun q => !decide (q.1 = z)).length := by
      rw [← List.length_append]
      exact (List.filter_append_perm (fun q => decide (q.1 = z)) L).length_eq.symm
    rw [List.length_cons, Nat.succ_mul]
    omega
theorem sub_filter {α : Type} [DecidableEq α] : ∀ {c l : List α}, c.Sublist l → l.Nodup → l.filter (fun x => decide (x ∈ c)) = c
  | _, _, .slnil, _ => rfl
  | c, _, .cons (l₂ := l) a h, hn => by
    obtain ⟨h1, h2⟩ := List.nodup_cons.mp hn
    rw [List.filter_cons, if_neg (by simp; exact fun z => h1 (h.subset z)), sub_filter h h2]
  | _, _, .cons₂ (l₁ := c) (l₂ := l) a h, hn => by
    obtain ⟨h1, h2⟩ := List.nodup_cons.mp hn
    rw [List.filter_cons, if_pos (by simp)]
    congr 1
    refine Eq.trans (List.filter_congr fun x hx => ?_) (sub_filter h h2)
    have : x ≠ a := fun e => h1 (e ▸ hx)
    simp [this]
theorem vls_nd {L : List (List Int × List Int)} (h : L.Nodup) (z : List Int) : (vls L z).Nodup := by
  unfold vls
  refine List.pairwise_map.mpr (List.Pairwise.imp_of_mem (fun {a b} ha hb hne e => hne ?_) (h.filter _))
  have h1 := of_decide_eq_true (List.mem_filter.mp ha).2
  have h2 := of_decide_eq_true (List.mem_filter.mp hb).2
  exact Prod.ext (h1.trans h2.symm) e
section
variable {p k : Int} {places : List Int}
theorem ndvd {p : Int} (P : Prm p) {x y : Int} (hx : 0 ≤ x ∧ x < p) (hy : 0 ≤ y ∧ y < p) (hne : x ≠ y) : ¬ p ∣ x - y := fun h => by
  have := Int.emod_emod_of_dvd x (Int.dvd_refl p)
  have e : x % p = y % p := Int.emod_eq_emod_iff_emod_sub_eq_zero.mpr (Int.emod_eq_zero_of_dvd h)
  rw [Int.emod_eq_of_lt hx.1 hx.2, Int.emod_eq_of_lt hy.1 hy.2] at e
  exact hne e
theorem pp_root (P : Prm p) (ip : InP p places) {c : List Int} (hc : c.Sublist places) {x : Int} (hx : x ∈ places) : Eqm p (ev (pp p c) x) 0 ↔ x ∈ c := by
  have hm : Eqm p (ev (pp p c) x) (ev (prL [1] c) x) := by
    unfold pp
    exact ev_mod (prL [1] c) x
  constructor
  · intro h
    refine Decidable.byContradiction fun hn => ?_
    refine pr_ne P c [1] (x := x) ?_ (fun y hy => ndvd P (ip x hx) (ip y (hc.subset hy)) fun e => hn (e ▸ hy)) ?_
    · rw [show ev [1] x = 1 by simp [ev]]
      intro hd
      have := P.two
      have := Int.le_of_dvd (by decide) hd
      omega
    · have := hm.symm.trans h
      have h2 : p ∣ ev (prL [1] c) x - 0 := this
      rwa [Int.sub_zero] at h2
  · intro h
    have := hm
    rw [pr_root c [1] h] at this
    exact this
theorem kv_inj (P : Prm p) (ip : InP p places) (nd : places.Nodup) {c d : List Int} (hc : c.Sublist places) (hd : d.Sublist places) (e : kv p k c = kv p k d) : c = d := by
  have e1 : (pp p c).drop k.toNat = (pp p d).drop k.toNat := congrArg Prod.fst e
  have e2 : (pp p c).take k.toNat = (pp p d).take k.toNat := congrArg Prod.snd e
  have e3 : pp p c = pp p d := by rw [← List.take_append_drop k.toNat (pp p c), e1, e2, List.take_append_drop]
  rw [← sub_filter hc nd, ← sub_filter hd nd]
  refine List.filter_congr fun x hx => ?_
  have h1 := pp_root P ip hc hx
  have h2 := pp_root P ip hd hx
  rw [e3] at h1
  exact decide_eq_decide.mpr (h1.symm.trans h2)
theorem Ls_nd (P : Prm p) (ip : InP p places) (nd : places.Nodup) (t : Nat) : ((chs places t).map (kv p k)).Nodup :=
  List.pairwise_map.mpr (List.Pairwise.imp_of_mem (fun {c d} hc hd hne e => hne (kv_inj P ip nd (mem_chs.mp hc).1 (mem_chs.mp hd).1 e)) (chs_nd places t nd))
theorem keys_in (P : Prm p) (k1 : 1 ≤ k) {t : Nat} (hk : k ≤ (t : Int)) {q : List Int × List Int} (h : q ∈ (chs places t).map (kv p k)) : q.1 ∈ (allP p (t - k.toNat)).map (· ++ [1]) := by
  obtain ⟨c, hc, rfl⟩ := List.mem_map.mp h
  obtain ⟨_, hl⟩ := mem_chs.mp hc
  have p2 := P.two
  have hlast : (pp p c).getLast? = some 1 := by
    unfold pp
    rw [List.getLast?_map, pr_last c [1] 1 rfl]
    simp only [Option.map_some]
    rw [Int.emod_eq_of_lt (by decide) (by omega)]
  have hlen : ((pp p c).drop k.toNat).length = t - k.toNat + 1 := by
    rw [List.length_drop, pp_len]
    omega
  have hne : (pp p c).drop k.toNat ≠ [] := fun e => by rw [e] at hlen; simp at hlen
  have hl2 : ((pp p c).drop k.toNat).getLast hne = 1 := by
    have := List.getLast?_eq_some_getLast hne
    rw [List.getLast?_drop, if_neg (by rw [pp_len]; omega), hlast] at this
    exact (Option.some.inj this).symm
  refine List.mem_map.mpr ⟨((pp p c).drop k.toNat).dropLast, (mem_allP (by omega)).mpr ⟨by rw [List.length_dropLast, hlen]; omega, fun a ha => pp_in P c a (List.mem_of_mem_drop ((List.dropLast_sublist _).subset ha))⟩, ?_⟩
  show _ ++ [1] = (pp p c).drop k.toNat
  rw [← hl2]
  exact List.dropLast_concat_getLast hne
theorem due_le (P : Prm p) (k1 : 1 ≤ k) {t : Nat} (hk : k ≤ (t : Int)) {M : Nat} (hM : ∀ z, (vls ((chs places t).map (kv p k)) z).length ≤ M) : dueN p places.length t k.toNat ≤ (M : Int) := by
  have p0 := P.pos
  have h := len_keys (M := M) ((allP p (t - k.toNat)).map (· ++ [1])) _ (fun q hq => keys_in P k1 hk hq) hM
  rw [List.length_map, List.length_map, chs_bc, allP_len (by omega)] at h
  have hy : 0 < p ^ (t - k.toNat) := Int.pow_pos p0
  have e : ((p.toNat ^ (t - k.toNat) : Nat) : Int) = p ^ (t - k.toNat) := by
    rw [Int.natCast_pow]
    congr 1
    omega
  have h' : (bc places.length t : Int) ≤ p ^ (t - k.toNat) * (M : Int) := by
    rw [← e]
    exact_mod_cast h
  unfold dueN
  have : ((bc places.length t : Int) + p ^ (t - k.toNat) - 1) < ((M : Int) + 1) * p ^ (t - k.toNat) := by
    have : ((M : Int) + 1) * p ^ (t - k.toNat) = p ^ (t - k.toNat) * (M : Int) + p ^ (t - k.toNat) := by grind
    omega
  have := Int.ediv_lt_of_lt_mul hy this
  omega
theorem group_few (P : Prm p) (k1 : 1 ≤ k) (ip : InP p places) (nd : places.Nodup) {t : Nat} (hk : k ≤ (t : Int)) {R : Int → Int} {V : List (List Int)} (hn : V.Nodup) (h : ∀ z ∈ V, z.length = k.toNat ∧ InP p z ∧ ∃ c : List Int, c.Sublist places ∧ c.length = t ∧ ∀ x ∈ c, R x = ev z x % p) : V.length ≤ bc places.length k.toNat := by
  classical
  rw [← chs_bc places k.toNat]
  let f : List Int → List Int := fun z => if hz : z ∈ V then (Classical.choose (h z hz).2.2).take k.toNat else []
  have hf : ∀ z (hz : z ∈ V), (f z).Sublist places ∧ (f z).length = k.toNat ∧ ∀ x ∈ f z, R x = ev z x % p := fun z hz => by
    have hc := Classical.choose_spec (h z hz).2.2
    have e : f z = (Classical.choose (h z hz).2.2).take k.toNat := dif_pos hz
    rw [e]
    refine ⟨(List.take_sublist _ _).trans hc.1, ?_, fun x hx => hc.2.2 x (List.mem_of_mem_take hx)⟩
    rw [List.length_take, hc.2.1]
    omega
  refine inj_len f V _ hn (fun y hy z hz e => ?_) fun z hz => mem_chs.mpr ⟨(hf z hz).1, (hf z hz).2.1⟩
  obtain ⟨a1, a2, a3⟩ := hf y hy
  obtain ⟨b1, b2, b3⟩ := hf z hz
  rw [← e] at b3
  refine interp_uniq P (pts := f y) (by rw [(h y hy).1, (h z hz).1]) (by rw [(h y hy).1, a2]; exact Nat.le_refl _) ?_ (fun x hx => ?_) (h y hy).2.1 (h z hz).2.1
  · exact List.Pairwise.imp_of_mem (fun {x y} hx hy hne => ndvd P (ip x (a1.subset hx)) (ip y (a1.subset hy)) hne) (nd.sublist a1)
  · have := (a3 x hx).symm.trans (b3 x hx)
    exact (Int.emod_eq_emod_iff_emod_sub_eq_zero.mp this) |> Int.dvd_of_emod_eq_zero
end
end SC
namespace SC
open PySem DL
section
variable {p : Int} {places : List Int}
theorem hrd_of : ∀ (n : Nat) (r : List (Option Int)) (x : Int), (n : Int) ≤ x → (∃ a, r[(x - n).toNat]? = some (some a)) → x ∈ hrd n r
  | _, [], _, _, ⟨_, h⟩ => by simp at h
  | n, q :: r, x, h0, ⟨a, h⟩ => by
    by_cases e : x = n
    · subst e
      rw [Int.sub_self] at h
      simp at h
      subst h
      exact List.mem_cons_self
    · have : (x - n).toNat = (x - ((n + 1 : Nat) : Int)).toNat + 1 := by omega
      rw [this] at h
      have ih := hrd_of (n + 1) r x (by omega) ⟨a, by simpa using h⟩
      cases q with
      | none => exact ih
      | some b => exact List.mem_cons_of_mem _ ih
theorem fit_ge {R : Int → Int} (hp : places.Nodup) {c : List Int} (hc : c.Sublist places) {z : List Int} (hz : ∀ x ∈ c, R x = ev z x % p) : c.length ≤ ((hrd 0 (places.map fun x => some (R x))).filter (fitB p places (places.map fun x => some (R x)) z)).length := by
  have h := inj_len (fun x : Int => [x]) c (((hrd 0 (places.map fun x => some (R x))).filter (fitB p places (places.map fun x => some (R x)) z)).map fun i => [(places[i.toNat]?).getD 0]) (hp.sublist hc) (fun x _ y _ e => by injection e) fun x hx => by
    obtain ⟨i, hi⟩ := List.mem_iff_getElem?.mp (hc.subset hx)
    have hr : (places.map fun x => some (R x))[i]? = some (some (R x)) := by rw [List.getElem?_map, hi]; rfl
    refine List.mem_map.mpr ⟨(i : Int), List.mem_filter.mpr ⟨hrd_of 0 _ _ (by omega) ⟨R x, by rw [show ((i : Int) - ((0 : Nat) : Int)).toNat = i by omega]; exact hr⟩, ?_⟩, ?_⟩
    · unfold fitB
      rw [Int.toNat_natCast, hi, hr]
      exact decide_eq_true (by rw [hz x hx]; rfl)
    · rw [Int.toNat_natCast, hi]
      rfl
  rwa [List.length_map] at h
end
end SC
namespace SC
open PySem DL
section
variable {p k : Int} {places : List Int}
theorem zip_add : ∀ (xs ys : List Int), lcR (fun d => un2 d fun one other => (Res.ok true)) (fun d => un2 d fun one other => (bd2 (Res.ok one) (Res.ok other) addV)) (zipX (xs.map .int) (ys.map .int)) = .ok ((List.zipWith (· + ·) xs ys).map .int)
  | [], _ => rfl
  | _ :: _, [] => rfl
  | x :: xs, y :: ys => by
    rw [List.map_cons, List.map_cons, zipX_cons]
    unfold lcR
    rw [zip_add xs ys]
    rfl
def bcRow (n : Nat) : List Int := (List.range (n + 1)).map fun i => (bc n i : Int)
theorem bcRow_len (n : Nat) : (bcRow n).length = n + 1 := by simp [bcRow]
theorem bcRow_step (n : Nat) : List.zipWith (· + ·) (0 :: bcRow n) (bcRow n ++ [0]) = bcRow (n + 1) := by
  refine List.ext_getElem (by simp [bcRow]) fun i h1 h2 => ?_
  rw [List.getElem_zipWith]
  rw [bcRow_len] at h2
  have e2 : (bcRow (n + 1))[i] = (bc (n + 1) i : Int) := by simp [bcRow]
  rw [e2]
  cases i with
  | zero => simp [bcRow, bc_z]
  | succ i =>
    have e3 : (0 :: bcRow n)[i + 1]'(by simp [bcRow]; omega) = (bc n i : Int) := by simp [bcRow]
    rw [e3]
    by_cases h : i + 1 < n + 1
    · have : (bcRow n ++ [0])[i + 1]'(by simp [bcRow]; omega) = (bc n (i + 1) : Int) := by
        rw [List.getElem_append_left (by rw [bcRow_len]; omega)]
        simp [bcRow]
      rw [this]
      show _ = ((bc n i + bc n (i + 1) : Nat) : Int)
      omega
    · have : (bcRow n ++ [0])[i + 1]'(by simp [bcRow]; omega) = 0 := by
        rw [List.getElem_append_right (by rw [bcRow_len]; omega)]
        simp
      rw [this]
      show _ = ((bc n i + bc n (i + 1) : Nat) : Int)
      rw [bc_lt n (i + 1) (by omega)]
      omega
theorem bcRow_loop {n : Nat} (hn : n ≤ 40) : forN (fun step (s__1 : D) => (((bd2 (bd2 ((consR (Res.ok (PyData.int 0)) (Res.ok ([] : List D))).bd lstR) (Res.ok s__1) addV) (bd2 (Res.ok s__1) ((consR (Res.ok (PyData.int 0)) (Res.ok ([] : List D))).bd lstR) addV) zipAA).bd fun ds => (lcR (fun d => un2 d fun one other => (Res.ok true)) (fun d => un2 d fun one other => (bd2 (Res.ok one) (Res.ok other) addV)) ds).bd lstR).bd fun row_1 => (Res.ok row_1))) (rangeL 0 n) (intL [1]) = .ok (intL (bcRow n)) := by
  have e0 : ∀ r : Res D, r.bd (fun s => Res.ok s) = r := fun r => by cases r <;> rfl
  rw [← e0 (forN _ _ _)]
  refine forN_range_then (P := fun r => r = _) (I := fun j s => s = intL (bcRow j)) rfl ?_ ?_
  · rintro j s hj rfl
    refine ⟨intL (bcRow (j + 1)), ?_, rfl⟩
    have hl := bcRow_len j
    have a1 : addV (.list [.int 0]) (intL (bcRow j)) = .ok (.list ((0 :: bcRow j).map .int)) := by
      rw [show (intL (bcRow j) : D) = .list ((bcRow j).map .int) from rfl, addV_lst (by simp; omega)]
      rfl
    have a2 : addV (intL (bcRow j)) (.list [.int 0]) = .ok (.list ((bcRow j ++ [0]).map .int)) := by
      rw [show (intL (bcRow j) : D) = .list ((bcRow j).map .int) from rfl, addV_lst (by simp; omega)]
      simp
    have l0 : (consR (Res.ok (PyData.int 0)) (Res.ok ([] : List D))).bd lstR = .ok (.list [.int 0]) := rfl
    rw [l0, bd2_ok, bd2_ok, a1, a2, bd2_ok, zipAA_list, bd_ok, zip_add, bd_ok, bcRow_step]
    rw [lstR_ok (by rw [List.length_map, bcRow_len]; omega)]
    rfl
  · rintro s rfl
    rfl
theorem due_alt {b y : Int} (hb : 0 ≤ b) (hy : 0 < y) : b / y + (if decide (0 < b % y) = true then 1 else 0) = (b + y - 1) / y := by
  have h1 := Int.mul_ediv_add_emod b y
  have h2 := Int.emod_nonneg b (show y ≠ 0 by omega)
  have h3 := Int.emod_lt_of_pos b hy
  generalize b / y = q at *
  generalize b % y = r at *
  have e : b + y - 1 = (y - 1 + r) + y * q := by omega
  rw [e, Int.add_mul_ediv_left _ _ (by omega)]
  by_cases h : 0 < r
  · have : (y - 1 + r) / y = 1 := by
      refine Int.le_antisymm (Int.lt_add_one_iff.mp (Int.ediv_lt_of_lt_mul hy (by omega))) (Int.le_ediv_of_mul_le hy (by omega))
    simp [h, this]
    omega
  · have : (y - 1 + r) / y = 0 := Int.ediv_eq_zero_of_lt (by omega) (by omega)
    simp [h, this]
theorem law_due_ok (P : Prm p) (k1 : 1 ≤ k) (h16 : places.length ≤ 16) {t : Nat} (hk : k ≤ (t : Int)) (ht : t ≤ places.length) : m_law_due (.tuple [.int p, .int k, intT places]) (.int (t : Int)) = .ok (.int (dueN p places.length t k.toNat)) := by
  have hr : range1 (.int ((t : Int) - k)) = .ok (rangeL 0 (t - k.toNat)) := by
    rw [range1_ok (by omega) (by omega)]
    congr 2
    omega
  have hrow := bcRow_loop (n := places.length) (by omega)
  have hl := pow_loop P (n := t - k.toNat) (by omega)
  obtain ⟨hp1, hp2⟩ := pow_small P (n := t - k.toNat) (by omega)
  have hix : ixV (intL (bcRow places.length)) (.int (t : Int)) = .ok (.int (bc places.length t : Int)) := by
    refine ix_list (by omega) ?_
    rw [Int.toNat_natCast, List.getElem?_map, List.getElem?_eq_getElem (by rw [bcRow_len]; omega)]
    simp [bcRow]
  have hf := fdivW_ok (i := (bc places.length t : Int)) hp1 hp2
  have hm : modV (.int (bc places.length t : Int)) (.int (p ^ (t - k.toNat))) = .ok (.int ((bc places.length t : Int) % p ^ (t - k.toNat))) := modV_int hp1
  have hd := due_alt (b := (bc places.length t : Int)) (by omega) hp1
  unfold m_law_due
  simp only [bd2_ok, bd_ok] at hl
  simp (disch := (first | assumption | omega | decide | (simp only [List.length_cons, List.length_nil, List.length_map, List.length_append]; omega))) only [bd_ok, bd_exc, bd2_ok, consR_ok, nx_ok, ap1_ok, ap2_ok, ap3_ok, ap4_ok, ap5_ok, un2_tup, un3_tup, onL_list, addV_int, subV_int, ltV_int, leV_int, gtV_int, geV_int, augI_int, negV_int, eqV_int, neV_int, bl_bool, ifR_ok, andR_ok, orR_ok, notR_ok, andV_ok, orV_ok, notV_ok, lenV_list, lenV_tup, List.length_map, List.length_cons, List.length_nil, seqItems_list, seqItems_tup, enumA_list, enumA_tup, zipAA_list, zipAA_tup, revA_tup, revA_list, tupleV_list, tupleV_tup, listV_list, listV_tup, max2V_int, min2V_int, lstR_nil, thenC_next, thenC_ret, Bool.not_true, Bool.not_false, if_true, if_false, Bool.false_eq_true, modV_int, fdivV_a, mulI_a, mulI_b, range1_a, range2_a, lstR_ok, tupR_ok, app1_ok, ix_intsA, ix_intsT, isi_int_int, isi_bool_int, isi_bool_bool, isi_list_list, isi_tup_tup, isNV_int, isNV_none, isNV_list, isNV_tup, notNV_int, notNV_none, notNV_list, notNV_tup, addV_lst, addV_tup, partV_int, slR_list, slR_tup, setL_a, chV_int, Int.zero_add, Int.toNat_natCast, decide_true, decide_false, List.length_append, List.length_singleton, Nat.reduceAdd, Nat.zero_add, Int.cast_ofNat_Int, Int.natCast_zero, Int.natCast_one, Int.reduceLT, Int.reduceLE, Int.reduceEq, Int.reduceNe, Int.reduceAdd, Int.reduceSub, Int.reduceMul, Int.reduceNeg, Int.reduceToNat, eq_self, ite_self] at hrow
  clear hp1 hp2
  simp (disch := (first | assumption | omega | decide | (simp only [List.length_cons, List.length_nil, List.length_map, List.length_append]; omega))) only [bd_ok, bd_exc, bd2_ok, consR_ok, nx_ok, ap1_ok, ap2_ok, ap3_ok, ap4_ok, ap5_ok, un2_tup, un3_tup, onL_list, addV_int, subV_int, ltV_int, leV_int, gtV_int, geV_int, augI_int, negV_int, eqV_int, neV_int, bl_bool, ifR_ok, andR_ok, orR_ok, notR_ok, andV_ok, orV_ok, notV_ok, lenV_list, lenV_tup, List.length_map, List.length_cons, List.length_nil, seqItems_list, seqItems_tup, enumA_list, enumA_tup, zipAA_list, zipAA_tup, revA_tup, revA_list, tupleV_list, tupleV_tup, listV_list, listV_tup, max2V_int, min2V_int, lstR_nil, thenC_next, thenC_ret, Bool.not_true, Bool.not_false, if_true, if_false, Bool.false_eq_true, modV_int, fdivV_a, mulI_a, mulI_b, range1_a, range2_a, lstR_ok, tupR_ok, app1_ok, ix_intsA, ix_intsT, isi_int_int, isi_bool_int, isi_bool_bool, isi_list_list, isi_tup_tup, isNV_int, isNV_none, isNV_list, isNV_tup, notNV_int, notNV_none, notNV_list, notNV_tup, addV_lst, addV_tup, partV_int, slR_list, slR_tup, setL_a, chV_int, Int.zero_add, Int.toNat_natCast, decide_true, decide_false, List.length_append, List.length_singleton, Nat.reduceAdd, Nat.zero_add, Int.cast_ofNat_Int, Int.natCast_zero, Int.natCast_one, Int.reduceLT, Int.reduceLE, Int.reduceEq, Int.reduceNe, Int.reduceAdd, Int.reduceSub, Int.reduceMul, Int.reduceNeg, Int.reduceToNat, eq_self, ite_self, hr, hl]
  refine Eq.trans (congrArg (fun r : Res D => r.bd _) hrow) ?_
  rw [bd_ok, hix, bd_ok, hf, hm]
  simp only [bd2_ok, gtV, bd_ok]
  rw [dueN, ← hd]
  cases decide (0 < (bc places.length t : Int) % p ^ (t - k.toNat)) <;> simp [intV, bd2_ok, bd_ok]
end
end SC
namespace SC
open PySem DL
theorem thenC_nx {S T : Type} {X : Res (Ctl S)} {mk : D → T} {K : S → Res T} {R : Res T} {s : S} (h : X = .ok (.next s)) (hk : K s = R) : X.thenC mk K = R := by
  rw [h]
  exact hk
theorem told0 {c t d : D} (h : m_due_of c t = .ok d) : m_law_told (.int 0) c t = .ok d := by
  unfold m_law_told
  simp (disch := (first | assumption | omega | decide | (simp only [List.length_cons, List.length_nil, List.length_map, List.length_append]; omega))) only [bd_ok, bd_exc, bd2_ok, consR_ok, nx_ok, ap1_ok, ap2_ok, ap3_ok, ap4_ok, ap5_ok, un2_tup, un3_tup, onL_list, addV_int, subV_int, ltV_int, leV_int, gtV_int, geV_int, augI_int, negV_int, eqV_int, neV_int, bl_bool, ifR_ok, andR_ok, orR_ok, notR_ok, andV_ok, orV_ok, notV_ok, lenV_list, lenV_tup, List.length_map, List.length_cons, List.length_nil, seqItems_list, seqItems_tup, enumA_list, enumA_tup, zipAA_list, zipAA_tup, revA_tup, revA_list, tupleV_list, tupleV_tup, listV_list, listV_tup, max2V_int, min2V_int, lstR_nil, thenC_next, thenC_ret, Bool.not_true, Bool.not_false, if_true, if_false, Bool.false_eq_true, modV_int, fdivV_a, mulI_a, mulI_b, range1_a, range2_a, lstR_ok, tupR_ok, app1_ok, ix_intsA, ix_intsT, isi_int_int, isi_bool_int, isi_bool_bool, isi_list_list, isi_tup_tup, isNV_int, isNV_none, isNV_list, isNV_tup, notNV_int, notNV_none, notNV_list, notNV_tup, addV_lst, addV_tup, partV_int, slR_list, slR_tup, setL_a, chV_int, Int.zero_add, Int.toNat_natCast, decide_true, decide_false, List.length_append, List.length_singleton, Nat.reduceAdd, Nat.zero_add, Int.cast_ofNat_Int, Int.natCast_zero, Int.natCast_one, Int.reduceLT, Int.reduceLE, Int.reduceEq, Int.reduceNe, Int.reduceAdd, Int.reduceSub, Int.reduceMul, Int.reduceNeg, Int.reduceToNat, eq_self, ite_self, h, wordR_ok]
theorem told1 {c t d : D} (h : m_many_near c t = .ok d) : m_law_told (.int 1) c t = .ok d := by
  unfold m_law_told
  simp (disch := (first | assumption | omega | decide | (simp only [List.length_cons, List.length_nil, List.length_map, List.length_append]; omega))) only [bd_ok, bd_exc, bd2_ok, consR_ok, nx_ok, ap1_ok, ap2_ok, ap3_ok, ap4_ok, ap5_ok, un2_tup, un3_tup, onL_list, addV_int, subV_int, ltV_int, leV_int, gtV_int, geV_int, augI_int, negV_int, eqV_int, neV_int, bl_bool, ifR_ok, andR_ok, orR_ok, notR_ok, andV_ok, orV_ok, notV_ok, lenV_list, lenV_tup, List.length_map, List.length_cons, List.length_nil, seqItems_list, seqItems_tup, enumA_list, enumA_tup, zipAA_list, zipAA_tup, revA_tup, revA_list, tupleV_list, tupleV_tup, listV_list, listV_tup, max2V_int, min2V_int, lstR_nil, thenC_next, thenC_ret, Bool.not_true, Bool.not_false, if_true, if_false, Bool.false_eq_true, modV_int, fdivV_a, mulI_a, mulI_b, range1_a, range2_a, lstR_ok, tupR_ok, app1_ok, ix_intsA, ix_intsT, isi_int_int, isi_bool_int, isi_bool_bool, isi_list_list, isi_tup_tup, isNV_int, isNV_none, isNV_list, isNV_tup, notNV_int, notNV_none, notNV_list, notNV_tup, addV_lst, addV_tup, partV_int, slR_list, slR_tup, setL_a, chV_int, Int.zero_add, Int.toNat_natCast, decide_true, decide_false, List.length_append, List.length_singleton, Nat.reduceAdd, Nat.zero_add, Int.cast_ofNat_Int, Int.natCast_zero, Int.natCast_one, Int.reduceLT, Int.reduceLE, Int.reduceEq, Int.reduceNe, Int.reduceAdd, Int.reduceSub, Int.reduceMul, Int.reduceNeg, Int.reduceToNat, eq_self, ite_self, h, wordR_ok]
theorem few0 {c t : D} (h : m_due_of c t = .exc "TooFew") : m_law_told (.int 0) c t = .ok (.str "few") := by
  unfold m_law_told
  simp (disch := (first | assumption | omega | decide | (simp only [List.length_cons, List.length_nil, List.length_map, List.length_append]; omega))) only [bd_ok, bd_exc, bd2_ok, consR_ok, nx_ok, ap1_ok, ap2_ok, ap3_ok, ap4_ok, ap5_ok, un2_tup, un3_tup, onL_list, addV_int, subV_int, ltV_int, leV_int, gtV_int, geV_int, augI_int, negV_int, eqV_int, neV_int, bl_bool, ifR_ok, andR_ok, orR_ok, notR_ok, andV_ok, orV_ok, notV_ok, lenV_list, lenV_tup, List.length_map, List.length_cons, List.length_nil, seqItems_list, seqItems_tup, enumA_list, enumA_tup, zipAA_list, zipAA_tup, revA_tup, revA_list, tupleV_list, tupleV_tup, listV_list, listV_tup, max2V_int, min2V_int, lstR_nil, thenC_next, thenC_ret, Bool.not_true, Bool.not_false, if_true, if_false, Bool.false_eq_true, modV_int, fdivV_a, mulI_a, mulI_b, range1_a, range2_a, lstR_ok, tupR_ok, app1_ok, ix_intsA, ix_intsT, isi_int_int, isi_bool_int, isi_bool_bool, isi_list_list, isi_tup_tup, isNV_int, isNV_none, isNV_list, isNV_tup, notNV_int, notNV_none, notNV_list, notNV_tup, addV_lst, addV_tup, partV_int, slR_list, slR_tup, setL_a, chV_int, Int.zero_add, Int.toNat_natCast, decide_true, decide_false, List.length_append, List.length_singleton, Nat.reduceAdd, Nat.zero_add, Int.cast_ofNat_Int, Int.natCast_zero, Int.natCast_one, Int.reduceLT, Int.reduceLE, Int.reduceEq, Int.reduceNe, Int.reduceAdd, Int.reduceSub, Int.reduceMul, Int.reduceNeg, Int.reduceToNat, eq_self, ite_self, h]
  rfl
theorem few1 {c t : D} (h : m_many_near c t = .exc "TooFew") : m_law_told (.int 1) c t = .ok (.str "few") := by
  unfold m_law_told
  simp (disch := (first | assumption | omega | decide | (simp only [List.length_cons, List.length_nil, List.length_map, List.length_append]; omega))) only [bd_ok, bd_exc, bd2_ok, consR_ok, nx_ok, ap1_ok, ap2_ok, ap3_ok, ap4_ok, ap5_ok, un2_tup, un3_tup, onL_list, addV_int, subV_int, ltV_int, leV_int, gtV_int, geV_int, augI_int, negV_int, eqV_int, neV_int, bl_bool, ifR_ok, andR_ok, orR_ok, notR_ok, andV_ok, orV_ok, notV_ok, lenV_list, lenV_tup, List.length_map, List.length_cons, List.length_nil, seqItems_list, seqItems_tup, enumA_list, enumA_tup, zipAA_list, zipAA_tup, revA_tup, revA_list, tupleV_list, tupleV_tup, listV_list, listV_tup, max2V_int, min2V_int, lstR_nil, thenC_next, thenC_ret, Bool.not_true, Bool.not_false, if_true, if_false, Bool.false_eq_true, modV_int, fdivV_a, mulI_a, mulI_b, range1_a, range2_a, lstR_ok, tupR_ok, app1_ok, ix_intsA, ix_intsT, isi_int_int, isi_bool_int, isi_bool_bool, isi_list_list, isi_tup_tup, isNV_int, isNV_none, isNV_list, isNV_tup, notNV_int, notNV_none, notNV_list, notNV_tup, addV_lst, addV_tup, partV_int, slR_list, slR_tup, setL_a, chV_int, Int.zero_add, Int.toNat_natCast, decide_true, decide_false, List.length_append, List.length_singleton, Nat.reduceAdd, Nat.zero_add, Int.cast_ofNat_Int, Int.natCast_zero, Int.natCast_one, Int.reduceLT, Int.reduceLE, Int.reduceEq, Int.reduceNe, Int.reduceAdd, Int.reduceSub, Int.reduceMul, Int.reduceNeg, Int.reduceToNat, eq_self, ite_self, h]
  rfl
theorem few2 : neV (.list [.str "few", .str "few"]) (.list [.str "few", .str "few"]) = .ok (.bool false) := by
  unfold neV
  rw [if_pos (by decide +kernel)]
  exact congrArg (fun b => Res.ok (PyData.bool b)) (by decide +kernel)
theorem tupsOf_map : ∀ l : List (List Int), tupsOf (l.map intT) = some l
  | [] => rfl
  | z :: l => by
    have ih := tupsOf_map l
    show (match intsOf (z.map .int), tupsOf (l.map intT) with | some ns, some nss => some (ns :: nss) | _, _ => none) = _
    rw [intsOf_map, ih]
theorem sorted_own {l : List (List Int)} (hn : l.Nodup) (h : ∀ z ∈ l, z ≠ []) (hl : l.length ≤ 4500) : sortedSetN (.list ((srt l).map intT)) = .ok (.list ((srt l).map intT)) := by
  unfold sortedSetN
  simp only [tupsOf_map]
  have hp := srt_perm l
  rw [if_pos (by
    rw [Bool.and_eq_true, Bool.and_eq_true, decide_eq_true_eq, decide_eq_true_eq]
    exact ⟨⟨by rw [hp.length_eq]; exact hl, hp.nodup_iff.mpr hn⟩, sortOk_tups (fun z hz => h z (hp.mem_iff.mp hz)) (by rw [hp.length_eq]; omega)⟩), sortD_tups]
  rw [lex_uniq (srt_perm (srt l)) (srt_pw (srt l)) (srt_pw l)]
section
variable {p k : Int} {places : List Int}
theorem due_few {t : Int} (h : t < k ∨ (places.length : Int) < t) : m_due_of (.tuple [.int p, .int k, intT places]) (.int t) = .exc "TooFew" := by
  unfold m_due_of
  simp (disch := (first | assumption | omega | decide | (simp only [List.length_cons, List.length_nil, List.length_map, List.length_append]; omega))) only [bd_ok, bd_exc, bd2_ok, consR_ok, nx_ok, ap1_ok, ap2_ok, ap3_ok, ap4_ok, ap5_ok, un2_tup, un3_tup, onL_list, addV_int, subV_int, ltV_int, leV_int, gtV_int, geV_int, augI_int, negV_int, eqV_int, neV_int, bl_bool, ifR_ok, andR_ok, orR_ok, notR_ok, andV_ok, orV_ok, notV_ok, lenV_list, lenV_tup, List.length_map, List.length_cons, List.length_nil, seqItems_list, seqItems_tup, enumA_list, enumA_tup, zipAA_list, zipAA_tup, revA_tup, revA_list, tupleV_list, tupleV_tup, listV_list, listV_tup, max2V_int, min2V_int, lstR_nil, thenC_next, thenC_ret, Bool.not_true, Bool.not_false, if_true, if_false, Bool.false_eq_true, modV_int, fdivV_a, mulI_a, mulI_b, range1_a, range2_a, lstR_ok, tupR_ok, app1_ok, ix_intsA, ix_intsT, isi_int_int, isi_bool_int, isi_bool_bool, isi_list_list, isi_tup_tup, isNV_int, isNV_none, isNV_list, isNV_tup, notNV_int, notNV_none, notNV_list, notNV_tup, addV_lst, addV_tup, partV_int, slR_list, slR_tup, setL_a, chV_int, Int.zero_add, Int.toNat_natCast, decide_true, decide_false, List.length_append, List.length_singleton, Nat.reduceAdd, Nat.zero_add, Int.cast_ofNat_Int, Int.natCast_zero, Int.natCast_one, Int.reduceLT, Int.reduceLE, Int.reduceEq, Int.reduceNe, Int.reduceAdd, Int.reduceSub, Int.reduceMul, Int.reduceNeg, Int.reduceToNat, eq_self, ite_self]
  rcases h with h | h
  · rw [decide_eq_true h]
    rfl
  · rw [decide_eq_true h]
    cases decide (t < k) <;> rfl
theorem many_few {t : Int} (h : t < k ∨ (places.length : Int) < t) : m_many_near (.tuple [.int p, .int k, intT places]) (.int t) = .exc "TooFew" := by
  unfold m_many_near
  simp (disch := (first | assumption | omega | decide | (simp only [List.length_cons, List.length_nil, List.length_map, List.length_append]; omega))) only [bd_ok, bd_exc, bd2_ok, consR_ok, nx_ok, ap1_ok, ap2_ok, ap3_ok, ap4_ok, ap5_ok, un2_tup, un3_tup, onL_list, addV_int, subV_int, ltV_int, leV_int, gtV_int, geV_int, augI_int, negV_int, eqV_int, neV_int, bl_bool, ifR_ok, andR_ok, orR_ok, notR_ok, andV_ok, orV_ok, notV_ok, lenV_list, lenV_tup, List.length_map, List.length_cons, List.length_nil, seqItems_list, seqItems_tup, enumA_list, enumA_tup, zipAA_list, zipAA_tup, revA_tup, revA_list, tupleV_list, tupleV_tup, listV_list, listV_tup, max2V_int, min2V_int, lstR_nil, thenC_next, thenC_ret, Bool.not_true, Bool.not_false, if_true, if_false, Bool.false_eq_true, modV_int, fdivV_a, mulI_a, mulI_b, range1_a, range2_a, lstR_ok, tupR_ok, app1_ok, ix_intsA, ix_intsT, isi_int_int, isi_bool_int, isi_bool_bool, isi_list_list, isi_tup_tup, isNV_int, isNV_none, isNV_list, isNV_tup, notNV_int, notNV_none, notNV_list, notNV_tup, addV_lst, addV_tup, partV_int, slR_list, slR_tup, setL_a, chV_int, Int.zero_add, Int.toNat_natCast, decide_true, decide_false, List.length_append, List.length_singleton, Nat.reduceAdd, Nat.zero_add, Int.cast_ofNat_Int, Int.natCast_zero, Int.natCast_one, Int.reduceLT, Int.reduceLE, Int.reduceEq, Int.reduceNe, Int.reduceAdd, Int.reduceSub, Int.reduceMul, Int.reduceNeg, Int.reduceToNat, eq_self, ite_self, due_few h]
theorem bc_mono : ∀ (n m k : Nat), n ≤ m → bc n k ≤ bc m k
  | n, m, 0, _ => by rw [bc_z, bc_z]; exact Nat.le_refl _
  | 0, m, k + 1, _ => Nat.zero_le _
  | n + 1, 0, k + 1, h => absurd h (by omega)
  | n + 1, m + 1, k + 1, h => by
    have h1 := bc_mono n m k (by omega)
    have h2 := bc_mono n m (k + 1) (by omega)
    show bc n k + bc n (k + 1) ≤ bc m k + bc m (k + 1)
    omega
theorem bc_few {n k : Nat} (hn : n ≤ 16) (hk : k ≤ 5) : bc n k ≤ 4368 := by
  refine Nat.le_trans (bc_mono n 16 k hn) ?_
  have : k = 0 ∨ k = 1 ∨ k = 2 ∨ k = 3 ∨ k = 4 ∨ k = 5 := by omega
  rcases this with rfl | rfl | rfl | rfl | rfl | rfl <;> decide +kernel
theorem good_ok (p2 : 2 ≤ p) {l : List Int} (h : ∀ x ∈ l, 0 ≤ x ∧ x < p) : lcR (fun entry => Res.ok true) (fun entry => andV (m_law_whole entry) ((leV (PyData.int 0) entry).bd fun z => (bl z).bd fun k => if k = true then ltV entry (PyData.int p) else Res.ok (PyData.bool false))) (l.map .int) = .ok (l.map fun _ => .bool true) := by
  refine lc_of (f := PyData.int) (fun _ _ => rfl) fun x hx => ?_
  have := h x hx
  have hw : m_law_whole (.int x) = .ok (.bool true) := rfl
  simp (disch := (first | assumption | omega | decide | (simp only [List.length_cons, List.length_nil, List.length_map, List.length_append]; omega))) only [bd_ok, bd_exc, bd2_ok, consR_ok, nx_ok, ap1_ok, ap2_ok, ap3_ok, ap4_ok, ap5_ok, un2_tup, un3_tup, onL_list, addV_int, subV_int, ltV_int, leV_int, gtV_int, geV_int, augI_int, negV_int, eqV_int, neV_int, bl_bool, ifR_ok, andR_ok, orR_ok, notR_ok, andV_ok, orV_ok, notV_ok, lenV_list, lenV_tup, List.length_map, List.length_cons, List.length_nil, seqItems_list, seqItems_tup, enumA_list, enumA_tup, zipAA_list, zipAA_tup, revA_tup, revA_list, tupleV_list, tupleV_tup, listV_list, listV_tup, max2V_int, min2V_int, lstR_nil, thenC_next, thenC_ret, Bool.not_true, Bool.not_false, if_true, if_false, Bool.false_eq_true, modV_int, fdivV_a, mulI_a, mulI_b, range1_a, range2_a, lstR_ok, tupR_ok, app1_ok, ix_intsA, ix_intsT, isi_int_int, isi_bool_int, isi_bool_bool, isi_list_list, isi_tup_tup, isNV_int, isNV_none, isNV_list, isNV_tup, notNV_int, notNV_none, notNV_list, notNV_tup, addV_lst, addV_tup, partV_int, slR_list, slR_tup, setL_a, chV_int, Int.zero_add, Int.toNat_natCast, decide_true, decide_false, List.length_append, List.length_singleton, Nat.reduceAdd, Nat.zero_add, Int.cast_ofNat_Int, Int.natCast_zero, Int.natCast_one, Int.reduceLT, Int.reduceLE, Int.reduceEq, Int.reduceNe, Int.reduceAdd, Int.reduceSub, Int.reduceMul, Int.reduceNeg, Int.reduceToNat, eq_self, ite_self, hw]
  simp only [decide_eq_true this.1, decide_eq_true this.2]
  rfl
end
theorem law_true (ns : List Int) (h : ns.length ≤ 63) : m_law (.list (ns.map .int)) = .ok (.bool true) := by
  unfold m_law
  simp (disch := (first | assumption | omega | decide | (simp only [List.length_cons, List.length_nil, List.length_map, List.length_append]; omega))) only [bd_ok, bd_exc, bd2_ok, consR_ok, nx_ok, ap1_ok, ap2_ok, ap3_ok, ap4_ok, ap5_ok, un2_tup, un3_tup, onL_list, addV_int, subV_int, ltV_int, leV_int, gtV_int, geV_int, augI_int, negV_int, eqV_int, neV_int, bl_bool, ifR_ok, andR_ok, orR_ok, notR_ok, andV_ok, orV_ok, notV_ok, lenV_list, lenV_tup, List.length_map, List.length_cons, List.length_nil, seqItems_list, seqItems_tup, enumA_list, enumA_tup, zipAA_list, zipAA_tup, revA_tup, revA_list, tupleV_list, tupleV_tup, listV_list, listV_tup, max2V_int, min2V_int, lstR_nil, thenC_next, thenC_ret, Bool.not_true, Bool.not_false, if_true, if_false, Bool.false_eq_true, modV_int, fdivV_a, mulI_a, mulI_b, range1_a, range2_a, lstR_ok, tupR_ok, app1_ok, ix_intsA, ix_intsT, isi_int_int, isi_bool_int, isi_bool_bool, isi_list_list, isi_tup_tup, isNV_int, isNV_none, isNV_list, isNV_tup, notNV_int, notNV_none, notNV_list, notNV_tup, addV_lst, addV_tup, partV_int, slR_list, slR_tup, setL_a, chV_int, Int.zero_add, Int.toNat_natCast, decide_true, decide_false, List.length_append, List.length_singleton, Nat.reduceAdd, Nat.zero_add, Int.cast_ofNat_Int, Int.natCast_zero, Int.natCast_one, Int.reduceLT, Int.reduceLE, Int.reduceEq, Int.reduceNe, Int.reduceAdd, Int.reduceSub, Int.reduceMul, Int.reduceNeg, Int.reduceToNat, eq_self, ite_self]
  refine (congrArg (fun r => Res.thenC r id fun _ => Res.ok (PyData.bool true)) (forC_unit fun d hd => ?_)).trans rfl
  obtain ⟨at_, hat, rfl⟩ : ∃ a : Nat, a < 2 ∧ d = .int a := by
    unfold rangeL at hd
    obtain ⟨i, hi, rfl⟩ := List.mem_map.mp hd
    exact ⟨i, by simpa using List.mem_range.mp hi, by simp⟩
  obtain ⟨mn, b53, e53⟩ := ix_ints (ns := [16, 10]) (i := (at_ : Int)) (by omega) (by simp; omega)
  have hmn : mn = 16 ∨ mn = 10 := by simpa using List.mem_of_getElem? b53
  have e53' : ixV (.list [.int 16, .int 10]) (.int (at_ : Int)) = .ok (.int mn) := e53
  obtain ⟨p, k, places, e1, P, p5, k1, k5, kp, kl, pl, ip, nd⟩ := law_code_ok (ns := ns) (at_ := 2 * at_) (mk := 5) (mn := mn) (by omega) (by decide) (by omega) (by omega)
  obtain ⟨plan, pln, plx, e4⟩ := draws_ok (ns := ns) (k := 2 * at_ + 1) (base := 27720) 4 (by omega) (by decide) (by decide) (by decide)
  rw [show (.int ((4 : Nat) : Int) : D) = .int 4 from rfl] at e4
  have m0 := Int.emod_nonneg (atD plan 0) (show (places.length : Int) - k + 1 ≠ 0 by omega)
  have m0' := Int.emod_lt_of_pos (atD plan 0) (show 0 < (places.length : Int) - k + 1 by omega)
  have m1 := Int.emod_nonneg (atD plan 1) (show (places.length : Int) - k + 1 ≠ 0 by omega)
  have m1' := Int.emod_lt_of_pos (atD plan 1) (show 0 < (places.length : Int) - k + 1 by omega)
  simp (disch := (first | assumption | omega | decide | (simp only [List.length_cons, List.length_nil, List.length_map, List.length_append]; omega))) only [bd_ok, bd_exc, bd2_ok, consR_ok, nx_ok, ap1_ok, ap2_ok, ap3_ok, ap4_ok, ap5_ok, un2_tup, un3_tup, onL_list, addV_int, subV_int, ltV_int, leV_int, gtV_int, geV_int, augI_int, negV_int, eqV_int, neV_int, bl_bool, ifR_ok, andR_ok, orR_ok, notR_ok, andV_ok, orV_ok, notV_ok, lenV_list, lenV_tup, List.length_map, List.length_cons, List.length_nil, seqItems_list, seqItems_tup, enumA_list, enumA_tup, zipAA_list, zipAA_tup, revA_tup, revA_list, tupleV_list, tupleV_tup, listV_list, listV_tup, max2V_int, min2V_int, lstR_nil, thenC_next, thenC_ret, Bool.not_true, Bool.not_false, if_true, if_false, Bool.false_eq_true, modV_int, fdivV_a, mulI_a, mulI_b, range1_a, range2_a, lstR_ok, tupR_ok, app1_ok, ix_intsA, ix_intsT, isi_int_int, isi_bool_int, isi_bool_bool, isi_list_list, isi_tup_tup, isNV_int, isNV_none, isNV_list, isNV_tup, notNV_int, notNV_none, notNV_list, notNV_tup, addV_lst, addV_tup, partV_int, slR_list, slR_tup, setL_a, chV_int, Int.zero_add, Int.toNat_natCast, decide_true, decide_false, List.length_append, List.length_singleton, Nat.reduceAdd, Nat.zero_add, Int.cast_ofNat_Int, Int.natCast_zero, Int.natCast_one, Int.reduceLT, Int.reduceLE, Int.reduceEq, Int.reduceNe, Int.reduceAdd, Int.reduceSub, Int.reduceMul, Int.reduceNeg, Int.reduceToNat, eq_self, ite_self, e53', e1, e4]
  refine thenC_nx (s := ()) (forC_unit fun d hd => ?_) ?_
  · obtain ⟨t, hk, ht, rfl⟩ : ∃ t : Nat, k ≤ (t : Int) ∧ t ≤ places.length ∧ d = .int (t : Int) := by
      simp only [List.mem_cons, List.not_mem_nil, or_false] at hd
      rcases hd with rfl | rfl | rfl
      · exact ⟨k.toNat, by omega, by omega, by congr 1; omega⟩
      · exact ⟨(k + atD plan 0 % ((places.length : Int) - k + 1)).toNat, by omega, by omega, by congr 1; omega⟩
      · exact ⟨(k + atD plan 1 % ((places.length : Int) - k + 1)).toNat, by omega, by omega, by congr 1; omega⟩
    have h16 : places.length ≤ 16 := by omega
    have hd1 := law_due_ok P k1 h16 hk ht
    have hd2 := told0 (due_ok P k1 h16 hk ht)
    obtain ⟨b, R, b1, b2, b3, b4, b5⟩ := many_ok P k1 ip h16 hk ht
    have hd3 := told1 b3
    have hV := vls_nd (Ls_nd (k := k) P ip nd t) b
    have hdue := due_le P k1 hk b2
    have hfew := group_few P k1 ip nd hk hV b5
    have hbc := bc_few h16 (show k.toNat ≤ 5 by omega)
    generalize vls ((chs places t).map (kv p k)) b = V at *
    have hsl : (srt V).length = V.length := (srt_perm V).length_eq
    have hrow : (intL (places.map R) : D) = rowL (places.map fun x => some (R x)) := by
      show PyData.list _ = PyData.list _
      rw [List.map_map, List.map_map]
      rfl
    have hg1 := good_ok (p := p) (by omega) (l := places.map R) fun x hx => by
      obtain ⟨y, _, rfl⟩ := List.mem_map.mp hx
      exact b4 y
    have hso := sorted_own hV (fun z hz e => by
      have := (b5 z hz).1
      rw [e, List.length_nil] at this
      omega) (by omega)
    have hw : m_law_whole (.int (dueN p places.length t k.toNat)) = .ok (.bool true) := rfl
    have hlt : decide ((V.length : Int) < dueN p places.length t k.toNat) = false := decide_eq_false (by omega)
    have hix : ixV (.tuple [intL (places.map R), .list ((srt V).map intT)]) (.int 0) = .ok (intL (places.map R)) := ix_tup (by decide) rfl
    have hF := (inF_trues (places.map R)).1
    have hnt : neV (.list ((srt V).map intT)) (.list ((srt V).map intT)) = .ok (.bool false) := by rw [neV_tups]; simp
    have hll : (places.map R).length = places.length := List.length_map _
    simp (disch := (first | assumption | omega | decide | (simp only [List.length_cons, List.length_nil, List.length_map, List.length_append]; omega))) only [bd_ok, bd_exc, bd2_ok, consR_ok, nx_ok, ap1_ok, ap2_ok, ap3_ok, ap4_ok, ap5_ok, un2_tup, un3_tup, onL_list, addV_int, subV_int, ltV_int, leV_int, gtV_int, geV_int, augI_int, negV_int, eqV_int, neV_int, bl_bool, ifR_ok, andR_ok, orR_ok, notR_ok, andV_ok, orV_ok, notV_ok, lenV_list, lenV_tup, List.length_map, List.length_cons, List.length_nil, seqItems_list, seqItems_tup, enumA_list, enumA_tup, zipAA_list, zipAA_tup, revA_tup, revA_list, tupleV_list, tupleV_tup, listV_list, listV_tup, max2V_int, min2V_int, lstR_nil, thenC_next, thenC_ret, Bool.not_true, Bool.not_false, if_true, if_false, Bool.false_eq_true, modV_int, fdivV_a, mulI_a, mulI_b, range1_a, range2_a, lstR_ok, tupR_ok, app1_ok, ix_intsA, ix_intsT, isi_int_int, isi_bool_int, isi_bool_bool, isi_list_list, isi_tup_tup, isNV_int, isNV_none, isNV_list, isNV_tup, notNV_int, notNV_none, notNV_list, notNV_tup, addV_lst, addV_tup, partV_int, slR_list, slR_tup, setL_a, chV_int, Int.zero_add, Int.toNat_natCast, decide_true, decide_false, List.length_append, List.length_singleton, Nat.reduceAdd, Nat.zero_add, Int.cast_ofNat_Int, Int.natCast_zero, Int.natCast_one, Int.reduceLT, Int.reduceLE, Int.reduceEq, Int.reduceNe, Int.reduceAdd, Int.reduceSub, Int.reduceMul, Int.reduceNeg, Int.reduceToNat, eq_self, ite_self, hd1, hd2, hd3, hw, hix, hg1, hF, hso, hnt, hsl, hlt]
    refine thenC_nx (s := ()) (forC_unit fun d hd => ?_) rfl
    obtain ⟨z, hz, rfl⟩ := List.mem_map.mp hd
    obtain ⟨z1, z2, c, c1, c2, c3⟩ := b5 z (mem_srt.mp hz)
    have hg2 := good_ok (p := p) (by omega) (l := z) z2
    have hF2 := (inF_trues z).1
    have hge := fit_ge nd c1 c3
    have hft := law_fits_ok (k := k) P (r := places.map fun x => some (R x)) (xs := z) (by rw [List.length_map]) (by rw [List.length_map]; omega)
    have hl2 : decide ((((hrd 0 (places.map fun x => some (R x))).filter (fitB p places (places.map fun x => some (R x)) z)).length : Int) < (t : Int)) = false := decide_eq_false (by omega)
    have hl1 : decide ((z.length : Int) = k) = true := decide_eq_true (by omega)
    simp (disch := (first | assumption | omega | decide | (simp only [List.length_cons, List.length_nil, List.length_map, List.length_append]; omega))) only [bd_ok, bd_exc, bd2_ok, consR_ok, nx_ok, ap1_ok, ap2_ok, ap3_ok, ap4_ok, ap5_ok, un2_tup, un3_tup, onL_list, addV_int, subV_int, ltV_int, leV_int, gtV_int, geV_int, augI_int, negV_int, eqV_int, neV_int, bl_bool, ifR_ok, andR_ok, orR_ok, notR_ok, andV_ok, orV_ok, notV_ok, lenV_list, lenV_tup, List.length_map, List.length_cons, List.length_nil, seqItems_list, seqItems_tup, enumA_list, enumA_tup, zipAA_list, zipAA_tup, revA_tup, revA_list, tupleV_list, tupleV_tup, listV_list, listV_tup, max2V_int, min2V_int, lstR_nil, thenC_next, thenC_ret, Bool.not_true, Bool.not_false, if_true, if_false, Bool.false_eq_true, modV_int, fdivV_a, mulI_a, mulI_b, range1_a, range2_a, lstR_ok, tupR_ok, app1_ok, ix_intsA, ix_intsT, isi_int_int, isi_bool_int, isi_bool_bool, isi_list_list, isi_tup_tup, isNV_int, isNV_none, isNV_list, isNV_tup, notNV_int, notNV_none, notNV_list, notNV_tup, addV_lst, addV_tup, partV_int, slR_list, slR_tup, setL_a, chV_int, Int.zero_add, Int.toNat_natCast, decide_true, decide_false, List.length_append, List.length_singleton, Nat.reduceAdd, Nat.zero_add, Int.cast_ofNat_Int, Int.natCast_zero, Int.natCast_one, Int.reduceLT, Int.reduceLE, Int.reduceEq, Int.reduceNe, Int.reduceAdd, Int.reduceSub, Int.reduceMul, Int.reduceNeg, Int.reduceToNat, eq_self, ite_self, hg2, hF2, hrow, hft, hl1, hl2]
  · refine thenC_nx (s := ()) (forC_unit fun d hd => ?_) rfl
    have hp2 := atD_lo (fun x hx => (plx x hx).1) 2
    have hp3 := atD_lo (fun x hx => (plx x hx).1) 3
    obtain ⟨t, ht, rfl⟩ : ∃ t : Int, (t < k ∨ (places.length : Int) < t) ∧ d = .int t := by
      simp only [List.mem_cons, List.not_mem_nil, or_false] at hd
      rcases hd with rfl | rfl | rfl | rfl
      · exact ⟨_, .inl (by omega), rfl⟩
      · exact ⟨_, .inl (by omega), rfl⟩
      · exact ⟨_, .inr (by omega), rfl⟩
      · exact ⟨_, .inr (by omega), rfl⟩
    have f0 := few0 (due_few (p := p) ht)
    have f1 := few1 (many_few (p := p) ht)
    have hr2 : rangeL 0 2 = [.int 0, .int 1] := rfl
    simp (disch := (first | assumption | omega | decide | (simp only [List.length_cons, List.length_nil, List.length_map, List.length_append]; omega))) only [bd_ok, bd_exc, bd2_ok, consR_ok, nx_ok, ap1_ok, ap2_ok, ap3_ok, ap4_ok, ap5_ok, un2_tup, un3_tup, onL_list, addV_int, subV_int, ltV_int, leV_int, gtV_int, geV_int, augI_int, negV_int, eqV_int, neV_int, bl_bool, ifR_ok, andR_ok, orR_ok, notR_ok, andV_ok, orV_ok, notV_ok, lenV_list, lenV_tup, List.length_map, List.length_cons, List.length_nil, seqItems_list, seqItems_tup, enumA_list, enumA_tup, zipAA_list, zipAA_tup, revA_tup, revA_list, tupleV_list, tupleV_tup, listV_list, listV_tup, max2V_int, min2V_int, lstR_nil, thenC_next, thenC_ret, Bool.not_true, Bool.not_false, if_true, if_false, Bool.false_eq_true, modV_int, fdivV_a, mulI_a, mulI_b, range1_a, range2_a, lstR_ok, tupR_ok, app1_ok, ix_intsA, ix_intsT, isi_int_int, isi_bool_int, isi_bool_bool, isi_list_list, isi_tup_tup, isNV_int, isNV_none, isNV_list, isNV_tup, notNV_int, notNV_none, notNV_list, notNV_tup, addV_lst, addV_tup, partV_int, slR_list, slR_tup, setL_a, chV_int, Int.zero_add, Int.toNat_natCast, decide_true, decide_false, List.length_append, List.length_singleton, Nat.reduceAdd, Nat.zero_add, Int.cast_ofNat_Int, Int.natCast_zero, Int.natCast_one, Int.reduceLT, Int.reduceLE, Int.reduceEq, Int.reduceNe, Int.reduceAdd, Int.reduceSub, Int.reduceMul, Int.reduceNeg, Int.reduceToNat, eq_self, ite_self, hr2]
    have hlc : lcR (fun way => Res.ok true) (fun way => m_law_told way (.tuple [.int p, .int k, intT places]) (.int t)) [.int 0, .int 1] = .ok [.str "few", .str "few"] := by
      unfold lcR lcR lcR
      rw [f0, f1]
      rfl
    rw [hlc]
    simp (disch := (first | assumption | omega | decide | (simp only [List.length_cons, List.length_nil, List.length_map, List.length_append]; omega))) only [bd_ok, bd_exc, bd2_ok, consR_ok, nx_ok, ap1_ok, ap2_ok, ap3_ok, ap4_ok, ap5_ok, un2_tup, un3_tup, onL_list, addV_int, subV_int, ltV_int, leV_int, gtV_int, geV_int, augI_int, negV_int, eqV_int, neV_int, bl_bool, ifR_ok, andR_ok, orR_ok, notR_ok, andV_ok, orV_ok, notV_ok, lenV_list, lenV_tup, List.length_map, List.length_cons, List.length_nil, seqItems_list, seqItems_tup, enumA_list, enumA_tup, zipAA_list, zipAA_tup, revA_tup, revA_list, tupleV_list, tupleV_tup, listV_list, listV_tup, max2V_int, min2V_int, lstR_nil, thenC_next, thenC_ret, Bool.not_true, Bool.not_false, if_true, if_false, Bool.false_eq_true, modV_int, fdivV_a, mulI_a, mulI_b, range1_a, range2_a, lstR_ok, tupR_ok, app1_ok, ix_intsA, ix_intsT, isi_int_int, isi_bool_int, isi_bool_bool, isi_list_list, isi_tup_tup, isNV_int, isNV_none, isNV_list, isNV_tup, notNV_int, notNV_none, notNV_list, notNV_tup, addV_lst, addV_tup, partV_int, slR_list, slR_tup, setL_a, chV_int, Int.zero_add, Int.toNat_natCast, decide_true, decide_false, List.length_append, List.length_singleton, Nat.reduceAdd, Nat.zero_add, Int.cast_ofNat_Int, Int.natCast_zero, Int.natCast_one, Int.reduceLT, Int.reduceLE, Int.reduceEq, Int.reduceNe, Int.reduceAdd, Int.reduceSub, Int.reduceMul, Int.reduceNeg, Int.reduceToNat, eq_self, ite_self]
    rw [few2]
    rfl
end SC
namespace SC
open PySem L2 DL PySem.Spec PyProof.Rows
def top (i : Nat) : Stmt := PySem.Challenge.pw_slipcurve_k23_rows_that_have_many.main.body.getD i (.Pass ⟨0, 0, 0, 0⟩)
structure Gl0 (K : PySem.W.Frag) (mg : Str → Option Value) : Prop where
  len : mg "len" = none
  range : mg "range" = none
  min : mg "min" = none
  list : mg "list" = none
  tuple : mg "tuple" = none
  zip : mg "zip" = none
  int : mg "int" = none
  enumerate : mg "enumerate" = none
  max : mg "max" = none
  sorted : mg "sorted" = none
  isinstance : mg "isinstance" = none
  bool : mg "bool" = none
  set : mg "set" = none
  ValueError : mg "ValueError" = none
  x_TooFew : ExF K mg "TooFew"
  word : WordC K mg
section
variable {P : Program} {w : World} {K : PySem.W.Frag} {mg : Str → Option Value} {base : Heap}
abbrev s_law_cell : Stmt := top 23
theorem sc_law_cell : FnScope ["script", "k"] ["script", "k"] (defScope s_law_cell) := ⟨rfl, rfl, rfl, by decide +kernel, rfl, by decide +kernel, by decide +kernel⟩
theorem ok_law_cell (T : Gl0 K mg)  {f : Addr} {fd : FuncData} (F : Fun K "_law_cell" "_law_cell" s_law_cell f fd) : FnOk P w K mg base (L2N.CX P w) 1 f fd ["script", "k"] (spD K mg 2 .V (ap2 m_law_cell)) := by
  refine fn_ok F sc_law_cell rfl fun cdv A outer s H E ds hr hl C => ?_
  match ds, hl with
  | [script, k], _ =>
    show SV _ _ _ [cVal script, cVal k] _ (m_law_cell script k) _
    unfold m_law_cell
    refine sv_ifRetD (tg_cp c_lt ((eg_var 1 rfl).vt) ((eg_cB1 b_len ((eg_var 0 rfl).vt) T.len DL.boot_len).vt)) ?_ ?_
    · exact sv_retD (eg_ix ((eg_var 0 rfl).vt) ((eg_var 1 rfl).vt))
    refine sv_ifRetD (tg_cp c_eq ((eg_cB1 b_len ((eg_var 0 rfl).vt) T.len DL.boot_len).vt) ((eg_int).vt)) ?_ ?_
    · exact sv_retD ((eg_add ((eg_mul ((eg_int).vt) ((eg_var 1 rfl).vt)).vt) ((eg_int).vt)).ov)
    exact sv_retD ((eg_add ((eg_mod ((eg_ix ((eg_var 0 rfl).vt) ((eg_mod ((eg_var 1 rfl).vt) ((eg_cB1 b_len ((eg_var 0 rfl).vt) T.len DL.boot_len).vt)).vt)).vt) ((eg_int).vt)).vt) ((eg_mul ((eg_int).vt) ((eg_var 1 rfl).vt)).vt)).ov)
abbrev s_law_draws : Stmt := top 24
theorem sc_law_draws : FnScope ["script", "k", "many", "base", "primes", "cell", "rest", "row", "j", "mash"] ["script", "k", "many", "base"] (defScope s_law_draws) := ⟨rfl, rfl, rfl, by decide +kernel, rfl, by decide +kernel, by decide +kernel⟩
theorem ok_law_draws (T : Gl0 K mg) (D_law_cell : Def P w K mg base "_law_cell" 1 2 .V (ap2 m_law_cell)) {f : Addr} {fd : FuncData} (F : Fun K "_law_draws" "_law_draws" s_law_draws f fd) : FnOk P w K mg base (L2N.CX P w) 2 f fd ["script", "k", "many", "base"] (spD K mg 4 .O (ap4 m_law_draws)) := by
  refine fn_ok F sc_law_draws rfl fun cdv A outer s H E ds hr hl C => ?_
  match ds, hl with
  | [script, k, many, base], _ =>
    show SV _ _ _ [cVal script, cVal k, cVal many, cVal base, cAny, cAny, cAny, cAny, cAny, cAny] _ (m_law_draws script k many base) _
    unfold m_law_draws
    refine sv_cons (s1_set 4 (eg_tup (ag_cons (eg_int) (ag_cons (eg_int) (ag_cons (eg_int) (ag_cons (eg_int) (ag_cons (eg_int) (ag_cons (eg_int) (ag_cons (eg_int) (ag_cons (eg_int) (ag_nil))))))))))) fun primes => ?_
    refine sv_cons (s1_set 5 (eg_call D_law_cell (hr.mono (by decide)) (ag_cons (eg_var 0 rfl) (ag_cons (eg_var 1 rfl) (ag_nil))))) fun cell => ?_
    refine sv_cons (s1_set 6 (eg_int)) fun rest => ?_
    refine sv_cons (s1_if (T := D) (fin := fun s_ => .nx [cVal script, cVal k, cVal many, cVal base, cVal primes, cVal cell, cVal s_, cAny, cAny, cAny]) (tg_cp c_ge ((eg_var 5 rfl).vt) ((eg_pow ((eg_int).vt) ((eg_int).vt)).vt)) ?_ ?_) fun s_ => ?_
    · refine sv_cons (s1_set 6 (eg_var 5 rfl)) fun rest_1 => ?_
      exact sv_nil rfl
    · exact sv_nil rfl
    refine sv_cons (s1_setO 7 (eg_lst (ag_nil))) fun row => ?_
    refine sv_cons (s1_for1 (out := fun (s__1 : D × D) => [cVal script, cVal k, cVal many, cVal base, cVal primes, cVal cell, cVal s__1.2, cRes s__1.1, cAny, cAny]) 8 (row, s_) (if_range1 ((eg_var 2 rfl).vt) T.range) (Wk.refl _) ⟨rfl, .inl rfl, .inl rfl⟩ ?_) fun s__3 => ?_
    · intro s__1 j
      refine sv_cons (s1_set 9 (eg_mul ((eg_mod ((eg_var 5 rfl).vt) ((eg_ix ((eg_var 4 rfl).vt) ((eg_mod ((eg_var 8 rfl).vt) ((eg_int).vt)).vt)).vt)).vt) ((eg_add ((eg_int).vt) ((eg_mul ((eg_mul ((eg_int).vt) ((eg_var 8 rfl).vt)).vt) ((eg_var 8 rfl).vt)).vt)).ot))) fun mash => ?_
      refine sv_cons (s1_set 9 ((eg_add ((eg_add ((eg_var 9 rfl).vt) ((eg_mul ((eg_mul ((eg_int).vt) ((eg_add ((eg_var 8 rfl).vt) ((eg_int).vt)).ot)).vt) ((eg_add ((eg_var 8 rfl).vt) ((eg_int).vt)).ot)).vt)).ot) ((eg_mul ((eg_int).vt) ((eg_var 1 rfl).vt)).vt)).ov)) fun mash_1 => ?_
      refine sv_cons (s1_set 9 (eg_mod ((eg_var 9 rfl).vt) ((eg_ix ((eg_var 4 rfl).vt) ((eg_mod ((eg_add ((eg_mul ((eg_int).vt) ((eg_var 8 rfl).vt)).vt) ((eg_var 1 rfl).vt)).ot) ((eg_int).vt)).vt)).vt))) fun mash_2 => ?_
      refine sv_cons (s1_set 9 (eg_mod ((eg_mul ((eg_mul ((eg_var 9 rfl).vt) ((eg_var 9 rfl).vt)).vt) ((eg_var 9 rfl).vt)).vt) ((eg_ix ((eg_var 4 rfl).vt) ((eg_mod ((eg_add ((eg_var 8 rfl).vt) ((eg_int).vt)).ot) ((eg_int).vt)).vt)).vt))) fun mash_3 => ?_
      refine sv_cons (s1_if (T := D) (fin := fun s__2 => .nx [cVal script, cVal k, cVal many, cVal base, cVal primes, cVal cell, cVal s__1.2, cRes s__1.1, cVal j, cVal s__2]) (tg_cp c_gt ((eg_var 6 rfl).vt) ((eg_int).vt)) ?_ ?_) fun s__2 => ?_
      · refine sv_cons (s1_set 9 (eg_var 6 rfl)) fun mash_4 => ?_
        exact sv_nil rfl
      · exact sv_nil rfl
      refine sv_cons (s1_append 7 rfl (eg_mod ((eg_var 9 rfl).vt) ((eg_var 3 rfl).vt))) fun row_1 => ?_
      refine sv_cons (s1_set 6 (eg_fdiv ((eg_var 6 rfl).vt) ((eg_var 3 rfl).vt))) fun rest_2 => ?_
      exact sv_wk (Wk.trans (wk_any 8) (wk_any 9)) (sv_nil rfl)
    exact sv_ownD 7 rfl
abbrev s_law_code : Stmt := top 26
theorem sc_law_code : FnScope ["script", "at", "most_k", "most_n", "plan", "primes", "p", "k", "many", "left", "j"] ["script", "at", "most_k", "most_n"] (defScope s_law_code) := ⟨rfl, rfl, rfl, by decide +kernel, rfl, by decide +kernel, by decide +kernel⟩
theorem ok_law_code (T : Gl0 K mg) (D_law_draws : Def P w K mg base "_law_draws" 2 4 .O (ap4 m_law_draws)) {f : Addr} {fd : FuncData} (F : Fun K "_law_code" "_law_code" s_law_code f fd) : FnOk P w K mg base (L2N.CX P w) 3 f fd ["script", "at", "most_k", "most_n"] (spD K mg 4 .V (ap4 m_law_code)) := by
  refine fn_ok F sc_law_code rfl fun cdv A outer s H E ds hr hl C => ?_
  match ds, hl with
  | [script, at_, most_k, most_n], _ =>
    show SV _ _ _ [cVal script, cVal at_, cVal most_k, cVal most_n, cAny, cAny, cAny, cAny, cAny, cAny, cAny] _ (m_law_code script at_ most_k most_n) _
    unfold m_law_code
    refine sv_cons (s1_setO 4 (eg_call D_law_draws (hr.mono (by decide)) (ag_cons (eg_var 0 rfl) (ag_cons (eg_var 1 rfl) (ag_cons (eg_int) (ag_cons (eg_int) (ag_nil))))))) fun plan => ?_
    refine sv_cons (s1_setO 5 (eg_lst (ag_cons (eg_int) (ag_cons (eg_int) (ag_cons (eg_int) (ag_cons (eg_int) (ag_cons (eg_int) (ag_cons (eg_int) (ag_cons (eg_int) (ag_cons (eg_int) (ag_cons (eg_int) (ag_cons (eg_int) (ag_cons (eg_int) (ag_cons (eg_int) (ag_cons (eg_int) (ag_cons (eg_int) (ag_cons (eg_int) (ag_cons (eg_int) (ag_cons (eg_int) (ag_cons (eg_int) (ag_cons (eg_int) (ag_cons (eg_int) (ag_cons (eg_int) (ag_cons (eg_int) (ag_cons (eg_int) (ag_nil)))))))))))))))))))))))))) fun primes => ?_
    refine sv_cons (s1_set 6 (eg_ix ((eg_lst (ag_cons (eg_ix (eg_peek 5 rfl) ((eg_mod ((eg_ix (eg_peek 4 rfl) ((eg_int).vt)).vt) ((eg_int).vt)).vt)) (ag_cons (eg_ix (eg_peek 5 rfl) ((eg_mod ((eg_ix (eg_peek 4 rfl) ((eg_int).vt)).vt) ((eg_int).vt)).vt)) (ag_nil)))).ot) ((eg_mod ((eg_ix (eg_peek 4 rfl) ((eg_int).vt)).vt) ((eg_int).vt)).vt))) fun p => ?_
    refine sv_cons (s1_set 7 ((eg_add ((eg_int).vt) ((eg_mod ((eg_ix (eg_peek 4 rfl) ((eg_int).vt)).vt) ((eg_cB2 b_min2 ((eg_var 2 rfl).vt) ((eg_var 6 rfl).vt) T.min DL.boot_min).vt)).vt)).ov)) fun k => ?_
    refine sv_cons (s1_set 8 ((eg_add ((eg_var 7 rfl).vt) ((eg_mod ((eg_ix (eg_peek 4 rfl) ((eg_int).vt)).vt) ((eg_add ((eg_sub ((eg_cB2 b_min2 ((eg_var 3 rfl).vt) ((eg_var 6 rfl).vt) T.min DL.boot_min).vt) ((eg_var 7 rfl).vt)).vt) ((eg_int).vt)).ot)).vt)).ov)) fun many => ?_
    refine sv_cons (s1_setO 9 (eg_listRange1 ((eg_var 6 rfl).vt) T.list T.range)) fun left => ?_
    exact sv_popRet 10 9 (by decide) (Nat.le_of_ble_eq_true rfl) rfl (eg_var 6 rfl) (eg_var 7 rfl) ((eg_var 8 rfl).vt) (blkOk_by (N := ["script", "at", "most_k", "most_n", "plan", "primes", "p", "k", "many", "left", "j"]) (sc := defScope s_law_code) (own := [("j", 10)]) (by decide +kernel)) (fun _ _ _ _ _ => ⟨rfl, .inl rfl, .inr rfl⟩) (fun s H C cl fp => pe_pop (j := 10) (l := 9) (Nat.le_of_ble_eq_true rfl) rfl (fun j xcur => (eg_mod ((eg_ix (eg_peek 4 rfl) ((eg_add ((eg_int).vt) ((eg_var 10 rfl).vt)).ot)).vt) ((eg_cB1 b_len (eg_peek 9 rfl) T.len DL.boot_len).vt)).vt) (by first | exact Or.inl rfl | exact Or.inr (Or.inl rfl) | exact Or.inr (Or.inr rfl)) (by decide) (by decide) rfl rfl rfl rfl rfl) T.range T.tuple DL.boot_tuple
abbrev s_law_due : Stmt := top 30
theorem sc_law_due : FnScope ["code", "t", "p", "k", "places", "row", "step", "found", "by", "one", "other"] ["code", "t"] (defScope s_law_due) := ⟨rfl, rfl, rfl, by decide +kernel, rfl, by decide +kernel, by decide +kernel⟩
theorem ok_law_due (T : Gl0 K mg)  {f : Addr} {fd : FuncData} (F : Fun K "_law_due" "_law_due" s_law_due f fd) : FnOk P w K mg base (L2N.CX P w) 1 f fd ["code", "t"] (spD K mg 2 .V (ap2 m_law_due)) := by
  refine fn_ok F sc_law_due rfl fun cdv A outer s H E ds hr hl C => ?_
  match ds, hl with
  | [code, t], _ =>
    show SV _ _ _ [cVal code, cVal t, cAny, cAny, cAny, cAny, cAny, cAny, cAny, cAny, cAny] _ (m_law_due code t) _
    unfold m_law_due
    refine sv_cons (s1_un3 2 3 4 (eg_var 0 rfl) ⟨rfl, .inl rfl, .inl rfl⟩ ⟨rfl, .inl rfl, .inl rfl⟩ ⟨rfl, .inl rfl, .inl rfl⟩ ⟨rfl, rfl, rfl, rfl, rfl⟩) fun s_ => ?_
    refine sv_cons (s1_setO 5 (eg_lst (ag_cons (eg_int) (ag_nil)))) fun row => ?_
    refine sv_cons (s1_for1 (out := fun (s__1 : D) => [cVal code, cVal t, cVal s_.1, cVal s_.2.1, cVal s_.2.2, cRes s__1, cAny, cAny, cAny, cAny, cAny]) 6 row (if_range1 ((eg_cB1 b_len ((eg_var 4 rfl).vt) T.len DL.boot_len).vt) T.range) (Wk.refl _) ⟨rfl, .inl rfl, .inl rfl⟩ ?_) fun s__2 => ?_
    · intro s__1 step
      refine sv_cons (s1_ck 5 (ck2 9 10 (ig_zipAA ((eg_add ((eg_lst (ag_cons (eg_int) (ag_nil))).ot) (eg_peek 5 rfl)).ot) ((eg_add (eg_peek 5 rfl) ((eg_lst (ag_cons (eg_int) (ag_nil))).ot)).ot) T.zip) (blkOk_by (N := ["code", "t", "p", "k", "places", "row", "step", "found", "by", "one", "other"]) (sc := defScope s_law_due) (own := [("one", 9), ("other", 10)]) (by decide +kernel)) (fun _ _ _ _ _ => ⟨rfl, .inl rfl, .inr rfl⟩) (fun _ _ _ _ _ => ⟨rfl, .inl rfl, .inr rfl⟩) (fun _ _ _ _ _ => ⟨rfl, rfl, rfl, rfl⟩) (fun s H C cl fp one other => qg_nil) (fun s H C cl fp one other => (eg_add ((eg_var 9 rfl).vt) ((eg_var 10 rfl).vt)).ov))) fun row_1 => ?_
      exact sv_wk (wk_any 6) (sv_nil rfl)
    refine sv_cons (s1_set 7 (eg_ix (eg_peek 5 rfl) ((eg_var 1 rfl).vt))) fun found => ?_
    refine sv_cons (s1_set 8 (eg_int)) fun by_ => ?_
    refine sv_cons (s1_for1 (out := fun (s__3 : D) => [cVal code, cVal t, cVal s_.1, cVal s_.2.1, cVal s_.2.2, cRes s__2, cAny, cVal found, cVal s__3, cAny, cAny]) 6 by_ (if_range1 ((eg_sub ((eg_var 1 rfl).vt) ((eg_var 3 rfl).vt)).vt) T.range) (Wk.refl _) ⟨rfl, .inl rfl, .inl rfl⟩ ?_) fun s__4 => ?_
    · intro s__3 step_1
      refine sv_cons (s1_set 8 (eg_mul ((eg_var 8 rfl).vt) ((eg_var 2 rfl).vt))) fun by__1 => ?_
      exact sv_wk (wk_any 6) (sv_nil rfl)
    exact sv_retD ((eg_add ((eg_fdivW ((eg_var 7 rfl).vt) ((eg_var 8 rfl).vt)).vt) ((eg_cT1 b_int ((eg_cp c_gt ((eg_mod ((eg_var 7 rfl).vt) ((eg_var 8 rfl).vt)).vt) ((eg_int).vt)).vt) T.int DL.boot_int).vt)).ov)
abbrev s_choose : Stmt := top 18
theorem sc_choose : FnScope ["many", "few", "found", "k"] ["many", "few"] (defScope s_choose) := ⟨rfl, rfl, rfl, by decide +kernel, rfl, by decide +kernel, by decide +kernel⟩
theorem ok_choose (T : Gl0 K mg)  {f : Addr} {fd : FuncData} (F : Fun K "choose" "choose" s_choose f fd) : FnOk P w K mg base (L2N.CX P w) 1 f fd ["many", "few"] (spD K mg 2 .V (ap2 m_choose)) := by
  refine fn_ok F sc_choose rfl fun cdv A outer s H E ds hr hl C => ?_
  match ds, hl with
  | [many, few], _ =>
    show SV _ _ _ [cVal many, cVal few, cAny, cAny] _ (m_choose many few) _
    unfold m_choose
    refine sv_cons (s1_set 2 (eg_int)) fun found => ?_
    refine sv_cons (s1_for1 (out := fun (s_ : D) => [cVal many, cVal few, cVal s_, cAny]) 3 found (if_range1 ((eg_var 1 rfl).vt) T.range) (Wk.refl _) ⟨rfl, .inl rfl, .inl rfl⟩ ?_) fun s__1 => ?_
    · intro s_ k
      refine sv_cons (s1_set 2 (eg_fdiv ((eg_mul ((eg_var 2 rfl).vt) ((eg_sub ((eg_var 0 rfl).vt) ((eg_var 3 rfl).vt)).vt)).vt) ((eg_add ((eg_var 3 rfl).vt) ((eg_int).vt)).ot))) fun found_1 => ?_
      exact sv_wk (wk_any 3) (sv_nil rfl)
    exact sv_retD (eg_var 2 rfl)
abbrev s_due_of : Stmt := top 20
theorem sc_due_of : FnScope ["code", "t", "p", "k", "places", "by", "step"] ["code", "t"] (defScope s_due_of) := ⟨rfl, rfl, rfl, by decide +kernel, rfl, by decide +kernel, by decide +kernel⟩
theorem ok_due_of (T : Gl0 K mg) (D_choose : Def P w K mg base "choose" 1 2 .V (ap2 m_choose)) {f : Addr} {fd : FuncData} (F : Fun K "due_of" "due_of" s_due_of f fd) : FnOk P w K mg base (L2N.CX P w) 2 f fd ["code", "t"] (spD K mg 2 .V (ap2 m_due_of)) := by
  refine fn_ok F sc_due_of rfl fun cdv A outer s H E ds hr hl C => ?_
  match ds, hl with
  | [code, t], _ =>
    show SV _ _ _ [cVal code, cVal t, cAny, cAny, cAny, cAny, cAny] _ (m_due_of code t) _
    unfold m_due_of
    refine sv_cons (s1_un3 2 3 4 (eg_var 0 rfl) ⟨rfl, .inl rfl, .inl rfl⟩ ⟨rfl, .inl rfl, .inl rfl⟩ ⟨rfl, .inl rfl, .inl rfl⟩ ⟨rfl, rfl, rfl, rfl, rfl⟩) fun s_ => ?_
    refine sv_ifRetD (tg_w (wg_or (tg_cp c_lt ((eg_var 1 rfl).vt) ((eg_var 3 rfl).vt)) (wg_or1 (tg_cp c_gt ((eg_var 1 rfl).vt) ((eg_cB1 b_len ((eg_var 4 rfl).vt) T.len DL.boot_len).vt))))) ?_ ?_
    · exact sv_raise T.x_TooFew
    refine sv_cons (s1_set 5 (eg_int)) fun by_ => ?_
    refine sv_cons (s1_for1 (out := fun (s__1 : D) => [cVal code, cVal t, cVal s_.1, cVal s_.2.1, cVal s_.2.2, cVal s__1, cAny]) 6 by_ (if_range1 ((eg_sub ((eg_var 1 rfl).vt) ((eg_var 3 rfl).vt)).vt) T.range) (Wk.refl _) ⟨rfl, .inl rfl, .inl rfl⟩ ?_) fun s__2 => ?_
    · intro s__1 step
      refine sv_cons (s1_set 5 (eg_mul ((eg_var 5 rfl).vt) ((eg_var 2 rfl).vt))) fun by__1 => ?_
      exact sv_wk (wk_any 6) (sv_nil rfl)
    exact sv_retD (eg_fdivW ((eg_sub ((eg_add ((eg_call D_choose (hr.mono (by decide)) (ag_cons (eg_cB1 b_len ((eg_var 4 rfl).vt) T.len DL.boot_len) (ag_cons (eg_var 1 rfl) (ag_nil)))).vt) ((eg_var 5 rfl).vt)).ot) ((eg_int).vt)).vt) ((eg_var 5 rfl).vt))
abbrev s_choices : Stmt := top 16
theorem sc_choices : FnScope ["some", "many", "found", "k", "longer", "one", "first", "at"] ["some", "many"] (defScope s_choices) := ⟨rfl, rfl, rfl, by decide +kernel, rfl, by decide +kernel, by decide +kernel⟩
theorem ok_choices (T : Gl0 K mg)  {f : Addr} {fd : FuncData} (F : Fun K "choices" "choices" s_choices f fd) : FnOk P w K mg base (L2N.CX P w) 1 f fd ["some", "many"] (spD K mg 2 .O (ap2 m_choices)) := by
  refine fn_ok F sc_choices rfl fun cdv A outer s H E ds hr hl C => ?_
  match ds, hl with
  | [some_, many], _ =>
    show SV _ _ _ [cVal some_, cVal many, cAny, cAny, cAny, cAny, cAny, cAny] _ (m_choices some_ many) _
    unfold m_choices
    refine sv_cons (s1_setO 2 (eg_lst (ag_cons ((eg_lst (ag_nil)).ov) (ag_nil)))) fun found => ?_
    refine sv_cons (s1_for1 (out := fun (s_ : D) => [cVal some_, cVal many, cVal s_, cAny, cAny, cAny, cAny, cAny]) 3 found (if_range1 ((eg_var 1 rfl).vt) T.range) (wk_fz 2 rfl) ⟨rfl, .inl rfl, .inl rfl⟩ ?_) fun s__4 => ?_
    · intro s_ k
      refine sv_cons (s1_setO 4 (eg_lst (ag_nil))) fun longer => ?_
      refine sv_cons (s1_for1 (out := fun (s__1 : D) => [cVal some_, cVal many, cVal s_, cVal k, cRes s__1, cAny, cAny, cAny]) 5 longer (if_seq (eg_var 2 rfl)) (Wk.refl _) ⟨rfl, .inr rfl, .inl rfl⟩ ?_) fun s__3 => ?_
      · intro s__1 one
        refine sv_cons (s1_set 6 (eg_int)) fun first => ?_
        refine sv_cons (s1_if (T := D) (fin := fun s__2 => .nx [cVal some_, cVal many, cVal s_, cVal k, cRes s__1, cVal one, cVal s__2, cAny]) (tg_cp c_ne ((eg_var 5 rfl).vt) ((eg_lst (ag_nil)).ot)) ?_ ?_) fun s__2 => ?_
        · refine sv_cons (s1_set 6 ((eg_add ((eg_ix ((eg_var 5 rfl).vt) ((eg_neg ((eg_int).vt)).vt)).vt) ((eg_int).vt)).ov)) fun first_1 => ?_
          exact sv_nil rfl
        · exact sv_nil rfl
        refine sv_cons (s1_extend 4 rfl (eg_ck (ck1 7 ((if_range2 ((eg_var 6 rfl).vt) ((eg_cB1 b_len ((eg_var 0 rfl).vt) T.len DL.boot_len).vt) T.range).g) (blkOk_by (N := ["some", "many", "found", "k", "longer", "one", "first", "at"]) (sc := defScope s_choices) (own := [("at", 7)]) (by decide +kernel)) (fun _ _ _ _ _ => ⟨rfl, .inl rfl, .inr rfl⟩) (fun s H C cl fp at_ => qg_nil) (fun s H C cl fp at_ => (eg_add ((eg_var 5 rfl).vt) ((eg_lst (ag_cons (eg_var 7 rfl) (ag_nil))).ot)).ov)))) fun longer_1 => ?_
        exact sv_wk (Wk.trans (wk_any 5) (wk_any 6)) (sv_nil rfl)
      refine sv_wk (wk_fz 4 rfl) ?_
      refine sv_cons (s1_set 2 (eg_var 4 rfl)) fun found_1 => ?_
      exact sv_wk (Wk.trans (wk_any 3) (wk_any 4)) (sv_nil rfl)
    exact sv_retD (eg_ck (ck1 5 (ig_seq ((eg_var 2 rfl).vt)) (blkOk_by (N := ["some", "many", "found", "k", "longer", "one", "first", "at"]) (sc := defScope s_choices) (own := [("one", 5)]) (by decide +kernel)) (fun _ _ _ _ _ => ⟨rfl, .inl rfl, .inr rfl⟩) (fun s H C cl fp one_1 => qg_nil) (fun s H C cl fp one_1 => (eg_ck (ck1 7 (ig_seq ((eg_var 5 rfl).vt)) (blkOk_by (N := ["some", "many", "found", "k", "longer", "one", "first", "at"]) (own := [("at", 7)]) (by kernel_rfl)) (fun _ _ _ _ _ => ⟨rfl, .inl rfl, .inr rfl⟩) (fun s H C cl fp at__1 => qg_nil) (fun s H C cl fp at__1 => eg_ix ((eg_var 0 rfl).vt) ((eg_var 7 rfl).vt)))).ov)))
abbrev s_value_at : Stmt := top 1
theorem sc_value_at : FnScope ["p", "polynomial", "x", "found", "number"] ["p", "polynomial", "x"] (defScope s_value_at) := ⟨rfl, rfl, rfl, by decide +kernel, rfl, by decide +kernel, by decide +kernel⟩
theorem ok_value_at (T : Gl0 K mg)  {f : Addr} {fd : FuncData} (F : Fun K "value_at" "value_at" s_value_at f fd) : FnOk P w K mg base (L2N.CX P w) 1 f fd ["p", "polynomial", "x"] (spD K mg 3 .V (ap3 m_value_at)) := by
  refine fn_ok F sc_value_at rfl fun cdv A outer s H E ds hr hl C => ?_
  match ds, hl with
  | [p, polynomial, x], _ =>
    show SV _ _ _ [cVal p, cVal polynomial, cVal x, cAny, cAny] _ (m_value_at p polynomial x) _
    unfold m_value_at
    refine sv_cons (s1_set 3 (eg_int)) fun found => ?_
    refine sv_cons (s1_for1 (out := fun (s_ : D) => [cVal p, cVal polynomial, cVal x, cVal s_, cAny]) 4 found (if_seq ((eg_rev ((eg_var 1 rfl).vt)).ov)) (Wk.refl _) ⟨rfl, .inl rfl, .inl rfl⟩ ?_) fun s__1 => ?_
    · intro s_ number
      refine sv_cons (s1_set 3 (eg_mod ((eg_add ((eg_mul ((eg_var 3 rfl).vt) ((eg_var 2 rfl).vt)).vt) ((eg_var 4 rfl).vt)).ot) ((eg_var 0 rfl).vt))) fun found_1 => ?_
      exact sv_wk (wk_any 4) (sv_nil rfl)
    exact sv_retD (eg_var 3 rfl)
abbrev s_times : Stmt := top 2
theorem sc_times : FnScope ["p", "one", "other", "found", "k", "a", "j", "b"] ["p", "one", "other"] (defScope s_times) := ⟨rfl, rfl, rfl, by decide +kernel, rfl, by decide +kernel, by decide +kernel⟩
theorem ok_times (T : Gl0 K mg)  {f : Addr} {fd : FuncData} (F : Fun K "times" "times" s_times f fd) : FnOk P w K mg base (L2N.CX P w) 1 f fd ["p", "one", "other"] (spD K mg 3 .V (ap3 m_times)) := by
  refine fn_ok F sc_times rfl fun cdv A outer s H E ds hr hl C => ?_
  match ds, hl with
  | [p, one, other], _ =>
    show SV _ _ _ [cVal p, cVal one, cVal other, cAny, cAny, cAny, cAny, cAny] _ (m_times p one other) _
    unfold m_times
    refine sv_cons (s1_setO 3 (eg_rep (eg_lst (ag_cons (eg_int) (ag_nil))) ((eg_sub ((eg_add ((eg_cB1 b_len ((eg_var 1 rfl).vt) T.len DL.boot_len).vt) ((eg_cB1 b_len ((eg_var 2 rfl).vt) T.len DL.boot_len).vt)).ot) ((eg_int).vt)).vt))) fun found => ?_
    refine sv_cons (s1_for2 (out := fun (s_ : D) => [cVal p, cVal one, cVal other, cRes s_, cAny, cAny, cAny, cAny]) 4 5 found (if_enumerateA (eg_var 1 rfl) T.enumerate) (Wk.refl _) ⟨rfl, .inl rfl, .inl rfl⟩ ⟨rfl, .inl rfl, .inl rfl⟩ ⟨rfl, rfl, rfl, rfl⟩ ?_) fun s__3 => ?_
    · intro s_ k a
      refine sv_cons (s1_for2 (out := fun (s__1 : D) => [cVal p, cVal one, cVal other, cRes s__1, cVal k, cVal a, cAny, cAny]) 6 7 s_ (if_enumerateA (eg_var 2 rfl) T.enumerate) (Wk.refl _) ⟨rfl, .inl rfl, .inl rfl⟩ ⟨rfl, .inl rfl, .inl rfl⟩ ⟨rfl, rfl, rfl, rfl⟩ ?_) fun s__2 => ?_
      · intro s__1 j b
        refine sv_cons (s1_store 3 rfl (eg_mod ((eg_add ((eg_ix (eg_peek 3 rfl) ((eg_add ((eg_var 4 rfl).vt) ((eg_var 6 rfl).vt)).ot)).vt) ((eg_mul ((eg_var 5 rfl).vt) ((eg_var 7 rfl).vt)).vt)).ot) ((eg_var 0 rfl).vt)) ((eg_add ((eg_var 4 rfl).vt) ((eg_var 6 rfl).vt)).ot)) fun found_1 => ?_
        exact sv_wk (Wk.trans (wk_any 6) (wk_any 7)) (sv_nil rfl)
      exact sv_wk (Wk.trans (wk_any 4) (wk_any 5)) (sv_nil rfl)
    exact sv_retD (eg_cT1 b_tuple (eg_peek 3 rfl) T.tuple DL.boot_tuple)
abbrev s_many_near : Stmt := top 21
theorem sc_many_near : FnScope ["code", "t", "p", "k", "places", "groups", "choice", "product", "x", "top", "row", "number", "one"] ["code", "t"] (defScope s_many_near) := ⟨rfl, rfl, rfl, by decide +kernel, rfl, by decide +kernel, by decide +kernel⟩
theorem ok_many_near (T : Gl0 K mg) (D_due_of : Def P w K mg base "due_of" 2 2 .V (ap2 m_due_of)) (D_choices : Def P w K mg base "choices" 1 2 .O (ap2 m_choices)) (D_times : Def P w K mg base "times" 1 3 .V (ap3 m_times)) (D_value_at : Def P w K mg base "value_at" 1 3 .V (ap3 m_value_at)) {f : Addr} {fd : FuncData} (F : Fun K "many_near" "many_near" s_many_near f fd) : FnOk P w K mg base (L2N.CX P w) 3 f fd ["code", "t"] (spD K mg 2 .V (ap2 m_many_near)) := by
  refine fn_ok F sc_many_near rfl fun cdv A outer s H E ds hr hl C => ?_
  match ds, hl with
  | [code, t], _ =>
    show SV _ _ _ [cVal code, cVal t, cAny, cAny, cAny, cAny, cAny, cAny, cAny, cAny, cAny, cAny, cAny] _ (m_many_near code t) _
    unfold m_many_near
    refine sv_cons (s1_expr (eg_call D_due_of (hr.mono (by decide)) (ag_cons (eg_var 0 rfl) (ag_cons (eg_var 1 rfl) (ag_nil))))) fun _ => ?_
    refine sv_cons (s1_un3 2 3 4 (eg_var 0 rfl) ⟨rfl, .inr rfl, .inl rfl⟩ ⟨rfl, .inr rfl, .inl rfl⟩ ⟨rfl, .inl rfl, .inl rfl⟩ ⟨rfl, rfl, rfl, rfl, rfl⟩) fun s_ => ?_
    refine sv_cons (s1_gnew 5) fun groups => ?_
    refine sv_cons (s1_for1 (out := fun (s__1 : D) => [cVal code, cVal t, cVal s_.1, cVal s_.2.1, cVal s_.2.2, cGrp w s__1, cAny, cAny, cAny, cAny, cAny, cAny, cAny]) 6 groups (if_seq ((eg_call D_choices (hr.mono (by decide)) (ag_cons ((eg_cT1 b_list ((eg_var 4 rfl).vt) T.list DL.boot_list).ov) (ag_cons (eg_var 1 rfl) (ag_nil)))).ov)) (Wk.refl _) ⟨rfl, .inl rfl, .inl rfl⟩ ?_) fun s__4 => ?_
    · intro s__1 choice
      refine sv_cons (s1_set 7 (eg_tup (ag_cons (eg_int) (ag_nil)))) fun product => ?_
      refine sv_cons (s1_for1 (out := fun (s__2 : D) => [cVal code, cVal t, cVal s_.1, cVal s_.2.1, cVal s_.2.2, cGrp w s__1, cVal choice, cVal s__2, cAny, cAny, cAny, cAny, cAny]) 8 product (if_seq (eg_var 6 rfl)) (Wk.refl _) ⟨rfl, .inl rfl, .inl rfl⟩ ?_) fun s__3 => ?_
      · intro s__2 x
        refine sv_cons (s1_set 7 (eg_call D_times (hr.mono (by decide)) (ag_cons (eg_var 2 rfl) (ag_cons (eg_var 7 rfl) (ag_cons (eg_tup (ag_cons (eg_sub ((eg_int).vt) ((eg_var 8 rfl).vt)) (ag_cons (eg_int) (ag_nil)))) (ag_nil)))))) fun product_1 => ?_
        exact sv_wk (wk_any 8) (sv_nil rfl)
      refine sv_cons (s1_set 7 (eg_cT1 b_tuple ((eg_ck (ck1 11 (ig_seq ((eg_var 7 rfl).vt)) (blkOk_by (N := ["code", "t", "p", "k", "places", "groups", "choice", "product", "x", "top", "row", "number", "one"]) (sc := defScope s_many_near) (own := [("number", 11)]) (by decide +kernel)) (fun _ _ _ _ _ => ⟨rfl, .inl rfl, .inr rfl⟩) (fun s H C cl fp number => qg_nil) (fun s H C cl fp number => eg_mod ((eg_var 11 rfl).vt) ((eg_var 2 rfl).vt)))).ot) T.tuple DL.boot_tuple)) fun product_2 => ?_
      refine sv_cons (s1_groupPut 5 rfl ((eg_slice ((eg_var 7 rfl).vt) (og_some ((eg_var 3 rfl).vt)) (og_none)).ov) (eg_lst (ag_nil)) ((eg_slice ((eg_var 7 rfl).vt) (og_none) (og_some ((eg_var 3 rfl).vt))).ov) ⟨rfl, rfl, rfl, rfl⟩) fun groups_1 => ?_
      exact sv_wk (Wk.trans (wk_any 6) (wk_any 7)) (sv_nil rfl)
    refine sv_cons (s1_set 9 (eg_ix ((eg_cB1 b_maxTV ((eg_ck (ck1 12 (ig_grp 5 rfl) (blkOk_by (N := ["code", "t", "p", "k", "places", "groups", "choice", "product", "x", "top", "row", "number", "one"]) (sc := defScope s_many_near) (own := [("one", 12)]) (by decide +kernel)) (fun _ _ _ _ _ => ⟨rfl, .inl rfl, .inr rfl⟩) (fun s H C cl fp one => qg_nil) (fun s H C cl fp one => eg_tup (ag_cons (eg_cB1 b_len (eg_getG 5 rfl (eg_var 12 rfl)) T.len DL.boot_len) (ag_cons (eg_var 12 rfl) (ag_nil)))))).ot) T.max DL.boot_max).vt) ((eg_int).vt))) fun top => ?_
    refine sv_cons (s1_ck 10 (ck1 8 (ig_seq ((eg_var 4 rfl).vt)) (blkOk_by (N := ["code", "t", "p", "k", "places", "groups", "choice", "product", "x", "top", "row", "number", "one"]) (sc := defScope s_many_near) (own := [("x", 8)]) (by decide +kernel)) (fun _ _ _ _ _ => ⟨rfl, .inl rfl, .inr rfl⟩) (fun s H C cl fp x_1 => qg_nil) (fun s H C cl fp x_1 => eg_call D_value_at (hr.mono (by decide)) (ag_cons (eg_var 2 rfl) (ag_cons ((eg_add ((eg_repT ((eg_tup (ag_cons (eg_int) (ag_nil))).vt) ((eg_var 3 rfl).vt)).vt) ((eg_cT1 b_tuple ((eg_ck (ck1 11 (ig_seq ((eg_var 9 rfl).vt)) (blkOk_by (N := ["code", "t", "p", "k", "places", "groups", "choice", "product", "x", "top", "row", "number", "one"]) (own := [("number", 11)]) (by kernel_rfl)) (fun _ _ _ _ _ => ⟨rfl, .inl rfl, .inr rfl⟩) (fun s H C cl fp number_1 => qg_nil) (fun s H C cl fp number_1 => eg_sub ((eg_int).vt) ((eg_var 11 rfl).vt)))).ot) T.tuple DL.boot_tuple).vt)).ov) (ag_cons (eg_var 8 rfl) (ag_nil))))))) fun row => ?_
    refine sv_wk (wk_fz 10 rfl) ?_
    exact sv_retD (eg_tup (ag_cons (eg_var 10 rfl) (ag_cons ((eg_sorted (eg_getG 5 rfl (eg_var 9 rfl)) T.sorted).ov) (ag_nil))))
abbrev s_law_word : Stmt := top 28
theorem sc_law_word : FnScope ["e", "kinds", "words"] ["e"] (defScope s_law_word) := ⟨rfl, rfl, rfl, by decide +kernel, rfl, by decide +kernel, by decide +kernel⟩
theorem ok_law_word (T : Gl0 K mg) {f : Addr} {fd : FuncData} (F : Fun K "_law_word" "_law_word" s_law_word f fd) : FnW P w K mg base (L2N.CX P w) 1 f fd ["e"] (spW K mg) := by
  refine fnWord F sc_law_word m_word_ok T.word fun q cdv A outer s H E D n G hz hf hI hV C => ?_
  show SV _ _ _ [cIs (.ref q.1), cAny, cAny] _ (m_law_word n) _
  unfold m_law_word
  refine sv_cons (s1_setO 1 (eg_lst (ag_cons (eg_isE 0 rfl List.mem_cons_self G hz hf (hI "TooFew" (by decide)) T.isinstance) (ag_cons (eg_isE 0 rfl List.mem_cons_self G hz hf (hI "NoCurve" (by decide)) T.isinstance) (ag_cons (eg_isE 0 rfl List.mem_cons_self G hz hf (hI "NoPaper" (by decide)) T.isinstance) (ag_cons (eg_isE 0 rfl List.mem_cons_self G hz hf (hI "NoPlace" (by decide)) T.isinstance) (ag_nil))))))) fun kinds => ?_
  refine sv_cons (s1_setO 1 (eg_add (eg_peek 1 rfl) ((eg_lst (ag_cons (eg_isE 0 rfl List.mem_cons_self G hz hf (hI "NoNumber" (by decide)) T.isinstance) (ag_cons (eg_isE 0 rfl List.mem_cons_self G hz hf (hI "Heard" (by decide)) T.isinstance) (ag_cons (eg_isE 0 rfl List.mem_cons_self G hz hf (hI "NotHeard" (by decide)) T.isinstance) (ag_nil))))).ot))) fun kinds_1 => ?_
  refine sv_cons (s1_setO 1 (eg_add (eg_peek 1 rfl) ((eg_lst (ag_cons (eg_isE 0 rfl List.mem_cons_self G hz hf (hI "NothingLeft" (by decide)) T.isinstance) (ag_cons (eg_isE 0 rfl List.mem_cons_self G hz hf (hI "NoText" (by decide)) T.isinstance) (ag_cons (eg_isE 0 rfl List.mem_cons_self G hz hf (hI "NoRow" (by decide)) T.isinstance) (ag_nil))))).ot))) fun kinds_2 => ?_
  refine sv_ifRetD (tg_w (wg_or (tg_cp c_ne ((eg_count (eg_peek 1 rfl) ((eg_bl).vt)).vt) ((eg_int).vt)) (wg_or1 (tg_not (tg_val ((eg_isE 0 rfl List.mem_cons_self G hz hf hV T.isinstance).vt)))))) ?_ ?_
  · exact sv_retD (eg_str)
  refine sv_cons (s1_setO 2 (eg_lst (ag_cons (eg_str) (ag_cons (eg_str) (ag_cons (eg_str) (ag_cons (eg_str) (ag_cons (eg_str) (ag_cons (eg_str) (ag_cons (eg_str) (ag_cons (eg_str) (ag_cons (eg_str) (ag_cons (eg_str) (ag_nil))))))))))))) fun words => ?_
  exact sv_retD (eg_ix (eg_peek 2 rfl) ((eg_index (eg_peek 1 rfl) ((eg_bl).vt)).vt))
abbrev s_law_told : Stmt := top 31
theorem sc_law_told : FnScope ["way", "code", "t", "found", "e"] ["way", "code", "t"] (defScope s_law_told) := ⟨rfl, rfl, rfl, by decide +kernel, rfl, by decide +kernel, by decide +kernel⟩
theorem ok_law_told (T : Gl0 K mg) (D_due_of : Def P w K mg base "due_of" 2 2 .V (ap2 m_due_of)) (D_many_near : Def P w K mg base "many_near" 3 2 .V (ap2 m_many_near)) (D_law_word : DefW P w K mg base "_law_word" 1) {f : Addr} {fd : FuncData} (F : Fun K "_law_told" "_law_told" s_law_told f fd) : FnOk P w K mg base (L2N.CX P w) 4 f fd ["way", "code", "t"] (spD K mg 3 .V (ap3 m_law_told)) := by
  refine fn_ok F sc_law_told rfl fun cdv A outer s H E ds hr hl C => ?_
  match ds, hl with
  | [way, code, t], _ =>
    show SV _ _ _ [cVal way, cVal code, cVal t, cAny, cAny] _ (m_law_told way code t) _
    unfold m_law_told
    refine sv_cons (s1_set 3 (eg_non)) fun found => ?_
    refine sv_cons (s1_tryWordG (m := .V) (c := cVal) 4 3 D_law_word (hr.mono (by decide)) T.word (fun pn xe W' C' => eg_if (tg_cp c_eq ((eg_var 0 rfl).vt) ((eg_int).vt)) (eg_call D_due_of (hr.mono (by decide)) (ag_cons (eg_var 1 rfl) (ag_cons (eg_var 2 rfl) (ag_nil)))) (eg_call D_many_near (hr.mono (by decide)) (ag_cons (eg_var 1 rfl) (ag_cons (eg_var 2 rfl) (ag_nil))))) (fun g x s a => (g.go x s).setV a) (fun _ => rfl) (fun _ => rfl) (Nat.le_of_ble_eq_true rfl)) fun found_1 => ?_
    exact sv_retD (eg_var 3 rfl)
abbrev s_law_whole : Stmt := top 25
theorem sc_law_whole : FnScope ["found"] ["found"] (defScope s_law_whole) := ⟨rfl, rfl, rfl, by decide +kernel, rfl, by decide +kernel, by decide +kernel⟩
theorem ok_law_whole (T : Gl0 K mg)  {f : Addr} {fd : FuncData} (F : Fun K "_law_whole" "_law_whole" s_law_whole f fd) : FnOk P w K mg base (L2N.CX P w) 1 f fd ["found"] (spD K mg 1 .V (ap1 m_law_whole)) := by
  refine fn_ok F sc_law_whole rfl fun cdv A outer s H E ds hr hl C => ?_
  match ds, hl with
  | [found], _ =>
    show SV _ _ _ [cVal found] _ (m_law_whole found) _
    unfold m_law_whole
    exact sv_retD (eg_and (eg_isi ((eg_var 0 rfl).vt) DL.boot_int T.isinstance T.int (by decide)) (eg_one (eg_not (eg_isi ((eg_var 0 rfl).vt) DL.boot_bool T.isinstance T.bool (by decide)))))
abbrev s_law_value : Stmt := top 27
theorem sc_law_value : FnScope ["p", "polynomial", "x", "total", "power", "number"] ["p", "polynomial", "x"] (defScope s_law_value) := ⟨rfl, rfl, rfl, by decide +kernel, rfl, by decide +kernel, by decide +kernel⟩
theorem ok_law_value (T : Gl0 K mg)  {f : Addr} {fd : FuncData} (F : Fun K "_law_value" "_law_value" s_law_value f fd) : FnOk P w K mg base (L2N.CX P w) 1 f fd ["p", "polynomial", "x"] (spD K mg 3 .V (ap3 m_law_value)) := by
  refine fn_ok F sc_law_value rfl fun cdv A outer s H E ds hr hl C => ?_
  match ds, hl with
  | [p, polynomial, x], _ =>
    show SV _ _ _ [cVal p, cVal polynomial, cVal x, cAny, cAny, cAny] _ (m_law_value p polynomial x) _
    unfold m_law_value
    refine sv_cons (s1_set 3 (eg_int)) fun total => ?_
    refine sv_cons (s1_set 4 (eg_int)) fun power => ?_
    refine sv_cons (s1_for1 (out := fun (s_ : D × D) => [cVal p, cVal polynomial, cVal x, cVal s_.1, cVal s_.2, cAny]) 5 (total, power) (if_seq (eg_var 1 rfl)) (Wk.refl _) ⟨rfl, .inl rfl, .inl rfl⟩ ?_) fun s__1 => ?_
    · intro s_ number
      refine sv_cons (s1_set 3 (eg_mod ((eg_add ((eg_var 3 rfl).vt) ((eg_mul ((eg_var 5 rfl).vt) ((eg_var 4 rfl).vt)).vt)).ot) ((eg_var 0 rfl).vt))) fun total_1 => ?_
      refine sv_cons (s1_set 4 (eg_mod ((eg_mul ((eg_var 4 rfl).vt) ((eg_var 2 rfl).vt)).vt) ((eg_var 0 rfl).vt))) fun power_1 => ?_
      exact sv_wk (wk_any 5) (sv_nil rfl)
    exact sv_retD (eg_var 3 rfl)
abbrev s_law_fits : Stmt := top 29
theorem sc_law_fits : FnScope ["code", "row", "polynomial", "places", "some", "number"] ["code", "row", "polynomial"] (defScope s_law_fits) := ⟨rfl, rfl, rfl, by decide +kernel, rfl, by decide +kernel, by decide +kernel⟩
theorem ok_law_fits (T : Gl0 K mg) (D_law_value : Def P w K mg base "_law_value" 1 3 .V (ap3 m_law_value)) {f : Addr} {fd : FuncData} (F : Fun K "_law_fits" "_law_fits" s_law_fits f fd) : FnOk P w K mg base (L2N.CX P w) 2 f fd ["code", "row", "polynomial"] (spD K mg 3 .O (ap3 m_law_fits)) := by
  refine fn_ok F sc_law_fits rfl fun cdv A outer s H E ds hr hl C => ?_
  match ds, hl with
  | [code, row, polynomial], _ =>
    show SV _ _ _ [cVal code, cVal row, cVal polynomial, cAny, cAny, cAny] _ (m_law_fits code row polynomial) _
    unfold m_law_fits
    refine sv_cons (s1_set 3 (eg_ix ((eg_var 0 rfl).vt) ((eg_int).vt))) fun places => ?_
    refine sv_cons (s1_ck 4 (ck1 5 ((if_range1 ((eg_cB1 b_len ((eg_var 1 rfl).vt) T.len DL.boot_len).vt) T.range).g) (blkOk_by (N := ["code", "row", "polynomial", "places", "some", "number"]) (sc := defScope s_law_fits) (own := [("number", 5)]) (by decide +kernel)) (fun _ _ _ _ _ => ⟨rfl, .inl rfl, .inr rfl⟩) (fun s H C cl fp number => qg_one (tg_cp c_notN' ((eg_ix ((eg_var 1 rfl).vt) ((eg_var 5 rfl).vt)).vt) ((eg_non).vt))) (fun s H C cl fp number => eg_var 5 rfl))) fun some_ => ?_
    exact sv_retD (eg_ck (ck1 5 (ig_seq (eg_peek 4 rfl)) (blkOk_by (N := ["code", "row", "polynomial", "places", "some", "number"]) (sc := defScope s_law_fits) (own := [("number", 5)]) (by decide +kernel)) (fun _ _ _ _ _ => ⟨rfl, .inl rfl, .inr rfl⟩) (fun s H C cl fp number_1 => qg_one (tg_cp c_eq ((eg_call D_law_value (hr.mono (by decide)) (ag_cons (eg_ix ((eg_var 0 rfl).vt) ((eg_int).vt)) (ag_cons (eg_var 2 rfl) (ag_cons (eg_ix ((eg_var 3 rfl).vt) ((eg_var 5 rfl).vt)) (ag_nil))))).vt) ((eg_ix ((eg_var 1 rfl).vt) ((eg_var 5 rfl).vt)).vt))) (fun s H C cl fp number_1 => eg_var 5 rfl)))
abbrev s_law : Stmt := top 32
theorem sc_law : FnScope ["script", "at", "code", "p", "k", "places", "plan", "t", "due", "found", "row", "ones", "one", "good", "entry", "number", "way"] ["script"] (defScope s_law) := ⟨rfl, rfl, rfl, by decide +kernel, rfl, by decide +kernel, by decide +kernel⟩
theorem ok_law (T : Gl0 K mg) (D_law_code : Def P w K mg base "_law_code" 3 4 .V (ap4 m_law_code)) (D_law_draws : Def P w K mg base "_law_draws" 2 4 .O (ap4 m_law_draws)) (D_law_due : Def P w K mg base "_law_due" 1 2 .V (ap2 m_law_due)) (D_law_told : Def P w K mg base "_law_told" 4 3 .V (ap3 m_law_told)) (D_law_whole : Def P w K mg base "_law_whole" 1 1 .V (ap1 m_law_whole)) (D_law_fits : Def P w K mg base "_law_fits" 2 3 .O (ap3 m_law_fits)) {f : Addr} {fd : FuncData} (F : Fun K "law" "law" s_law f fd) : FnOk P w K mg base (L2N.CX P w) 5 f fd ["script"] (spD K mg 1 .V (ap1 m_law)) := by
  refine fn_ok F sc_law rfl fun cdv A outer s H E ds hr hl C => ?_
  match ds, hl with
  | [script], _ =>
    show SV _ _ _ [cVal script, cAny, cAny, cAny, cAny, cAny, cAny, cAny, cAny, cAny, cAny, cAny, cAny, cAny, cAny, cAny, cAny] _ (m_law script) _
    unfold m_law
    refine sv_consC (mk := id) (out := fun (s__9 : Unit) => [cVal script, cAny, cAny, cAny, cAny, cAny, cAny, cAny, cAny, cAny, cAny, cAny, cAny, cAny, cAny, cAny, cAny]) (s1_forC1 (out := fun (s_ : Unit) => [cVal script, cAny, cAny, cAny, cAny, cAny, cAny, cAny, cAny, cAny, cAny, cAny, cAny, cAny, cAny, cAny, cAny]) 1 () (if_range1 ((eg_int).vt) T.range) (Wk.refl _) ⟨rfl, .inl rfl, .inl rfl⟩ ?_) (fun _ => rfl) fun s__9 => ?_
    · intro s_ at_
      refine sv_cons (s1_set 2 (eg_call D_law_code (hr.mono (by decide)) (ag_cons (eg_var 0 rfl) (ag_cons (eg_mul ((eg_int).vt) ((eg_var 1 rfl).vt)) (ag_cons (eg_int) (ag_cons (eg_ix ((eg_lst (ag_cons (eg_int) (ag_cons (eg_int) (ag_nil)))).ot) ((eg_var 1 rfl).vt)) (ag_nil))))))) fun code => ?_
      refine sv_cons (s1_un3 3 4 5 (eg_var 2 rfl) ⟨rfl, .inr rfl, .inl rfl⟩ ⟨rfl, .inl rfl, .inl rfl⟩ ⟨rfl, .inl rfl, .inl rfl⟩ ⟨rfl, rfl, rfl, rfl, rfl⟩) fun s__1 => ?_
      refine sv_cons (s1_setO 6 (eg_call D_law_draws (hr.mono (by decide)) (ag_cons (eg_var 0 rfl) (ag_cons ((eg_add ((eg_mul ((eg_int).vt) ((eg_var 1 rfl).vt)).vt) ((eg_int).vt)).ov) (ag_cons (eg_int) (ag_cons (eg_int) (ag_nil))))))) fun plan => ?_
      refine sv_consC (mk := Ctl.ret) (out := fun (s__6 : Unit) => [cVal script, cVal at_, cVal code, cVal s__1.1, cVal s__1.2.1, cVal s__1.2.2, cRes plan, cAny, cAny, cAny, cAny, cAny, cAny, cAny, cAny, cAny, cAny]) (s1_forC1 (out := fun (s__2 : Unit) => [cVal script, cVal at_, cVal code, cVal s__1.1, cVal s__1.2.1, cVal s__1.2.2, cRes plan, cAny, cAny, cAny, cAny, cAny, cAny, cAny, cAny, cAny, cAny]) 7 () (if_seq ((eg_lst (ag_cons (eg_var 4 rfl) (ag_cons ((eg_add ((eg_var 4 rfl).vt) ((eg_mod ((eg_ix (eg_peek 6 rfl) ((eg_int).vt)).vt) ((eg_add ((eg_sub ((eg_cB1 b_len ((eg_var 5 rfl).vt) T.len DL.boot_len).vt) ((eg_var 4 rfl).vt)).vt) ((eg_int).vt)).ot)).vt)).ov) (ag_cons ((eg_add ((eg_var 4 rfl).vt) ((eg_mod ((eg_ix (eg_peek 6 rfl) ((eg_int).vt)).vt) ((eg_add ((eg_sub ((eg_cB1 b_len ((eg_var 5 rfl).vt) T.len DL.boot_len).vt) ((eg_var 4 rfl).vt)).vt) ((eg_int).vt)).ot)).vt)).ov) (ag_nil))))).ov)) (Wk.refl _) ⟨rfl, .inr rfl, .inl rfl⟩ ?_) (fun _ => rfl) fun s__6 => ?_
      · intro s__2 t
        refine sv_cons (s1_set 8 (eg_call D_law_due (hr.mono (by decide)) (ag_cons (eg_var 2 rfl) (ag_cons (eg_var 7 rfl) (ag_nil))))) fun due => ?_
        refine sv_ifRet (mk := Ctl.ret) (tg_w (wg_or (tg_cp c_ne ((eg_call D_law_told (hr.mono (by decide)) (ag_cons (eg_int) (ag_cons (eg_var 2 rfl) (ag_cons (eg_var 7 rfl) (ag_nil))))).vt) ((eg_var 8 rfl).vt)) (wg_or1 (tg_not (tg_val ((eg_call D_law_whole (hr.mono (by decide)) (ag_cons (eg_call D_law_told (hr.mono (by decide)) (ag_cons (eg_int) (ag_cons (eg_var 2 rfl) (ag_cons (eg_var 7 rfl) (ag_nil))))) (ag_nil))).vt)))))) ?_ (fun _ => rfl) ?_
        · exact sv_retD (eg_bl)
        refine sv_cons (s1_set 9 (eg_call D_law_told (hr.mono (by decide)) (ag_cons (eg_int) (ag_cons (eg_var 2 rfl) (ag_cons (eg_var 7 rfl) (ag_nil)))))) fun found => ?_
        refine sv_ifRet (mk := Ctl.ret) (tg_w (wg_or (tg_not (tg_val ((eg_isi ((eg_var 9 rfl).vt) DL.boot_tuple T.isinstance T.tuple (by decide)).vt))) (wg_or (tg_cp c_ne ((eg_cB1 b_len ((eg_var 9 rfl).vt) T.len DL.boot_len).vt) ((eg_int).vt)) (wg_or1 (tg_cp c_ne ((eg_cB1 b_len ((eg_ix ((eg_var 9 rfl).vt) ((eg_int).vt)).vt) T.len DL.boot_len).vt) ((eg_cB1 b_len ((eg_var 5 rfl).vt) T.len DL.boot_len).vt)))))) ?_ (fun _ => rfl) ?_
        · exact sv_retD (eg_bl)
        refine sv_cons (s1_un2 10 11 (eg_var 9 rfl) ⟨rfl, .inl rfl, .inl rfl⟩ ⟨rfl, .inl rfl, .inl rfl⟩ ⟨rfl, rfl, rfl, rfl⟩) fun s__3 => ?_
        refine sv_ifRet (mk := Ctl.ret) (tg_w (wg_or (tg_not (tg_val ((eg_isi ((eg_var 10 rfl).vt) DL.boot_list T.isinstance T.list (by decide)).vt))) (wg_or1 (tg_cp c_in ((eg_bl).vt) ((eg_ck (ck1 14 (ig_seq ((eg_var 10 rfl).vt)) (blkOk_by (N := ["script", "at", "code", "p", "k", "places", "plan", "t", "due", "found", "row", "ones", "one", "good", "entry", "number", "way"]) (sc := defScope s_law) (own := [("entry", 14)]) (by decide +kernel)) (fun _ _ _ _ _ => ⟨rfl, .inl rfl, .inr rfl⟩) (fun s H C cl fp entry => qg_nil) (fun s H C cl fp entry => eg_and (eg_call D_law_whole (hr.mono (by decide)) (ag_cons (eg_var 14 rfl) (ag_nil))) (eg_one (eg_chain c_le c_lt ((eg_int).vt) ((eg_var 14 rfl).vt) ((eg_var 3 rfl).vt)))))).ot))))) ?_ (fun _ => rfl) ?_
        · exact sv_retD (eg_bl)
        refine sv_ifRet (mk := Ctl.ret) (tg_w (wg_or (tg_not (tg_val ((eg_isi ((eg_var 11 rfl).vt) DL.boot_list T.isinstance T.list (by decide)).vt))) (wg_or (tg_cp c_ne ((eg_sortedSetN ((eg_var 11 rfl).vt) T.sorted T.set).ot) ((eg_var 11 rfl).vt)) (wg_or1 (tg_cp c_lt ((eg_cB1 b_len ((eg_var 11 rfl).vt) T.len DL.boot_len).vt) ((eg_var 8 rfl).vt)))))) ?_ (fun _ => rfl) ?_
        · exact sv_retD (eg_bl)
        refine sv_consC (mk := Ctl.ret) (out := fun (s__5 : Unit) => [cVal script, cVal at_, cVal code, cVal s__1.1, cVal s__1.2.1, cVal s__1.2.2, cRes plan, cVal t, cVal due, cVal found, cVal s__3.1, cVal s__3.2, cAny, cAny, cAny, cAny, cAny]) (s1_forC1 (out := fun (s__4 : Unit) => [cVal script, cVal at_, cVal code, cVal s__1.1, cVal s__1.2.1, cVal s__1.2.2, cRes plan, cVal t, cVal due, cVal found, cVal s__3.1, cVal s__3.2, cAny, cAny, cAny, cAny, cAny]) 12 () (if_seq (eg_var 11 rfl)) (Wk.refl _) ⟨rfl, .inl rfl, .inl rfl⟩ ?_) (fun _ => rfl) fun s__5 => ?_
        · intro s__4 one
          refine sv_cons (s1_ck 13 (ck1 15 (ig_seq ((eg_var 12 rfl).vt)) (blkOk_by (N := ["script", "at", "code", "p", "k", "places", "plan", "t", "due", "found", "row", "ones", "one", "good", "entry", "number", "way"]) (sc := defScope s_law) (own := [("number", 15)]) (by decide +kernel)) (fun _ _ _ _ _ => ⟨rfl, .inl rfl, .inr rfl⟩) (fun s H C cl fp number => qg_nil) (fun s H C cl fp number => eg_and (eg_call D_law_whole (hr.mono (by decide)) (ag_cons (eg_var 15 rfl) (ag_nil))) (eg_one (eg_chain c_le c_lt ((eg_int).vt) ((eg_var 15 rfl).vt) ((eg_var 3 rfl).vt)))))) fun good => ?_
          refine sv_ifRet (mk := Ctl.ret) (tg_w (wg_or (tg_cp c_ne ((eg_cB1 b_len ((eg_var 12 rfl).vt) T.len DL.boot_len).vt) ((eg_var 4 rfl).vt)) (wg_or1 (tg_cp c_in ((eg_bl).vt) (eg_peek 13 rfl))))) ?_ (fun _ => rfl) ?_
          · exact sv_retD (eg_bl)
          refine sv_one (s1_if (tg_cp c_lt ((eg_cB1 b_len ((eg_call D_law_fits (hr.mono (by decide)) (ag_cons (eg_var 2 rfl) (ag_cons (eg_var 10 rfl) (ag_cons (eg_var 12 rfl) (ag_nil))))).ot) T.len DL.boot_len).vt) ((eg_var 7 rfl).vt)) ?_ ?_)
          · exact sv_ret (mk := Ctl.ret) (eg_bl) (fun _ => rfl)
          · exact sv_wk (Wk.trans (wk_any 12) (wk_any 13)) (sv_nil rfl)
        exact sv_wk (Wk.trans (wk_any 7) (Wk.trans (wk_any 8) (Wk.trans (wk_any 9) (Wk.trans (wk_any 10) (wk_any 11))))) (sv_nil rfl)
      refine sv_consC (mk := Ctl.ret) (out := fun (s__8 : Unit) => [cVal script, cVal at_, cVal code, cVal s__1.1, cVal s__1.2.1, cVal s__1.2.2, cRes plan, cAny, cAny, cAny, cAny, cAny, cAny, cAny, cAny, cAny, cAny]) (s1_forC1 (out := fun (s__7 : Unit) => [cVal script, cVal at_, cVal code, cVal s__1.1, cVal s__1.2.1, cVal s__1.2.2, cRes plan, cAny, cAny, cAny, cAny, cAny, cAny, cAny, cAny, cAny, cAny]) 7 () (if_seq ((eg_lst (ag_cons (eg_sub ((eg_var 4 rfl).vt) ((eg_int).vt)) (ag_cons (eg_sub ((eg_neg ((eg_int).vt)).vt) ((eg_ix (eg_peek 6 rfl) ((eg_int).vt)).vt)) (ag_cons ((eg_add ((eg_cB1 b_len ((eg_var 5 rfl).vt) T.len DL.boot_len).vt) ((eg_int).vt)).ov) (ag_cons ((eg_add ((eg_add ((eg_cB1 b_len ((eg_var 5 rfl).vt) T.len DL.boot_len).vt) ((eg_int).vt)).ot) ((eg_ix (eg_peek 6 rfl) ((eg_int).vt)).vt)).ov) (ag_nil)))))).ov)) (Wk.refl _) ⟨rfl, .inr rfl, .inl rfl⟩ ?_) (fun _ => rfl) fun s__8 => ?_
      · intro s__7 t_1
        refine sv_one (s1_if (tg_cp c_ne ((eg_ck (ck1 16 ((if_range1 ((eg_int).vt) T.range).g) (blkOk_by (N := ["script", "at", "code", "p", "k", "places", "plan", "t", "due", "found", "row", "ones", "one", "good", "entry", "number", "way"]) (sc := defScope s_law) (own := [("way", 16)]) (by decide +kernel)) (fun _ _ _ _ _ => ⟨rfl, .inl rfl, .inr rfl⟩) (fun s H C cl fp way => qg_nil) (fun s H C cl fp way => eg_call D_law_told (hr.mono (by decide)) (ag_cons (eg_var 16 rfl) (ag_cons (eg_var 2 rfl) (ag_cons (eg_var 7 rfl) (ag_nil))))))).ot) ((eg_lst (ag_cons (eg_str) (ag_cons (eg_str) (ag_nil)))).ot)) ?_ ?_)
        · exact sv_ret (mk := Ctl.ret) (eg_bl) (fun _ => rfl)
        · exact sv_wk (wk_any 7) (sv_nil rfl)
      exact sv_wk (Wk.trans (wk_any 1) (Wk.trans (wk_any 2) (Wk.trans (wk_any 3) (Wk.trans (wk_any 4) (Wk.trans (wk_any 5) (wk_any 6)))))) (sv_nil rfl)
    exact sv_retD (eg_bl)
end
end SC
/-! The end: a law's def by its mirror. -/
namespace DL
open PySem L2 PySem.Spec PyProof.Rows
/-- a def that lets nothing out -/
theorem fn_cx0 {P : Program} {w : World} {K : PySem.W.Frag} {mg : Str → Option Value} {base : Heap} {k : Nat} {f : Addr} {fd : FuncData} {ps : List Str} {sp : Sp} (F : FnOk P w K mg base (L2N.CX P w) k f fd ps sp) :
    FnOk P w K mg base CX0 k f fd ps (fun vs H Q _ => sp vs H Q E0) :=
  ⟨fun vs H Q E h => F.len vs H Q E0 h, fun A outer s H args us vs Q E hr e b r h => codeAny_mono (F.run A outer s H args us vs Q E0 hr e b r h) fun res s' q => by
    cases res with
    | ok fl => cases fl <;> exact q
    | error e =>
      obtain ⟨_, _, _, _, _, _, _, _, _, _, _, _, z⟩ := q
      exact z⟩
/-- law's: a list of at most 63 ints, True -/
theorem law_sp {K : PySem.W.Frag} {mg : Str → Option Value} {g : D → Res D} (hg : ∀ ns : List Int, ns.length ≤ 63 → g (.list (ns.map .int)) = .ok (.bool true)) (H : Hp) (a : Addr) (ns : List Int) (hl : ns.length ≤ 63) (hS : SqL K H a (ns.map V.int)) :
    spD K mg 1 .V (ap1 g) [.ref a] H (fun v _ => v = .bl true) E0 := by
  refine ⟨H, [.list (ns.map .int)], Same.refl _, .cons (.lst hS ?_) .nil, rfl, ?_, fun d ed v F' H' x s a => ?_, fun n en => ?_⟩
  · clear hl hS hg
    induction ns with
    | nil => exact .nil
    | cons n ns ih => exact .cons (.int n) ih
  · rw [ap1_ok, hg ns hl]; exact ok_ns _
  · rw [ap1_ok, hg ns hl] at ed
    cases ed
    have a : Dp K F' v (.bool true) := a
    cases a
    rfl
  · rw [ap1_ok, hg ns hl] at en; cases en
theorem def_mk {P : Program} {w : World} {K : PySem.W.Frag} {mg : Str → Option Value} {base : Heap} {x : Str} {st : Stmt} {k n : Nat} {rk : Md} {g : List D → Res D} {f : Addr} {fd : FuncData} {ps : List Str} (F : Fun K x x st f fd) (hm : mg x = some (.ref f)) (hb : Binds K fd ps []) (h : FnOk P w K mg base (L2N.CX P w) k f fd ps (spD K mg n rk g)) :
    Def P w K mg base x k n rk g := ⟨f, fd, ps, h, hm, F.kp, hb⟩
/-- a def's datum for the head's Hook -/
abbrev fnD (x : Str) (st : Stmt) : He.FnD := ⟨(x, none), x, x, defArgs st, defBody st, defScope st⟩
theorem fun_of {fa : List He.Fa} {fn : List He.FnD} {K : PySem.W.Frag} (c : He.SaysE fa fn K) (i : Nat) (x : Str) (st : Stmt) (h : fn[i]? = some (fnD x st)) (hk : PySem.W.keepIn K (.ref (He.ga K x)) = true) : ∃ fd, Fun K x x st (He.ga K x) fd := by
  obtain ⟨oc, od, osl, kV, doc, pm, an, cdv, ct, l, c2⟩ := c.def_ i h
  exact ⟨_, fun_mk l c2 hk⟩
/-! ### the Hook, with one more question -/
def obsQ (n : Nat) (fa : List He.Fa) (fn : List He.FnD) (ex : PySem.W.Frag → Bool) (g : Addr → Option Obj) : He.Al := ((He.obsG n fa fn g).1 && ex (He.frG g (He.asG g n)), (He.obsG n fa fn g).2)
theorem obsQ_of {n : Nat} {fa : List He.Fa} {fn : List He.FnD} {ex : PySem.W.Frag → Bool} {g : Addr → Option Obj} (e : obsQ n fa fn ex g = He.valE fn) : He.SaysE fa fn (He.frG g (He.asG g n)) ∧ ex (He.frG g (He.asG g n)) = true := by
  have e1 : ((He.obsG n fa fn g).1 && ex (He.frG g (He.asG g n))) = true := congrArg (fun z : He.Al => z.1) e
  have e2 : (He.obsG n fa fn g).2 = fn.map He.FnD.val := congrArg (fun z : He.Al => z.2) e
  rw [Bool.and_eq_true] at e1
  exact ⟨Prod.ext e1.1 e2, e1.2⟩
def hookQ (n : Nat) (fa : List He.Fa) (fn : List He.FnD) (ex : PySem.W.Frag → Bool) : PySem.W.Hook where
  α := He.Al
  obs := fun s => obsQ n fa fn ex s.heap.get?
  val := fun _ => He.valE fn
  says := fun _ h => ∃ K : PySem.W.Frag, K.In h ∧ He.SaysE fa fn K ∧ ex K = true
  of := fun _ _ e => ⟨_, He.frG_in, (obsQ_of e).1, (obsQ_of e).2⟩
  keeps := fun _ _ _ ⟨K, hK, c⟩ k => ⟨K, PySem.W.Frag.In.keeps hK k, c⟩
theorem obsQ_eq {n : Nat} {fa : List He.Fa} {fn : List He.FnD} {ex : PySem.W.Frag → Bool} {g : Addr → Option Obj} {s : Shared} (h : ∀ a, g a = s.heap.get? a) : obsQ n fa fn ex g = (hookQ n fa fn ex).obs s := by
  rw [funext h]
  rfl
/-! ### .. and tables -/
theorem exF_of {K : PySem.W.Frag} {mg : Str → Option Value} {x : Str} (h : mg x = some (.ref (He.ga K x))) (c : (He.Fa.exc x).ok K = true) : ExF K mg x := ⟨_, h, He.exc_ok c⟩
/-- what is asked of the classes of exceptions -/
def excCB (K : PySem.W.Frag) (D : Addr) : Bool := He.eqO (PySem.W.findIn K (.ref D) "__getattribute__") (some (some (.builtin "BaseException.__getattribute__"))) && (He.eqO (PySem.W.findIn K (.ref D) "__getattr__") (some none) &&
  (decide (PySem.W.subIn K (.ref D) (.type "BaseException") = some true) && (PySem.W.hasDictIn K D && (He.eqO (PySem.W.findIn K (.ref D) "__class__") (some (some (.builtin "object.__class__"))) &&
  (He.eqO (PySem.W.specialIn K (.builtin "object.__class__") "__get__") (some (some (.builtin "getset_descriptor.__get__"))) && (decide (PySem.W.takesIn K (.builtin "object.__class__") = some true) && decide (PySem.W.mroIn K D (.type "object") = some true)))))))
theorem excC_of {K : PySem.W.Frag} {D : Addr} (h : excCB K D = true) : ExcC K D := by
  simp only [excCB, Bool.and_eq_true] at h
  obtain ⟨h1, h2, h3, h4, h5, h6, h7, h8⟩ := h
  exact ⟨He.eqO_ok h1, He.eqO_ok h2, of_decide_eq_true h3, h4, He.eqO_ok h5, He.eqO_ok h6, of_decide_eq_true h7, of_decide_eq_true h8⟩
def word1 (K : PySem.W.Frag) (n : Str) : Bool := excCB K (He.ga K n) && (decide (PySem.W.exmOne K (.ref (He.ga K n)) (.ref (He.ga K "SlipError")) = some true) &&
  ((slips.all fun m => decide (PySem.W.kitOne K (.ref (He.ga K n)) (.ref (He.ga K m.1)) = some (decide (n = m.1)))) && decide (PySem.W.kitOne K (.ref (He.ga K n)) (.type "ValueError") = some true)))
def wordB (K : PySem.W.Frag) : Bool := slips.all fun n => word1 K n.1
theorem wordC_of {K : PySem.W.Frag} {mg : Str → Option Value} (h1 : mg "TooFew" = some (.ref (He.ga K "TooFew"))) (h2 : mg "NoCurve" = some (.ref (He.ga K "NoCurve"))) (h3 : mg "NoPaper" = some (.ref (He.ga K "NoPaper"))) (h4 : mg "NoPlace" = some (.ref (He.ga K "NoPlace"))) (h5 : mg "NoNumber" = some (.ref (He.ga K "NoNumber")))
    (h6 : mg "Heard" = some (.ref (He.ga K "Heard"))) (h7 : mg "NotHeard" = some (.ref (He.ga K "NotHeard"))) (h8 : mg "NothingLeft" = some (.ref (He.ga K "NothingLeft"))) (h9 : mg "NoText" = some (.ref (He.ga K "NoText"))) (h10 : mg "NoRow" = some (.ref (He.ga K "NoRow"))) (hs : mg "SlipError" = some (.ref (He.ga K "SlipError")))
    (hv : mg "ValueError" = none) (hB : wordB K = true) : WordC K mg := by
  have hm : ∀ n w, (n, w) ∈ slips → mg n = some (.ref (He.ga K n)) := fun n w h => by
    simp only [slips, List.mem_cons, Prod.mk.injEq, List.not_mem_nil, or_false] at h
    rcases h with ⟨rfl, _⟩ | ⟨rfl, _⟩ | ⟨rfl, _⟩ | ⟨rfl, _⟩ | ⟨rfl, _⟩ | ⟨rfl, _⟩ | ⟨rfl, _⟩ | ⟨rfl, _⟩ | ⟨rfl, _⟩ | ⟨rfl, _⟩ <;> assumption
  refine ⟨fun n w h => ?_, hv⟩
  have hn := word_mem h
  have b := List.all_eq_true.mp hB (n, w) hn
  simp only [word1, Bool.and_eq_true] at b
  obtain ⟨b1, b2, b3, b4⟩ := b
  refine ⟨_, _, hm n w hn, excC_of b1, hs, of_decide_eq_true b2, fun m hmm => ?_, of_decide_eq_true b4⟩
  obtain ⟨⟨m1, m2⟩, mm, rfl⟩ := List.mem_map.mp hmm
  exact ⟨_, hm m1 m2 mm, of_decide_eq_true (List.all_eq_true.mp b3 (m1, m2) mm)⟩
end DL
namespace SC
open PySem L2 DL PySem.Spec PyProof.Rows
def fns : List He.FnD := [fnD "_law_cell" s_law_cell, fnD "_law_draws" s_law_draws, fnD "_law_code" s_law_code, fnD "_law_due" s_law_due, fnD "choose" s_choose, fnD "due_of" s_due_of, fnD "choices" s_choices, fnD "value_at" s_value_at, fnD "times" s_times, fnD "many_near" s_many_near, fnD "_law_word" s_law_word, fnD "_law_told" s_law_told, fnD "_law_whole" s_law_whole, fnD "_law_value" s_law_value, fnD "_law_fits" s_law_fits, fnD "law" s_law]
def fas : List He.Fa := [.glo "_law_cell", .keep "_law_cell", .glo "_law_draws", .keep "_law_draws", .glo "_law_code", .keep "_law_code", .glo "_law_due", .keep "_law_due", .glo "choose", .keep "choose", .glo "due_of", .keep "due_of", .glo "choices", .keep "choices", .glo "value_at", .keep "value_at", .glo "times", .keep "times", .glo "many_near", .keep "many_near", .glo "_law_word", .keep "_law_word", .glo "_law_told", .keep "_law_told", .glo "_law_whole", .keep "_law_whole", .glo "_law_value", .keep "_law_value", .glo "_law_fits", .keep "_law_fits", .glo "law", .keep "law", .free "len", .free "range", .free "min", .free "list", .free "tuple", .free "zip", .free "int", .free "enumerate", .free "max", .free "sorted", .free "isinstance", .free "bool", .free "set", .free "ValueError", .glo "TooFew", .exc "TooFew", .glo "TooFew", .glo "NoCurve", .glo "NoPaper", .glo "NoPlace", .glo "NoNumber", .glo "Heard", .glo "NotHeard", .glo "NothingLeft", .glo "NoText", .glo "NoRow", .glo "SlipError"]
abbrev hk : PySem.W.Hook := hookQ 4 fas fns wordB
def ob (s : PySem.W.SharedT) : He.Al := obsQ 4 fas fns wordB (HandSHeadRun.getT s)
theorem ob_eq (s : PySem.W.SharedT) : ob s = hk.obs s.abs := obsQ_eq (HandSHeadRun.getT_eq s)
abbrev loose : List PySem.Str := (["value_at", "times", "SlipError", "TooFew", "NoCurve", "NoPaper", "NoPlace", "NoNumber", "Heard", "NotHeard", "NothingLeft", "NoText", "NoRow", "choices", "choose", "due_of", "many_near", "_law_cell", "_law_draws", "_law_whole", "_law_code", "_law_value", "_law_word", "_law_fits"] : List PySem.Str) ++ (["_law_due", "_law_told"] : List PySem.Str)
theorem run (w : World) : HandSHeadRun.RunEq (PySem.W.OpenLaw.row PySem.Challenge.rw_slipcurve_k23_rows_that_have_many) (PySem.W.view (PySem.W.OpenLaw.row PySem.Challenge.rw_slipcurve_k23_rows_that_have_many).prog [32]) hk ob 4000 loose w := by
  intro os
  kernel_rfl
theorem facts {P : Program} {w : World} {K : PySem.W.Frag} {h : Heap} {mg : Str → Option Value} {f : Addr} (X : K.In h) (G : h.Ns mainGlobals mg) (hfa : mg ("law" : Str) = some (.ref f)) (c : He.SaysE fas fns K) (cw : wordB K = true) :
    ∃ fd : FuncData, (∀ (s : Shared) (v : Value), BindsTo s fd ⟨[v], []⟩ [("script", v)]) ∧ ∀ base : Heap, K.In base → base.Ns mainGlobals mg → FnOk P w K mg base (L2N.CX P w) 5 f fd ["script"] (spD K mg 1 .V (ap1 m_law)) := by
  have T : Gl0 K mg := ⟨He.free_ok X G (c.fact 32 (f := .free "len") rfl), He.free_ok X G (c.fact 33 (f := .free "range") rfl), He.free_ok X G (c.fact 34 (f := .free "min") rfl), He.free_ok X G (c.fact 35 (f := .free "list") rfl), He.free_ok X G (c.fact 36 (f := .free "tuple") rfl), He.free_ok X G (c.fact 37 (f := .free "zip") rfl), He.free_ok X G (c.fact 38 (f := .free "int") rfl), He.free_ok X G (c.fact 39 (f := .free "enumerate") rfl), He.free_ok X G (c.fact 40 (f := .free "max") rfl), He.free_ok X G (c.fact 41 (f := .free "sorted") rfl), He.free_ok X G (c.fact 42 (f := .free "isinstance") rfl), He.free_ok X G (c.fact 43 (f := .free "bool") rfl), He.free_ok X G (c.fact 44 (f := .free "set") rfl), He.free_ok X G (c.fact 45 (f := .free "ValueError") rfl), exF_of (He.glo_ok X G (c.fact 46 (f := .glo "TooFew") rfl)) (c.fact 47 (f := .exc "TooFew") rfl), wordC_of (He.glo_ok X G (c.fact 48 (f := .glo "TooFew") rfl)) (He.glo_ok X G (c.fact 49 (f := .glo "NoCurve") rfl)) (He.glo_ok X G (c.fact 50 (f := .glo "NoPaper") rfl)) (He.glo_ok X G (c.fact 51 (f := .glo "NoPlace") rfl)) (He.glo_ok X G (c.fact 52 (f := .glo "NoNumber") rfl)) (He.glo_ok X G (c.fact 53 (f := .glo "Heard") rfl)) (He.glo_ok X G (c.fact 54 (f := .glo "NotHeard") rfl)) (He.glo_ok X G (c.fact 55 (f := .glo "NothingLeft") rfl)) (He.glo_ok X G (c.fact 56 (f := .glo "NoText") rfl)) (He.glo_ok X G (c.fact 57 (f := .glo "NoRow") rfl)) (He.glo_ok X G (c.fact 58 (f := .glo "SlipError") rfl)) (He.free_ok X G (c.fact 45 (f := .free "ValueError") rfl)) cw⟩
  obtain ⟨fd_law_cell, F_law_cell⟩ := fun_of c 0 "_law_cell" s_law_cell rfl (He.keep_ok (c.fact 1 (f := .keep "_law_cell") rfl))
  have g_law_cell : mg "_law_cell" = some (.ref (He.ga K "_law_cell")) := He.glo_ok X G (c.fact 0 (f := .glo "_law_cell") rfl)
  have b_law_cell := F_law_cell.binds (ps := ["script", "k"]) fun _ _ _ _ _ _ us hl => match us, hl with | [_, _], _ => rfl
  obtain ⟨fd_law_draws, F_law_draws⟩ := fun_of c 1 "_law_draws" s_law_draws rfl (He.keep_ok (c.fact 3 (f := .keep "_law_draws") rfl))
  have g_law_draws : mg "_law_draws" = some (.ref (He.ga K "_law_draws")) := He.glo_ok X G (c.fact 2 (f := .glo "_law_draws") rfl)
  have b_law_draws := F_law_draws.binds (ps := ["script", "k", "many", "base"]) fun _ _ _ _ _ _ us hl => match us, hl with | [_, _, _, _], _ => rfl
  obtain ⟨fd_law_code, F_law_code⟩ := fun_of c 2 "_law_code" s_law_code rfl (He.keep_ok (c.fact 5 (f := .keep "_law_code") rfl))
  have g_law_code : mg "_law_code" = some (.ref (He.ga K "_law_code")) := He.glo_ok X G (c.fact 4 (f := .glo "_law_code") rfl)
  have b_law_code := F_law_code.binds (ps := ["script", "at", "most_k", "most_n"]) fun _ _ _ _ _ _ us hl => match us, hl with | [_, _, _, _], _ => rfl
  obtain ⟨fd_law_due, F_law_due⟩ := fun_of c 3 "_law_due" s_law_due rfl (He.keep_ok (c.fact 7 (f := .keep "_law_due") rfl))
  have g_law_due : mg "_law_due" = some (.ref (He.ga K "_law_due")) := He.glo_ok X G (c.fact 6 (f := .glo "_law_due") rfl)
  have b_law_due := F_law_due.binds (ps := ["code", "t"]) fun _ _ _ _ _ _ us hl => match us, hl with | [_, _], _ => rfl
  obtain ⟨fd_choose, F_choose⟩ := fun_of c 4 "choose" s_choose rfl (He.keep_ok (c.fact 9 (f := .keep "choose") rfl))
  have g_choose : mg "choose" = some (.ref (He.ga K "choose")) := He.glo_ok X G (c.fact 8 (f := .glo "choose") rfl)
  have b_choose := F_choose.binds (ps := ["many", "few"]) fun _ _ _ _ _ _ us hl => match us, hl with | [_, _], _ => rfl
  obtain ⟨fd_due_of, F_due_of⟩ := fun_of c 5 "due_of" s_due_of rfl (He.keep_ok (c.fact 11 (f := .keep "due_of") rfl))
  have g_due_of : mg "due_of" = some (.ref (He.ga K "due_of")) := He.glo_ok X G (c.fact 10 (f := .glo "due_of") rfl)
  have b_due_of := F_due_of.binds (ps := ["code", "t"]) fun _ _ _ _ _ _ us hl => match us, hl with | [_, _], _ => rfl
  obtain ⟨fd_choices, F_choices⟩ := fun_of c 6 "choices" s_choices rfl (He.keep_ok (c.fact 13 (f := .keep "choices") rfl))
  have g_choices : mg "choices" = some (.ref (He.ga K "choices")) := He.glo_ok X G (c.fact 12 (f := .glo "choices") rfl)
  have b_choices := F_choices.binds (ps := ["some", "many"]) fun _ _ _ _ _ _ us hl => match us, hl with | [_, _], _ => rfl
  obtain ⟨fd_value_at, F_value_at⟩ := fun_of c 7 "value_at" s_value_at rfl (He.keep_ok (c.fact 15 (f := .keep "value_at") rfl))
  have g_value_at : mg "value_at" = some (.ref (He.ga K "value_at")) := He.glo_ok X G (c.fact 14 (f := .glo "value_at") rfl)
  have b_value_at := F_value_at.binds (ps := ["p", "polynomial", "x"]) fun _ _ _ _ _ _ us hl => match us, hl with | [_, _, _], _ => rfl
  obtain ⟨fd_times, F_times⟩ := fun_of c 8 "times" s_times rfl (He.keep_ok (c.fact 17 (f := .keep "times") rfl))
  have g_times : mg "times" = some (.ref (He.ga K "times")) := He.glo_ok X G (c.fact 16 (f := .glo "times") rfl)
  have b_times := F_times.binds (ps := ["p", "one", "other"]) fun _ _ _ _ _ _ us hl => match us, hl with | [_, _, _], _ => rfl
  obtain ⟨fd_many_near, F_many_near⟩ := fun_of c 9 "many_near" s_many_near rfl (He.keep_ok (c.fact 19 (f := .keep "many_near") rfl))
  have g_many_near : mg "many_near" = some (.ref (He.ga K "many_near")) := He.glo_ok X G (c.fact 18 (f := .glo "many_near") rfl)
  have b_many_near := F_many_near.binds (ps := ["code", "t"]) fun _ _ _ _ _ _ us hl => match us, hl with | [_, _], _ => rfl
  obtain ⟨fd_law_word, F_law_word⟩ := fun_of c 10 "_law_word" s_law_word rfl (He.keep_ok (c.fact 21 (f := .keep "_law_word") rfl))
  have g_law_word : mg "_law_word" = some (.ref (He.ga K "_law_word")) := He.glo_ok X G (c.fact 20 (f := .glo "_law_word") rfl)
  have b_law_word := F_law_word.binds (ps := ["e"]) fun _ _ _ _ _ _ us hl => match us, hl with | [_], _ => rfl
  obtain ⟨fd_law_told, F_law_told⟩ := fun_of c 11 "_law_told" s_law_told rfl (He.keep_ok (c.fact 23 (f := .keep "_law_told") rfl))
  have g_law_told : mg "_law_told" = some (.ref (He.ga K "_law_told")) := He.glo_ok X G (c.fact 22 (f := .glo "_law_told") rfl)
  have b_law_told := F_law_told.binds (ps := ["way", "code", "t"]) fun _ _ _ _ _ _ us hl => match us, hl with | [_, _, _], _ => rfl
  obtain ⟨fd_law_whole, F_law_whole⟩ := fun_of c 12 "_law_whole" s_law_whole rfl (He.keep_ok (c.fact 25 (f := .keep "_law_whole") rfl))
  have g_law_whole : mg "_law_whole" = some (.ref (He.ga K "_law_whole")) := He.glo_ok X G (c.fact 24 (f := .glo "_law_whole") rfl)
  have b_law_whole := F_law_whole.binds (ps := ["found"]) fun _ _ _ _ _ _ us hl => match us, hl with | [_], _ => rfl
  obtain ⟨fd_law_value, F_law_value⟩ := fun_of c 13 "_law_value" s_law_value rfl (He.keep_ok (c.fact 27 (f := .keep "_law_value") rfl))
  have g_law_value : mg "_law_value" = some (.ref (He.ga K "_law_value")) := He.glo_ok X G (c.fact 26 (f := .glo "_law_value") rfl)
  have b_law_value := F_law_value.binds (ps := ["p", "polynomial", "x"]) fun _ _ _ _ _ _ us hl => match us, hl with | [_, _, _], _ => rfl
  obtain ⟨fd_law_fits, F_law_fits⟩ := fun_of c 14 "_law_fits" s_law_fits rfl (He.keep_ok (c.fact 29 (f := .keep "_law_fits") rfl))
  have g_law_fits : mg "_law_fits" = some (.ref (He.ga K "_law_fits")) := He.glo_ok X G (c.fact 28 (f := .glo "_law_fits") rfl)
  have b_law_fits := F_law_fits.binds (ps := ["code", "row", "polynomial"]) fun _ _ _ _ _ _ us hl => match us, hl with | [_, _, _], _ => rfl
  obtain ⟨fd_law, F_law⟩ := fun_of c 15 "law" s_law rfl (He.keep_ok (c.fact 31 (f := .keep "law") rfl))
  have g_law : mg "law" = some (.ref (He.ga K "law")) := He.glo_ok X G (c.fact 30 (f := .glo "law") rfl)
  have e := hfa.symm.trans g_law
  cases e
  refine ⟨fd_law, fun s v => ?_, fun base _ _ => ?_⟩
  · obtain ⟨oc, od, kV, doc, pm, an, cdv, ct, osl, rfl, lk, hcd⟩ := F_law.ex
    exact .of_eq rfl
  have D_law_cell : Def P w K mg base "_law_cell" 1 2 .V (ap2 m_law_cell) := def_mk F_law_cell g_law_cell b_law_cell (ok_law_cell T  F_law_cell)
  have D_law_draws : Def P w K mg base "_law_draws" 2 4 .O (ap4 m_law_draws) := def_mk F_law_draws g_law_draws b_law_draws (ok_law_draws T D_law_cell F_law_draws)
  have D_law_code : Def P w K mg base "_law_code" 3 4 .V (ap4 m_law_code) := def_mk F_law_code g_law_code b_law_code (ok_law_code T D_law_draws F_law_code)
  have D_law_due : Def P w K mg base "_law_due" 1 2 .V (ap2 m_law_due) := def_mk F_law_due g_law_due b_law_due (ok_law_due T  F_law_due)
  have D_choose : Def P w K mg base "choose" 1 2 .V (ap2 m_choose) := def_mk F_choose g_choose b_choose (ok_choose T  F_choose)
  have D_due_of : Def P w K mg base "due_of" 2 2 .V (ap2 m_due_of) := def_mk F_due_of g_due_of b_due_of (ok_due_of T D_choose F_due_of)
  have D_choices : Def P w K mg base "choices" 1 2 .O (ap2 m_choices) := def_mk F_choices g_choices b_choices (ok_choices T  F_choices)
  have D_value_at : Def P w K mg base "value_at" 1 3 .V (ap3 m_value_at) := def_mk F_value_at g_value_at b_value_at (ok_value_at T  F_value_at)
  have D_times : Def P w K mg base "times" 1 3 .V (ap3 m_times) := def_mk F_times g_times b_times (ok_times T  F_times)
  have D_many_near : Def P w K mg base "many_near" 3 2 .V (ap2 m_many_near) := def_mk F_many_near g_many_near b_many_near (ok_many_near T D_due_of D_choices D_times D_value_at F_many_near)
  have D_law_word : DefW P w K mg base "_law_word" 1 := defW_mk F_law_word g_law_word b_law_word (ok_law_word T F_law_word)
  have D_law_told : Def P w K mg base "_law_told" 4 3 .V (ap3 m_law_told) := def_mk F_law_told g_law_told b_law_told (ok_law_told T D_due_of D_many_near D_law_word F_law_told)
  have D_law_whole : Def P w K mg base "_law_whole" 1 1 .V (ap1 m_law_whole) := def_mk F_law_whole g_law_whole b_law_whole (ok_law_whole T  F_law_whole)
  have D_law_value : Def P w K mg base "_law_value" 1 3 .V (ap3 m_law_value) := def_mk F_law_value g_law_value b_law_value (ok_law_value T  F_law_value)
  have D_law_fits : Def P w K mg base "_law_fits" 2 3 .O (ap3 m_law_fits) := def_mk F_law_fits g_law_fits b_law_fits (ok_law_fits T D_law_value F_law_fits)
  exact ok_law T D_law_code D_law_draws D_law_due D_law_told D_law_whole D_law_fits F_law
end SC
open PySem PySem.W PySem.Calls PyProof.Rows
theorem PySem.Challenge.cw_slipcurve_k23_rows_that_have_many_holds : PySem.Challenge.rw_slipcurve_k23_rows_that_have_many.Holds := by
  w_on; o_law
  refine HandSHeadRun.head_any (r := OpenLaw.row PySem.Challenge.rw_slipcurve_k23_rows_that_have_many) (q := view (OpenLaw.row PySem.Challenge.rw_slipcurve_k23_rows_that_have_many).prog [32]) (H := SC.hk) (ob := SC.ob) (M := 4000) (loose := SC.loose) (d := HandSHeadRun.topDef (OpenLaw.row PySem.Challenge.rw_slipcurve_k23_rows_that_have_many).prog 32) (kwd := []) SC.ob_eq
    (by kernel_rfl) (fun s => by kernel_rfl) SC.run (by kernel_rfl) (by kernel_rfl) (by kernel_rfl) (by rfl) (by first | assumption | decide +kernel) (by decide +kernel) ⟨rfl, rfl, rfl, rfl, rfl, by decide +kernel⟩ ?hw ?hc
  case hw => w_witness2
  case hc =>
    refine L2.walk_ofE (l := PySem.Challenge.rw_slipcurve_k23_rows_that_have_many) (n := 63) (k := 5) (x := "script") (CX := L2.CX0) rfl (by decide) (by kernel_rfl) ⟨rfl, by decide, by decide⟩ ?F (fun _ _ _ _ z => z)
    intro w mg fa h Y G hmg0
    obtain ⟨K, KX, c, cw⟩ := Y
    have hmg : mg ("law" : PySem.Str) = some (.ref fa) := by
      have e : (HandSHeadRun.topDef (OpenLaw.row PySem.Challenge.rw_slipcurve_k23_rows_that_have_many).prog 32).name = ("law" : PySem.Str) := by kernel_rfl
      rw [← e]
      exact hmg0
    obtain ⟨fd, hb, hF⟩ := SC.facts (P := (PySem.Challenge.rw_slipcurve_k23_rows_that_have_many).prog) (w := w) KX G hmg c cw
    exact ⟨K, fd, fun vs H Q _ => DL.spD K mg 1 .V (DL.ap1 SC.m_law) vs H Q L2.E0, KX, hb, fun H a ns hl _ hS => DL.law_sp SC.law_true H a ns hl hS, fun base h1 h2 => DL.fn_cx0 (hF base h1 h2)⟩
