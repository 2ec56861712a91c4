import PyProof.Rows.All
import Wide.All
import OpenK.AllK
import Wide.FinOn
import HandS.ForMost
import HandS.Deep
import HandS.TupAny
import HandS.TupMul
import HandS.TupLe
import HandS.Conv
import HandS.Style
import HandS.SetFor
import HandS.SortInts
import PyProof.TupleOfSeq
import HandS.Strs
import HandS.IsInst
import HandS.Star
import HandS.Defaults
import KE.KStateDown
import HandS.More
import HandS.Words
import HandS.WordsExc
import HandS.Head0
import HandS.Head1
import HandS.Head2
import HandS.HeadEnd
import HandS.HeadHook1
import HandS.HeadHook2
import PySem.Challenge.RW_voteclashes_k00_whole_rows
set_option maxHeartbeats 0
set_option Elab.async false
set_option linter.all false
set_option maxRecDepth 100000
/-! VA: values of my own reader: pure data, range objects, cells; worlds; what stands for what. -/
namespace VC
open PySem PySem.Spec PyProof.Rows L2

/-- a value of the reader -/
inductive PV where
  | d (x : PyData)
  | rng (lo hi : Int)
  | ref (n : Nat)
  | own (xs : List PyData)

/-- a cell: a list that may be changed through every name it has -/
inductive Cell where
  | lst (xs : List PV)

abbrev Store := List Cell
abbrev Env := List (Option PV)

/-- a world: the objects that nobody changes any more, and where the cells stand -/
structure Wd where
  L : Hp
  al : List Addr

/-- a tuple whose object is known (it has no dict of its own): made here, or of the written part -/
def TupAt (K : PySem.W.Frag) (H : Hp) (a : Addr) (vs : List V) : Prop :=
  (∃ o, H a = some (.frz o (.tup vs)) ∧ o.cls = .type "tuple" ∧ o.dict = none) ∨
  ∃ o its n, K.lookup a = some o ∧ o.cls = .type "tuple" ∧ o.dict = none ∧ o.data = .seq its n ∧ its.size ≤ sizeLine ∧ Vals vs its.toList
theorem TupAt.sq {K : PySem.W.Frag} {H : Hp} {a : Addr} {vs : List V} (h : TupAt K H a vs) : SqT K H a vs := by
  rcases h with ⟨o, h, _⟩ | ⟨o, its, n, h1, h2, _, h3, h4, h5⟩
  · exact .inl (.inr ⟨o, h⟩)
  · exact .inr ⟨o, its, n, h1, h2, h3, h4, h5⟩
mutual
/-- pure data stand there -/
inductive Rp (K : PySem.W.Frag) (H : Hp) : V → PyData → Prop
  | non : Rp K H .non .none
  | bl (b : Bool) : Rp K H (.bl b) (.bool b)
  | int (i : Int) : Rp K H (.int i) (.int i)
  | str (x : Str) : Rp K H (.str x) (.str x)
  | lst {a : Addr} {vs : List V} {xs : List PyData} : SqL K H a vs → RpAll K H vs xs → Rp K H (.ref a) (.list xs)
  | tup {a : Addr} {vs : List V} {xs : List PyData} : TupAt K H a vs → RpAll K H vs xs → Rp K H (.ref a) (.tuple xs)
inductive RpAll (K : PySem.W.Frag) (H : Hp) : List V → List PyData → Prop
  | nil : RpAll K H [] []
  | cons {v : V} {vs : List V} {x : PyData} {xs : List PyData} : Rp K H v x → RpAll K H vs xs → RpAll K H (v :: vs) (x :: xs)
end

section
variable {K : PySem.W.Frag}
mutual
theorem rp_dp {H : Hp} : ∀ {v : V} {x : PyData}, Rp K H v x → Dp K H v x
  | _, _, .non => .non
  | _, _, .bl b => .bl b
  | _, _, .int i => .int i
  | _, _, .str x => .str x
  | _, _, .lst h r => .lst h (rpAll_dp r)
  | _, _, .tup h r => .tup h.sq (rpAll_dp r)
theorem rpAll_dp {H : Hp} : ∀ {vs : List V} {xs : List PyData}, RpAll K H vs xs → DpAll K H vs xs
  | _, _, .nil => .nil
  | _, _, .cons h r => .cons (rp_dp h) (rpAll_dp r)
end
theorem same_tup {H H' : Hp} {a : Addr} {xs : List V} (e : Same H H') (h : TupAt K H a xs) : TupAt K H' a xs := by
  rcases h with ⟨o, h, r⟩ | h
  · exact .inl ⟨o, e _ _ h, r⟩
  · exact .inr h
mutual
theorem dp_mono {H H' : Hp} (s : Same H H') : ∀ {v : V} {x : PyData}, Rp K H v x → Rp K H' v x
  | _, _, .non => .non
  | _, _, .bl b => .bl b
  | _, _, .int i => .int i
  | _, _, .str x => .str x
  | _, _, .lst h r => .lst (s.seq h) (dpAll_mono s r)
  | _, _, .tup h r => .tup (same_tup s h) (dpAll_mono s r)
theorem dpAll_mono {H H' : Hp} (s : Same H H') : ∀ {vs : List V} {xs : List PyData}, RpAll K H vs xs → RpAll K H' vs xs
  | _, _, .nil => .nil
  | _, _, .cons h r => .cons (dp_mono s h) (dpAll_mono s r)
end

/-- what stands for a value of the reader -/
def Rep (K : PySem.W.Frag) (ω : Wd) : PV → V → Prop
  | .d x, v => Rp K ω.L v x
  | .rng lo hi, v => ∃ a, v = .ref a ∧ ω.L a = some (.rng lo hi)
  | .ref n, v => ∃ a, v = .ref a ∧ ω.al[n]? = some a
  | .own _, _ => False
/-- .. in a slot: a list of the def's own may stand there -/
def RepE (K : PySem.W.Frag) (ω : Wd) (H : Hp) : PV → V → Prop
  | .own xs, v => ∃ a vs, v = .ref a ∧ H a = some (.lst vs) ∧ RpAll K ω.L vs xs ∧ ω.L a = none ∧ a ∉ ω.al
  | p, v => Rep K ω p v
def RepAll (K : PySem.W.Frag) (ω : Wd) : List PV → List V → Prop := fun ps vs => Paired (Rep K ω) ps vs
def CellRep (K : PySem.W.Frag) (ω : Wd) (H : Hp) (a : Addr) : Cell → Prop
  | .lst ps => ∃ vs, H a = some (.lst vs) ∧ RepAll K ω ps vs

/-- the store stands in the heap -/
structure Wok (K : PySem.W.Frag) (ω : Wd) (S : Store) (H : Hp) : Prop where
  sub : Same ω.L H
  nd : ω.al.Nodup
  ap : ∀ a ∈ ω.al, ω.L a = none
  len : ω.al.length = S.length
  cell : ∀ (n : Nat) (a : Addr) (c : Cell), ω.al[n]? = some a → S[n]? = some c → CellRep K ω H a c

/-- a later world: what stood stands, but for the cells; what is new was free -/
structure Ext (ω : Wd) (H : Hp) (ω' : Wd) (H' : Hp) : Prop where
  L : Same ω.L ω'.L
  al : ω.al <+: ω'.al
  keep : ∀ a o, H a = some o → a ∉ ω.al → H' a = some o
  there : ∀ a, H a ≠ none → H' a ≠ none
  fresh : ∀ a, H a ≠ none → ω.L a = none → ω'.L a = none
  freshA : ∀ a, H a ≠ none → a ∈ ω'.al → a ∈ ω.al

theorem Ext.refl (ω : Wd) (H : Hp) : Ext ω H ω H :=
  ⟨Same.refl _, List.prefix_refl _, fun _ _ h _ => h, fun _ h => h, fun _ _ h => h, fun _ _ h => h⟩
theorem Ext.trans {ω ω1 ω2 : Wd} {H H1 H2 : Hp} (x : Ext ω H ω1 H1) (y : Ext ω1 H1 ω2 H2) : Ext ω H ω2 H2 where
  L := x.L.trans y.L
  al := x.al.trans y.al
  keep := fun a o h n => y.keep a o (x.keep a o h n) fun m => n (x.freshA a (by rw [h]; simp) m)
  there := fun a h => y.there a (x.there a h)
  fresh := fun a h n => y.fresh a (x.there a h) (x.fresh a h n)
  freshA := fun a h m => x.freshA a h (y.freshA a (x.there a h) m)

theorem Rep.mono {ω ω' : Wd} (hL : Same ω.L ω'.L) (ha : ω.al <+: ω'.al) : ∀ {p : PV} {v : V}, Rep K ω p v → Rep K ω' p v
  | .d _, _, h => dp_mono hL h
  | .rng _ _, _, ⟨a, e, h⟩ => ⟨a, e, hL _ _ h⟩
  | .ref n, _, ⟨a, e, h⟩ => ⟨a, e, by
      obtain ⟨t, ht⟩ := ha
      rw [← ht, List.getElem?_append_left (List.getElem?_eq_some_iff.mp h).1]
      exact h⟩
  | .own _, _, h => h.elim
theorem Rep.ext {ω ω' : Wd} {H H' : Hp} (x : Ext ω H ω' H') {p : PV} {v : V} (h : Rep K ω p v) : Rep K ω' p v := h.mono x.L x.al
theorem RepAll.ext {ω ω' : Wd} {H H' : Hp} (x : Ext ω H ω' H') {ps : List PV} {vs : List V} (h : RepAll K ω ps vs) : RepAll K ω' ps vs := Paired.mapP h fun _ _ q => q.ext x
theorem RepE.ext {ω ω' : Wd} {H H' : Hp} (x : Ext ω H ω' H') : ∀ {p : PV} {v : V}, RepE K ω H p v → RepE K ω' H' p v
  | .d _, _, h => Rep.ext (K := K) (p := .d _) x h
  | .rng _ _, _, h => Rep.ext (K := K) (p := .rng _ _) x h
  | .ref n, _, h => Rep.ext (K := K) (p := .ref n) x h
  | .own xs, _, ⟨a, vs, e, h, r, n, m⟩ => ⟨a, vs, e, x.keep _ _ h m, dpAll_mono x.L r, x.fresh a (by rw [h]; simp) n, fun z => m (x.freshA a (by rw [h]; simp) z)⟩
theorem RepE.of {ω : Wd} {H : Hp} : ∀ {p : PV} {v : V}, Rep K ω p v → RepE K ω H p v
  | .d _, _, h => h
  | .rng _ _, _, h => h
  | .ref _, _, h => h
  | .own _, _, h => h.elim

/-- the slots stand for the reader's slots -/
structure EnvR (K : PySem.W.Frag) (ω : Wd) (H : Hp) (σ : L2.St) (ρ : Env) : Prop where
  len : σ.length = ρ.length
  at_ : ∀ (i : Nat) (p : PV), ρ[i]? = some (some p) → ∃ v, σ[i]? = some (some v) ∧ RepE K ω H p v
  apart : ∀ (i j : Nat) (xs ys : List PyData) (a : Addr), ρ[i]? = some (some (.own xs)) → ρ[j]? = some (some (.own ys)) → σ[i]? = some (some (V.ref a)) → σ[j]? = some (some (V.ref a)) → i = j
theorem EnvR.ext {ω ω' : Wd} {H H' : Hp} {σ : L2.St} {ρ : Env} (E : EnvR K ω H σ ρ) (x : Ext ω H ω' H') : EnvR K ω' H' σ ρ :=
  ⟨E.len, fun i p h => let ⟨v, e, r⟩ := E.at_ i p h; ⟨v, e, r.ext x⟩, E.apart⟩

/-- a new object, nobody's cell -/
theorem Ext.new {ω : Wd} {S : Store} {H : Hp} {a : Addr} {o : HO} (W : Wok K ω S H) (h : H a = none) :
    Ext ω H ⟨upd ω.L a o, ω.al⟩ (upd H a o) ∧ Wok K ⟨upd ω.L a o, ω.al⟩ S (upd H a o) ∧ Ext ω H ω (upd H a o) ∧ Wok K ω S (upd H a o) := by
  have hL : ω.L a = none := W.sub.free h
  have sL : Same ω.L (upd ω.L a o) := fun b u e => by rw [upd_ne (ne_of_none e hL)]; exact e
  have sH : Same H (upd H a o) := fun b u e => by rw [upd_ne (ne_of_none e h)]; exact e
  have ne : ∀ b, H b ≠ none → b ≠ a := fun b hb z => hb (by rw [z]; exact h)
  have cells : ∀ (n : Nat) (b : Addr) (c : Cell), ω.al[n]? = some b → S[n]? = some c → ∀ ω' : Wd, Same ω.L ω'.L → ω.al <+: ω'.al → CellRep K ω' (upd H a o) b c := fun n b c e1 e2 ω' l p => by
    have q := W.cell n b c e1 e2
    cases c with
    | lst ps =>
      obtain ⟨vs, e, r⟩ := q
      exact ⟨vs, sH _ _ e, Paired.mapP r fun _ _ z => z.mono l p⟩
  have cnone : ∀ b ∈ ω.al, b ≠ a := fun b hb => by
    obtain ⟨n, hn, e⟩ := List.getElem_of_mem hb
    have e1 : ω.al[n]? = some b := by rw [List.getElem?_eq_getElem hn, e]
    obtain ⟨c, e2⟩ : ∃ c, S[n]? = some c := ⟨_, List.getElem?_eq_getElem (show n < S.length by rw [← W.len]; exact hn)⟩
    have q := W.cell n b _ e1 e2
    cases c with
    | lst ps =>
      obtain ⟨vs, e, _⟩ := q
      exact ne b (by rw [e]; simp)
  refine ⟨⟨sL, List.prefix_refl _, fun b u e _ => sH b u e, fun b hb => by rw [upd_ne (ne b hb)]; exact hb, fun b hb n => by show upd ω.L a o b = none; rw [upd_ne (ne b hb)]; exact n, fun _ _ m => m⟩, ?_, ?_, ?_⟩
  · refine ⟨fun b u e => ?_, W.nd, fun b hb => ?_, W.len, fun n b c e1 e2 => cells n b c e1 e2 _ sL (List.prefix_refl _)⟩
    · by_cases hb : b = a
      · subst hb
        have e : upd ω.L b o b = some u := e
        rw [upd_same] at e ⊢
        exact e
      · have e : upd ω.L a o b = some u := e
        rw [upd_ne hb] at e ⊢
        exact W.sub b u e
    · show upd ω.L a o b = none
      rw [upd_ne (cnone b hb)]
      exact W.ap b hb
  · exact ⟨Same.refl _, List.prefix_refl _, fun b u e _ => sH b u e, fun b hb => by rw [upd_ne (ne b hb)]; exact hb, fun _ _ n => n, fun _ _ m => m⟩
  · exact ⟨W.sub.trans sH, W.nd, W.ap, W.len, fun n b c e1 e2 => cells n b c e1 e2 _ (Same.refl _) (List.prefix_refl _)⟩
theorem dpAll_len {H : Hp} : ∀ {vs : List V} {xs : List PyData}, RpAll K H vs xs → vs.length = xs.length
  | _, _, .nil => rfl
  | _, _, .cons _ r => by rw [List.length_cons, List.length_cons, dpAll_len r]
theorem dpAll_at {H : Hp} : ∀ {vs : List V} {xs : List PyData}, RpAll K H vs xs → ∀ (i : Nat) (x : PyData), xs[i]? = some x → ∃ v, vs[i]? = some v ∧ Rp K H v x
  | _, _, .nil, _, _, e => by simp at e
  | _, _, .cons h r, 0, x, e => ⟨_, rfl, by simp at e; subst e; exact h⟩
  | _, _, .cons h r, i + 1, x, e => by
    obtain ⟨v, e1, q⟩ := dpAll_at r i x (by simpa using e)
    exact ⟨v, by simpa using e1, q⟩
theorem dpAll_at' {H : Hp} : ∀ {vs : List V} {xs : List PyData}, RpAll K H vs xs → ∀ (i : Nat) (v : V), vs[i]? = some v → ∃ x, xs[i]? = some x ∧ Rp K H v x
  | _, _, .nil, _, _, e => by simp at e
  | _, _, .cons h r, 0, x, e => ⟨_, rfl, by simp at e; subst e; exact h⟩
  | _, _, .cons h r, i + 1, x, e => by
    obtain ⟨v, e1, q⟩ := dpAll_at' r i x (by simpa using e)
    exact ⟨v, by simpa using e1, q⟩
theorem dpAll_app {H : Hp} : ∀ {vs ws : List V} {xs ys : List PyData}, RpAll K H vs xs → RpAll K H ws ys → RpAll K H (vs ++ ws) (xs ++ ys)
  | _, _, _, _, .nil, s => s
  | _, _, _, _, .cons h r, s => .cons h (dpAll_app r s)
theorem dpAll_take {H : Hp} : ∀ {vs : List V} {xs : List PyData} (n : Nat), RpAll K H vs xs → RpAll K H (vs.take n) (xs.take n)
  | _, _, 0, _ => .nil
  | _, _, _ + 1, .nil => .nil
  | _, _, n + 1, .cons h r => .cons h (dpAll_take n r)
theorem dpAll_drop {H : Hp} : ∀ {vs : List V} {xs : List PyData} (n : Nat), RpAll K H vs xs → RpAll K H (vs.drop n) (xs.drop n)
  | _, _, 0, r => r
  | _, _, _ + 1, .nil => .nil
  | _, _, n + 1, .cons _ r => dpAll_drop n r
theorem dpAll_rev {H : Hp} : ∀ {vs : List V} {xs : List PyData}, RpAll K H vs xs → RpAll K H vs.reverse xs.reverse
  | _, _, .nil => .nil
  | _, _, .cons h r => by
    rw [List.reverse_cons, List.reverse_cons]
    exact dpAll_app (dpAll_rev r) (.cons h .nil)
/-- all values are pure data -/
def datas : List PV → Option (List PyData)
  | [] => some []
  | .d x :: r => (datas r).map (x :: ·)
  | _ :: _ => none
theorem repAll_datas {ω : Wd} : ∀ {ps : List PV} {vs : List V} {xs : List PyData}, RepAll K ω ps vs → datas ps = some xs → RpAll K ω.L vs xs
  | [], _, _, .nil, e => by cases e; exact .nil
  | .d x :: r, _, _, .cons h t, e => by
    unfold datas at e
    cases q : datas r with
    | none => rw [q] at e; cases e
    | some ys => rw [q] at e; cases e; exact .cons h (repAll_datas t q)
  | .rng _ _ :: _, _, _, _, e => by cases e
  | .ref _ :: _, _, _, _, e => by cases e
  | .own _ :: _, _, _, _, e => by cases e
end
end VC

/-! VB: the reader: code, its running, and how a text becomes code. -/
namespace VC
open PySem PySem.Spec PyProof.Rows L2

inductive Blt where
  | len | tuple | list | range | sorted | sum | max | min | int | str | all | any
  deriving DecidableEq, Repr
inductive Mth where
  | index | count | join | split
  deriving DecidableEq, Repr
inductive Tyk where
  | int | bool | str | tuple | list
  deriving DecidableEq, Repr
inductive Tg where
  | one (i : Nat) | tup (l : List Nat)
  deriving DecidableEq, Repr

inductive Code where
  | nil | no
  | cons (a r : Code)
  | star (a r : Code)
  | cn | cb (b : Bool) | ci (i : Int) | cs (x : Str)
  | var (i : Nat)
  | glob (k : Nat)
  | bin (o : Operator) (a b : Code)
  | cmp (o : CmpOp) (a b : Code)
  | ch (o o' : CmpOp) (a b c : Code)
  | neg (a : Code) | not (a : Code) | and (a b : Code) | or (a b : Code) | ite (c a b : Code)
  | tup (l : Code) | lst (l : Code)
  | ix (a i : Code) | sl (a lo hi : Code) | rv (a : Code)
  | call (k : Nat) (l : Code)
  | blt (b : Blt) (l : Code)
  | isi (a : Code) (ts : List Tyk)
  | mt (m : Mth) (a l : Code)
  | lc (elt : Code) (g : Tg) (it c : Code) (own : List Nat)
  | lc2 (elt : Code) (g : Tg) (it c : Code) (g1 : Tg) (it1 c1 : Code) (own vs1 : List Nat)
  deriving DecidableEq, Repr

inductive SCode where
  | nil
  | cons (s r : SCode)
  | set (g : Tg) (e : Code)
  | setC (i : Nat) (l : Code)
  | setIx (a i v : Code)
  | app (i : Nat) (e : Code)
  | drop (e : Code)
  | ret (e : Code) | retN
  | ifs (c : Code) (a b : SCode)
  | for_ (g : Tg) (it : Code) (b : SCode)
  | while_ (c : Code) (b : SCode)
  | pass | brk | cont | never
  deriving DecidableEq, Repr

/-! ### pure data -/
def intsOf : List PyData → Option (List Int)
  | [] => some []
  | .int i :: r => (intsOf r).map (i :: ·)
  | _ :: _ => none
def strsOf : List PyData → Option (List Str)
  | [] => some []
  | .str i :: r => (strsOf r).map (i :: ·)
  | _ :: _ => none
def blsOf : List PyData → Option (List Bool)
  | [] => some []
  | .bool i :: r => (blsOf r).map (i :: ·)
  | _ :: _ => none
def tupsOf : List PyData → Option (List (List PyData))
  | [] => some []
  | .tuple i :: r => (tupsOf r).map (i :: ·)
  | _ :: _ => none
def small (i : Int) : Bool := decide (-(2 ^ 62) ≤ i) && decide (i < 2 ^ 62)
def fits (n : Nat) : Bool := decide (n ≤ 100000)

/-- where an item stands: 0 ≤ i or from the end -/
def atD (xs : List PyData) (i : Int) : Option PyData := atI xs i
def cutD (xs : List PyData) (lo hi : Option Int) : List PyData :=
  (xs.drop (HT.sIx xs.length 0 lo)).take (HT.sIx xs.length xs.length hi - HT.sIx xs.length 0 lo)

def binD : Operator → PyData → PyData → Option PyData
  | .Add, .int i, .int j => some (.int (i + j))
  | .Add, .str x, .str y => if x.length + y.length ≤ 10000 then some (.str (x ++ y)) else none
  | .Add, .tuple xs, .tuple ys => if fits (xs.length + ys.length) then some (.tuple (xs ++ ys)) else none
  | .Add, .list xs, .list ys => if fits (xs.length + ys.length) then some (.list (xs ++ ys)) else none
  | .Sub, .int i, .int j => some (.int (i - j))
  | .Mult, .int i, .int j => if (decide (-(2 ^ 64) < i) && decide (i < 2 ^ 64)) || (decide (-(2 ^ 64) < j) && decide (j < 2 ^ 64)) then some (.int (i * j)) else none
  | .FloorDiv, .int i, .int j => if j ≠ 0 ∧ j.natAbs < 1073741824 then some (.int (i.fdiv j)) else none
  | .Mod, .int i, .int j => if j ≠ 0 then some (.int (i.fmod j)) else none
  | .Pow, .int i, .int j => if 0 ≤ j ∧ j ≤ 1000000 ∧ i.natAbs < 2 ^ 64 then some (.int (i ^ j.toNat)) else none
  | .LShift, .int i, .int j => if 0 ≤ j ∧ j ≤ 1000000 ∧ i.natAbs < 2 ^ 64 then some (.int (i * 2 ^ j.toNat)) else none
  | _, _, _ => none

def ltInts : List Int → List Int → Bool := HT.lexLt

def isK : PyData → Option PyData
  | .none => some (.bool true)
  | _ => some (.bool false)
def eqD (a b : PyData) : Option Bool := if SeqAt.shaped a && SeqAt.shaped b then some (PyData.eqv a b) else none
def inD (x : PyData) : PyData → Option Bool
  | .list ds => if SeqAt.shaped x && SeqAt.shaped (.list ds) then some (ds.any fun z => PyData.eqv z x) else none
  | .tuple ds => if SeqAt.shaped x && SeqAt.shaped (.tuple ds) then some (ds.any fun z => PyData.eqv z x) else none
  | _ => none
def cmpD : CmpOp → PyData → PyData → Option Bool
  | .Eq, a, b => eqD a b
  | .NotEq, a, b => (eqD a b).map (!·)
  | .Lt, .int i, .int j => some (decide (i < j))
  | .LtE, .int i, .int j => some (decide (i ≤ j))
  | .Gt, .int i, .int j => some (decide (j < i))
  | .GtE, .int i, .int j => some (decide (j ≤ i))
  | .Lt, .str i, .str j => some (decide (i.cps.toList < j.cps.toList))
  | .In, a, b => inD a b
  | .NotIn, a, b => (inD a b).map (!·)
  | .Is, .none, .none => some true
  | .Is, .bool a, .bool b => some (decide (a = b))
  | .Is, .none, _ => none
  | .Is, _, .none => some false
  | .IsNot, .none, .none => some false
  | .IsNot, .bool a, .bool b => some (!decide (a = b))
  | .IsNot, .none, _ => none
  | .IsNot, _, .none => some true
  | _, _, _ => none

def ins {α : Type} (lt : α → α → Bool) (x : α) : List α → List α
  | [] => [x]
  | y :: r => if lt y x then y :: ins lt x r else x :: y :: r
def isort {α : Type} (lt : α → α → Bool) : List α → List α
  | [] => []
  | x :: r => ins lt x (isort lt r)
def intTups : List (List PyData) → Option (List (List Int))
  | [] => some []
  | x :: r => match intsOf x, intTups r with
    | some a, some b => some (a :: b)
    | _, _ => none
/-- sorted(..): ints; texts; tuples of ints that begin with one each -/
def sortD (xs : List PyData) : Option (List PyData) :=
  match intsOf xs with
  | some ns => some ((isort (fun a b => decide (a < b)) ns).map .int)
  | none => match tupsOf xs with
    | some ts => match intTups ts with
      | some ns => if ns.all (fun n => !n.isEmpty) then some ((isort HT.lexLt ns).map fun n => .tuple (n.map .int)) else none
      | none => none
    | none => none
def sumI : List Int → Int
  | [] => 0
  | x :: r => x + sumI r
def maxI : List Int → Option Int
  | [] => none
  | [x] => some x
  | x :: r => (maxI r).map fun m => if m < x then x else m
def minI : List Int → Option Int
  | [] => none
  | [x] => some x
  | x :: r => (minI r).map fun m => if x < m then x else m
def seqOf : PyData → Option (List PyData)
  | .list xs => some xs
  | .tuple xs => some xs
  | _ => none
def itemsRng (lo : Int) : Nat → List PyData
  | 0 => []
  | n + 1 => .int lo :: itemsRng (lo + 1) n
def cellItems (S : Store) (n : Nat) : Option (List PV) := match S[n]? with
  | some (.lst xs) => some xs
  | none => none

def bltD : Blt → List PV → Store → Option PV
  | .len, [.d (.str x)], _ => if x.length ≤ 10000 then some (.d (.int x.length)) else none
  | .len, [.d x], _ => (seqOf x).map fun xs => .d (.int (xs.length : Nat))
  | .tuple, [.d x], _ => (seqOf x).map fun xs => .d (.tuple xs)
  | .tuple, [.rng lo hi], _ => if small lo && small hi && fits (hi - lo).toNat then some (.d (.tuple (itemsRng lo (hi - lo).toNat))) else none
  | .list, [.d x], _ => (seqOf x).map fun xs => .d (.list xs)
  | .list, [.rng lo hi], _ => if small lo && small hi && fits (hi - lo).toNat then some (.d (.list (itemsRng lo (hi - lo).toNat))) else none
  | .range, [.d (.int n)], _ => if small n then some (.rng 0 n) else none
  | .range, [.d (.int m), .d (.int n)], _ => if small m && small n then some (.rng m n) else none
  | .sorted, [.d x], _ => ((seqOf x).bind sortD).map fun xs => .d (.list xs)
  | .sum, [.d (.list xs)], _ => (intsOf xs).map fun ns => .d (.int (sumI ns))
  | .max, [.d (.list xs)], _ => ((intsOf xs).bind maxI).map fun n => .d (.int n)
  | .min, [.d (.list xs)], _ => ((intsOf xs).bind minI).map fun n => .d (.int n)
  | .int, [.d (.int i)], _ => some (.d (.int i))
  | .int, [.d (.bool b)], _ => some (.d (.int (if b then 1 else 0)))
  | .all, [.d (.list xs)], _ => (blsOf xs).map fun bs => .d (.bool (bs.all id))
  | .any, [.d (.list xs)], _ => (blsOf xs).map fun bs => .d (.bool (bs.any id))
  | _, _, _ => none

def firstAt (x : PyData) : List PyData → Nat → Option Nat
  | [], _ => none
  | y :: r, k => if PyData.eqv y x then some k else firstAt x r (k + 1)
def oneD : List PV → Option PyData
  | [.d x] => some x
  | _ => none
def indexD (ds : List PyData) (all : PyData) (x : PyData) : Option PV :=
  if SeqAt.shaped x && SeqAt.shaped all then match firstAt x ds 0 with
    | some k => some (.d (.int (k : Nat)))
    | none => none
  else none
def countD (ds : List PyData) : PyData → Option PV
  | .int k => match intsOf ds with
    | some ns => some (.d (.int (ns.count k : Nat)))
    | none => none
  | _ => none
def mthD : Mth → PyData → List PV → Option PV
  | .index, .list ds, ps => (oneD ps).bind (indexD ds (.list ds))
  | .index, .tuple ds, ps => (oneD ps).bind (indexD ds (.tuple ds))
  | .count, .list ds, ps => (oneD ps).bind (countD ds)
  | _, _, _ => none

def isTy : PyData → Tyk → Bool
  | .int _, .int => true
  | .bool _, .int => true
  | .bool _, .bool => true
  | .str _, .str => true
  | .tuple _, .tuple => true
  | .list _, .list => true
  | _, _ => false

/-! ### running -/
def asData : PV → Option PyData
  | .d x => some x
  | _ => none
def asBool : PV → Option Bool
  | .d (.bool b) => some b
  | _ => none
def asInt : PV → Option Int
  | .d (.int i) => some i
  | _ => none
/-- the items that a walk over a value gives -/
def itemsOf : PV → Option (List PV)
  | .d (.list xs) => some (xs.map .d)
  | .d (.tuple xs) => some (xs.map .d)
  | .rng lo hi => if small lo && small hi then some ((itemsRng lo (hi - lo).toNat).map .d) else none
  | _ => none
def setAll : List Nat → List PyData → Env → Option Env
  | [], [], ρ => some ρ
  | i :: r, x :: xs, ρ => setAll r xs (ρ.set i (some (.d x)))
  | _, _, _ => none
def setTg : Tg → PV → Env → Option Env
  | .one i, p, ρ => some (ρ.set i (some p))
  | .tup l, .d (.tuple xs), ρ => setAll l xs ρ
  | .tup _, _, _ => none
def wipeE (ρ : Env) : List Nat → Env
  | [] => ρ
  | v :: vs => (wipeE ρ vs).set v none

/-- the slots without the def's own lists -/
def noOwn (ρ : Env) : Env := ρ.map fun
  | some (.own _) => none
  | o => o
/-- a comprehension's loop -/
def lcLoop (step : PV → Store → Option (List PyData × Store)) : List PV → Store → Option (List PyData × Store)
  | [], S => some ([], S)
  | x :: r, S => match step x S with
    | none => none
    | some (ys, S1) => match lcLoop step r S1 with
      | none => none
      | some (zs, S2) => some (ys ++ zs, S2)

def isNo : Code → Bool
  | .no => true
  | _ => false
/-- a part of a slice -/
def asPart (c : Code) (r : Option (PV × Store)) (S : Store) : Option (Option Int × Store) :=
  if isNo c then some (none, S) else match r with
    | some (.d (.int i), S1) => some (some i, S1)
    | _ => none
/-- a condition -/
def asCond (c : Code) (r : Option (PV × Store)) (S : Store) : Option (Bool × Store) :=
  if isNo c then some (true, S) else match r with
    | some (.d (.bool b), S1) => some (b, S1)
    | _ => none
structure Gx where
  fn : Nat → List PV → Store → Option (PV × Store)
  gl : List PyData

mutual
def ev (G : Gx) : Code → Env → Store → Option (PV × Store)
  | .cn, _, S => some (.d .none, S)
  | .cb b, _, S => some (.d (.bool b), S)
  | .ci i, _, S => some (.d (.int i), S)
  | .cs x, _, S => some (.d (.str x), S)
  | .var i, ρ, S => match ρ[i]? with
    | some (some (.own _)) => none
    | some (some p) => some (p, S)
    | _ => none
  | .glob k, _, S => (G.gl[k]?).map fun x => (.d x, S)
  | .bin o a b, ρ, S => match ev G a ρ S with
    | some (.d x, S1) => match ev G b ρ S1 with
      | some (.d y, S2) => (binD o x y).map fun z => (.d z, S2)
      | _ => none
    | _ => none
  | .cmp o a b, ρ, S => match ev G a ρ S with
    | some (.d x, S1) => match ev G b ρ S1 with
      | some (.d y, S2) => (cmpD o x y).map fun z => (.d (.bool z), S2)
      | _ => none
    | _ => none
  | .ch o o' a b c, ρ, S => match ev G a ρ S with
    | some (.d x, S1) => match ev G b ρ S1 with
      | some (.d y, S2) => match cmpD o x y with
        | some true => match ev G c ρ S2 with
          | some (.d z, S3) => (cmpD o' y z).map fun k => (.d (.bool k), S3)
          | _ => none
        | some false => some (.d (.bool false), S2)
        | none => none
      | _ => none
    | _ => none
  | .neg a, ρ, S => match ev G a ρ S with
    | some (.d (.int i), S1) => some (.d (.int (-i)), S1)
    | _ => none
  | .not a, ρ, S => match ev G a ρ S with
    | some (.d (.bool b), S1) => some (.d (.bool (!b)), S1)
    | _ => none
  | .and a b, ρ, S => match ev G a ρ S with
    | some (.d (.bool true), S1) => ev G b ρ S1
    | some (.d (.bool false), S1) => some (.d (.bool false), S1)
    | _ => none
  | .or a b, ρ, S => match ev G a ρ S with
    | some (.d (.bool true), S1) => some (.d (.bool true), S1)
    | some (.d (.bool false), S1) => ev G b ρ S1
    | _ => none
  | .ite c a b, ρ, S => match ev G c ρ S with
    | some (.d (.bool true), S1) => ev G a ρ S1
    | some (.d (.bool false), S1) => ev G b ρ S1
    | _ => none
  | .tup l, ρ, S => match evs G l ρ S with
    | some (ps, S1) => match datas ps with
      | some xs => if fits xs.length then some (.d (.tuple xs), S1) else none
      | none => none
    | none => none
  | .lst l, ρ, S => match evs G l ρ S with
    | some (ps, S1) => match datas ps with
      | some xs => if fits xs.length then some (.d (.list xs), S1) else none
      | none => none
    | none => none
  | .ix a i, ρ, S => match ev G a ρ S with
    | some (.d x, S1) => match ev G i ρ S1 with
      | some (.d (.int k), S2) => match seqOf x with
        | some xs => (atI xs k).map fun y => (.d y, S2)
        | none => none
      | _ => none
    | some (.ref n, S1) => match ev G i ρ S1 with
      | some (.d (.int k), S2) => match cellItems S2 n with
        | some xs => (atI xs k).map fun y => (y, S2)
        | none => none
      | _ => none
    | _ => none
  | .sl a lo hi, ρ, S => match ev G a ρ S with
    | some (.d x, S1) => match asPart lo (ev G lo ρ S1) S1 with
      | some (l, S2) => match asPart hi (ev G hi ρ S2) S2 with
        | some (h, S3) => match x with
          | .tuple xs => some (.d (.tuple (cutD xs l h)), S3)
          | .list xs => some (.d (.list (cutD xs l h)), S3)
          | _ => none
        | none => none
      | none => none
    | _ => none
  | .call k l, ρ, S => match evs G l ρ S with
    | some (ps, S1) => G.fn k ps S1
    | none => none
  | .blt b l, ρ, S => match evs G l ρ S with
    | some (ps, S1) => (bltD b ps S1).map fun p => (p, S1)
    | none => none
  | .isi a ts, ρ, S => match ev G a ρ S with
    | some (.d x, S1) => some (.d (.bool (ts.any (isTy x))), S1)
    | _ => none
  | .mt m a l, ρ, S => match ev G a ρ S with
    | some (.d x, S1) => match evs G l ρ S1 with
      | some (ps, S2) => (mthD m x ps).map fun p => (p, S2)
      | none => none
    | _ => none
  | .lc elt g it c own, ρ, S => match ev G it ρ S with
    | some (p, S1) => match itemsOf p with
      | some xs => match lcLoop (fun x S2 => match setTg g x (wipeE ρ own) with
          | some ρ' => match asCond c (ev G c ρ' S2) S2 with
            | some (true, S3) => match ev G elt ρ' S3 with
              | some (.d y, S4) => some ([y], S4)
              | _ => none
            | some (false, S3) => some ([], S3)
            | none => none
          | none => none) xs S1 with
        | some (ys, S5) => if fits ys.length then some (.d (.list ys), S5) else none
        | none => none
      | none => none
    | none => none
  | .lc2 elt g it c g1 it1 c1 own vs1, ρ, S => match ev G it ρ S with
    | some (p, S1) => match itemsOf p with
      | some xs => match lcLoop (fun x S2 => match setTg g x (wipeE (noOwn ρ) own) with
          | some ρ' => match asCond c (ev G c ρ' S2) S2 with
            | some (true, S3) => match ev G it1 ρ' S3 with
              | some (p1, S4) => match itemsOf p1 with
                | some xs1 => lcLoop (fun x1 S5 => match setTg g1 x1 (wipeE ρ' vs1) with
                    | some ρ2 => match asCond c1 (ev G c1 ρ2 S5) S5 with
                      | some (true, S6) => match ev G elt ρ2 S6 with
                        | some (.d y, S7) => some ([y], S7)
                        | _ => none
                      | some (false, S6) => some ([], S6)
                      | none => none
                    | none => none) xs1 S4
                | none => none
              | none => none
            | some (false, S3) => some ([], S3)
            | none => none
          | none => none) xs S1 with
        | some (ys, S5) => if fits ys.length then some (.d (.list ys), S5) else none
        | none => none
      | none => none
    | none => none
  | _, _, _ => none
def evs (G : Gx) : Code → Env → Store → Option (List PV × Store)
  | .nil, _, S => some ([], S)
  | .cons a r, ρ, S => match ev G a ρ S with
    | some (p, S1) => match evs G r ρ S1 with
      | some (ps, S2) => some (p :: ps, S2)
      | none => none
    | none => none
  | .star a r, ρ, S => match ev G a ρ S with
    | some (.d x, S1) => match seqOf x with
      | some xs => match evs G r ρ S1 with
        | some (ps, S2) => some (xs.map .d ++ ps, S2)
        | none => none
      | none => none
    | _ => none
  | _, _, _ => none
end
example (G : Gx) : ev G (.tup (.cons (.ci 3) (.star (.lst (.cons (.ci 2) .nil)) .nil))) [] [] = some (.d (.tuple [.int 3, .int 2]), []) := by rfl
/-! ### statements -/
inductive Out where
  | nx | bk | ct | rt (p : PV)
abbrev SR := Option (Out × Env × Store)
def forL (g : Tg) (body : Env → Store → SR) : List PV → Env → Store → SR
  | [], ρ, S => some (.nx, ρ, S)
  | x :: r, ρ, S => match setTg g x ρ with
    | none => none
    | some ρ1 => match body ρ1 S with
      | some (.nx, ρ2, S2) => forL g body r ρ2 S2
      | some (.ct, ρ2, S2) => forL g body r ρ2 S2
      | some (.bk, ρ2, S2) => some (.nx, ρ2, S2)
      | some (.rt p, ρ2, S2) => some (.rt p, ρ2, S2)
      | none => none
def whileL (c : Env → Store → Option (PV × Store)) (body : Env → Store → SR) : Nat → Env → Store → SR
  | 0, _, _ => none
  | n + 1, ρ, S => match c ρ S with
    | some (.d (.bool true), S1) => match body ρ S1 with
      | some (.nx, ρ2, S2) => whileL c body n ρ2 S2
      | some (.ct, ρ2, S2) => whileL c body n ρ2 S2
      | some (.bk, ρ2, S2) => some (.nx, ρ2, S2)
      | some (.rt p, ρ2, S2) => some (.rt p, ρ2, S2)
      | none => none
    | some (.d (.bool false), S1) => some (.nx, ρ, S1)
    | _ => none
def setCell (S : Store) (n : Nat) (k : Int) (v : PV) : Option Store := match S[n]? with
  | some (.lst xs) => match ixN xs.length k with
    | some j => some (S.set n (.lst (xs.set j v)))
    | none => none
  | none => none
/-- how often a while turns at most -/
def turns : Nat := 100000
def ex (G : Gx) : SCode → Env → Store → SR
  | .nil, ρ, S => some (.nx, ρ, S)
  | .cons s r, ρ, S => match ex G s ρ S with
    | some (.nx, ρ1, S1) => ex G r ρ1 S1
    | some (o, ρ1, S1) => some (o, ρ1, S1)
    | none => none
  | .set g e, ρ, S => match ev G e ρ S with
    | some (p, S1) => (setTg g p ρ).map fun ρ1 => (.nx, ρ1, S1)
    | none => none
  | .setC i l, ρ, S => match evs G l ρ S with
    | some (ps, S1) => if fits ps.length then some (.nx, ρ.set i (some (.ref S1.length)), S1 ++ [.lst ps]) else none
    | none => none
  | .setIx a i v, ρ, S => match ev G v ρ S with
    | some (p, S1) => match ev G a ρ S1 with
      | some (.ref n, S2) => match ev G i ρ S2 with
        | some (.d (.int k), S3) => (setCell S3 n k p).map fun S4 => (.nx, ρ, S4)
        | _ => none
      | _ => none
    | none => none
  | .app i e, ρ, S => match ev G e ρ S with
    | some (.d x, S1) => match ρ[i]? with
      | some (some (.own xs)) => if fits (xs.length + 1) then some (.nx, ρ.set i (some (.own (xs ++ [x]))), S1) else none
      | _ => none
    | _ => none
  | .drop e, ρ, S => match ev G e ρ S with
    | some (_, S1) => some (.nx, ρ, S1)
    | none => none
  | .ret e, ρ, S => match ev G e ρ S with
    | some (p, S1) => some (.rt p, ρ, S1)
    | none => none
  | .retN, ρ, S => some (.rt (.d .none), ρ, S)
  | .ifs c a b, ρ, S => match ev G c ρ S with
    | some (.d (.bool true), S1) => ex G a ρ S1
    | some (.d (.bool false), S1) => ex G b ρ S1
    | _ => none
  | .for_ g it b, ρ, S => match ev G it ρ S with
    | some (p, S1) => match itemsOf p with
      | some xs => forL g (ex G b) xs ρ S1
      | none => none
    | none => none
  | .while_ c b, ρ, S => whileL (ev G c) (ex G b) turns ρ S
  | .pass, ρ, S => some (.nx, ρ, S)
  | .brk, ρ, S => some (.bk, ρ, S)
  | .cont, ρ, S => some (.ct, ρ, S)
  | .never, _, _ => none

/-- a def: how many slots, how many parameters, its body -/
structure Fn where
  slots : Nat
  pars : Nat
  body : SCode
  deriving DecidableEq, Repr
def startE (f : Fn) (ps : List PV) : Env := ps.map some ++ List.replicate (f.slots - f.pars) none
def runFn (G : Gx) (f : Fn) (ps : List PV) (S : Store) : Option (PV × Store) :=
  if ps.length = f.pars then match ex G f.body (startE f ps) S with
    | some (.rt p, _, S1) => some (p, S1)
    | some (.nx, _, S1) => some (.d .none, S1)
    | _ => none
  else none
/-- the text's defs, called so deep -/
def callN (T : List Fn) (gl : List PyData) : Nat → Nat → List PV → Store → Option (PV × Store)
  | 0, _, _, _ => none
  | n + 1, k, ps, S => match T[k]? with
    | some f => runFn ⟨callN T gl n, gl⟩ f ps S
    | none => none
end VC

/-! VC1: what an operation on pure data asks of the machine. -/
namespace VC
open PySem PySem.Spec PyProof.Rows L2

/-- what is wanted behind a step: at every later world, of every value that stands for p -/
def Aft (K : PySem.W.Frag) (ω : Wd) (S : Store) (H : Hp) (p : PV) (Q : VK) : Prop :=
  ∀ ω' H' v, Ext ω H ω' H' → Wok K ω' S H' → Rep K ω' p v → Q v H'

section
variable {K : PySem.W.Frag} {ω : Wd} {S : Store} {H : Hp} {p : PV} {Q : VK}
theorem Aft.now (h : Aft K ω S H p Q) (W : Wok K ω S H) {v : V} (r : Rep K ω p v) : Q v H := h ω H v (Ext.refl _ _) W r
theorem Aft.ext {ω1 : Wd} {H1 : Hp} {S1 : Store} (h : Aft K ω S1 H p Q) (x : Ext ω H ω1 H1) : Aft K ω1 S1 H1 p Q := fun ω' H' v y W r => h ω' H' v (x.trans y) W r
/-- a new tuple's object -/
abbrev tupO (us : List Value) : Obj := { cls := .type "tuple", data := .seq us.toArray }
theorem Aft.tup {vs : List V} {xs : List PyData} (h : Aft K ω S H (.d (.tuple xs)) Q) (W : Wok K ω S H) (r : RpAll K ω.L vs xs) : ∀ a us, H a = none → Q (.ref a) (upd H a (.frz (tupO us) (.tup vs))) := fun a us n => by
  obtain ⟨x, W', _, _⟩ := Ext.new (o := .frz (tupO us) (.tup vs)) W n
  exact h _ _ _ x W' (Rp.tup (.inl ⟨_, upd_same, rfl, rfl⟩) (dpAll_mono x.L r))
theorem Aft.lst {vs : List V} {xs : List PyData} (h : Aft K ω S H (.d (.list xs)) Q) (W : Wok K ω S H) (r : RpAll K ω.L vs xs) : ∀ a, H a = none → Q (.ref a) (upd H a (.lst vs)) := fun a n => by
  obtain ⟨x, W', _, _⟩ := Ext.new (o := .lst vs) W n
  exact h _ _ _ x W' (Rp.lst (SqL.of upd_same) (dpAll_mono x.L r))
theorem Aft.rng {lo hi : Int} (h : Aft K ω S H (.rng lo hi) Q) (W : Wok K ω S H) : ∀ a, H a = none → Q (.ref a) (upd H a (.rng lo hi)) := fun a n => by
  obtain ⟨x, W', _, _⟩ := Ext.new (o := .rng lo hi) W n
  exact h _ _ _ x W' ⟨a, rfl, upd_same⟩
theorem Wok.dp (W : Wok K ω S H) {v : V} {x : PyData} (r : Rp K ω.L v x) : Dp K H v x := rp_dp (dp_mono W.sub r)
end

/-- a binary operation on data -/
def rD (K : PySem.W.Frag) (f : PyData → PyData → Option PyData) : R2 := fun x y H Q =>
  ∃ ω S a b z, Wok K ω S H ∧ Rp K ω.L x a ∧ Rp K ω.L y b ∧ f a b = some z ∧ Aft K ω S H (.d z) Q
theorem line10 {n : Nat} (h : n ≤ 100000) : n ≤ sizeLine := by rw [sizeLine_eq]; omega
theorem fits_line {n : Nat} (h : fits n = true) : n ≤ sizeLine := line10 (of_decide_eq_true h)

section
variable {X : Cx}
theorem cut_pd (xs : List PyData) (vs : List V) {K : PySem.W.Frag} {H : Hp} (r : RpAll K H vs xs) (lo hi : Option Int) : RpAll K H (cutV vs lo hi) (cutD xs lo hi) := by
  unfold cutV cutD
  rw [dpAll_len r]
  exact dpAll_take _ (dpAll_drop _ r)
theorem dpAll_rep {K : PySem.W.Frag} {H : Hp} {vs : List V} {xs : List PyData} (r : RpAll K H vs xs) : ∀ n : Nat, RpAll K H (List.replicate n vs).flatten (List.replicate n xs).flatten
  | 0 => .nil
  | n + 1 => by
    rw [List.replicate_succ, List.replicate_succ, List.flatten_cons, List.flatten_cons]
    exact dpAll_app r (dpAll_rep r n)
/-- list + list, wherever they stand -/
theorem op_catL : OpR X (binaryOp .Add) (fun x y H Q => ∃ a b xs ys, x = .ref a ∧ y = .ref b ∧ SqL X.K H a xs ∧ SqL X.K H b ys ∧ xs.length + ys.length ≤ sizeLine ∧ ∀ p, H p = none → Q (.ref p) (upd H p (.lst (xs ++ ys)))) := by
  intro pins s σ H x y v u Q I rx ry h
  obtain ⟨a, b, xs, ys, rfl, rfl, ha, hb, hz, q⟩ := h
  cases rx
  cases ry
  obtain ⟨its, r, ⟨⟨c1, d1, e1, z1⟩, n, o1, hc1, hd1, hs1⟩, _⟩ := I.list ha
  obtain ⟨jts, r', ⟨⟨c2, d2, e2, z2⟩, m, o2, hc2, hd2, hs2⟩, _⟩ := I.list hb
  simp only at hc1 hd1 hs1 hc2 hd2 hs2
  subst hc1 hd1 hs1 hc2 hd2 hs2
  have l1 := r.length
  have l2 := r'.length
  refine concat_meets ⟨_, o1, rfl⟩ ⟨_, o2, rfl⟩ noFill_list_add seq_list_add PySem.F.slot_list_add PySem.F.entry_list_add (PySem.F.args_list_add_2 _ _)
    (list_addW a b its.toArray jts.toArray n m none none z1 z2 (by simp only [List.size_toArray]; omega)) ⟨o1, o2, ?_⟩
  have ea : its.toArray ++ jts.toArray = (its ++ jts).toArray := by simp
  rw [ea]
  exact ⟨.ref _, _, I.lnew (t' := s.toks) (r.append r') (by rw [List.length_append]; omega), rfl, q _ I.fresh⟩

/-- a new tuple laid at the heap's end -/
theorem tup_new {pins : List (Addr × Obj)} {s : Shared} {σ : L2.St} {H : Hp} {vs : List V} {us : List Value} {Q : VK} {tk : Nat} (I : L2.Inv X pins σ H s) (r : Vals vs us) (hz : vs.length ≤ sizeLine)
    (q : ∀ a us, H a = none → Q (.ref a) (upd H a (.frz (tupO us) (.tup vs)))) : EP X pins σ Q (.ref s.heap.objs.size) { s with heap := s.heap.push (tupO us), toks := tk } := by
  have h1 : ObjOk X.prog X.w (upd H s.heap.objs.size (.frz (tupO us) (.tup vs))) (s.heap.push (tupO us)) s.heap.objs.size (.frz (tupO us) (.tup vs)) :=
    ⟨Heap.get?_push_size _ rfl, hz, us, r, IsTup.new _ _⟩
  exact ⟨V.ref _, _, I.laid (t' := tk) (fun b o e => Heap.get?_push_of_some _ e) (Nat.le_refl _) h1, rfl, q _ us I.fresh⟩
/-- tuple + tuple, as rCatA has it, the new object known -/
theorem op_catF : OpR X (binaryOp .Add) (fun x y H Q => ∃ a b xs ys, x = .ref a ∧ y = .ref b ∧ SqT X.K H a xs ∧ SqT X.K H b ys ∧ xs.length + ys.length ≤ sizeLine ∧
    (xs = [] → Q (.ref b) H) ∧ (xs ≠ [] → ys = [] → Q (.ref a) H) ∧ (xs ≠ [] → ys ≠ [] → ∀ p us, H p = none → Q (.ref p) (upd H p (.frz (tupO us) (.tup (xs ++ ys)))))) := by
  intro pins s σ H x y v u Q I rx ry h
  obtain ⟨a, b, xs, ys, rfl, rfl, ha, hb, hz, q0, q1, q2⟩ := h
  by_cases hx : xs = []
  · exact op_catA pins s σ H _ _ v u Q I rx ry ⟨a, b, xs, ys, rfl, rfl, ha, hb, hz, q0, fun z => absurd hx z, fun z => absurd hx z⟩
  · cases rx
    cases ry
    obtain ⟨its, r1, p1, _⟩ := I.tuple ha
    obtain ⟨jts, r2, p2, _⟩ := I.tuple hb
    have l1 := r1.length
    have l2 := r2.length
    have n1 : its ≠ [] := fun e => hx (List.eq_nil_of_length_eq_zero (by rw [l1, e]; rfl))
    refine HT.cat_tup p1 p2 n1 (fun e => ⟨.ref a, H, I, rfl, q1 hx ?_⟩) (fun e => ?_) (by omega)
    · exact List.eq_nil_of_length_eq_zero (by rw [l2, e]; rfl)
    · have hy : ys ≠ [] := fun z => e (List.eq_nil_of_length_eq_zero (by rw [← l2, z]; rfl))
      exact tup_new I (r1.append r2) (by rw [List.length_append]; exact hz) (q2 hx hy)
theorem op_none {f : PyData → PyData → Option PyData} {g : Value → Value → Sem Value} (h : ∀ a b, f a b = none) : OpR X g (rD X.K f) := by
  intro pins s σ H x y v u Q I rx ry q
  obtain ⟨ω, S, a, b, z, W, da, db, e, q⟩ := q
  rw [h] at e
  cases e
theorem op_binD : ∀ (op : Operator), OpR X (binaryOp op) (rD X.K (binD op)) := by
  intro op pins s σ H x y v u Q I rx ry h
  obtain ⟨ω, S, a, b, z, W, da, db, e, q⟩ := h
  cases op <;> cases a <;> cases b <;> simp only [binD] at e <;> (first | (cases e; done) | skip)
  · -- int + int
    cases da; cases db; cases e
    exact op_add pins s σ H _ _ v u Q I rx ry ⟨_, _, rfl, rfl, q.now W (Rp.int _)⟩
  · -- str + str
    cases da; cases db
    split at e
    · rename_i hz
      cases e
      exact op_add_str pins s σ H _ _ v u Q I rx ry ⟨_, _, rfl, rfl, line10 (by omega), q.now W (Rp.str _)⟩
    · cases e
  · -- list + list
    split at e
    · rename_i hz
      cases e
      cases da with
      | lst ha ra => cases db with
        | lst hb rb =>
          exact op_catL pins s σ H _ _ v u Q I rx ry ⟨_, _, _, _, rfl, rfl, W.sub.seq ha, W.sub.seq hb, by rw [dpAll_len ra, dpAll_len rb]; exact fits_line hz, q.lst W (dpAll_app ra rb)⟩
    · cases e
  · -- tuple + tuple
    split at e
    · rename_i hz
      cases e
      cases da with
      | tup ha ra => cases db with
        | tup hb rb =>
          rename_i a1 vs a2 ws
          refine op_catF pins s σ H _ _ v u Q I rx ry ⟨_, _, _, _, rfl, rfl, (same_tup W.sub ha).sq, (same_tup W.sub hb).sq, by rw [dpAll_len ra, dpAll_len rb]; exact fits_line hz, fun e => ?_, fun _ e => ?_, fun _ _ => q.tup W (dpAll_app ra rb)⟩
          · subst e
            cases ra
            exact q.now W (Rp.tup hb rb)
          · subst e
            cases rb
            refine q.now W ?_
            rw [List.append_nil]
            exact Rp.tup ha ra
    · cases e
  · cases da; cases db; cases e
    exact op_sub pins s σ H _ _ v u Q I rx ry ⟨_, _, rfl, rfl, q.now W (Rp.int _)⟩
  · cases da; cases db
    split at e
    · rename_i hz
      cases e
      refine op_mul pins s σ H _ _ v u Q I rx ry ⟨_, _, rfl, rfl, ?_, q.now W (Rp.int _)⟩
      simp only [Bool.or_eq_true, Bool.and_eq_true, decide_eq_true_eq] at hz
      exact hz
    · cases e
  · cases da; cases db
    split at e
    · rename_i hz
      cases e
      exact op_modN pins s σ H _ _ v u Q I rx ry ⟨_, _, rfl, rfl, hz, q.now W (Rp.int _)⟩
    · cases e
  · cases da; cases db
    split at e
    · rename_i hz
      cases e
      exact op_pow pins s σ H _ _ v u Q I rx ry ⟨_, _, rfl, rfl, hz, q.now W (Rp.int _)⟩
    · cases e
  · cases da; cases db
    split at e
    · rename_i hz
      cases e
      exact op_shl pins s σ H _ _ v u Q I rx ry ⟨_, _, rfl, rfl, hz, q.now W (Rp.int _)⟩
    · cases e
  · cases da; cases db
    split at e
    · rename_i hz
      cases e
      exact op_fdivN pins s σ H _ _ v u Q I rx ry ⟨_, _, rfl, rfl, hz, q.now W (Rp.int _)⟩
    · cases e

/-- a bool answer, at once -/
def rB (K : PySem.W.Frag) (f : PyData → PyData → Option Bool) : R2 := fun x y H Q =>
  ∃ ω S a b z, Wok K ω S H ∧ Rp K ω.L x a ∧ Rp K ω.L y b ∧ f a b = some z ∧ Q (.bl z) H
theorem op_inD2 (hu : X.A.units + 65 < cLine) : OpR X (compareOp .In) (fun x y H Q => ∃ d ds, Dp X.K H x d ∧ Dp X.K H y (.tuple ds) ∧ SeqAt.shaped d = true ∧ SeqAt.shaped (.tuple ds) = true ∧ Q (.bl (ds.any fun z => PyData.eqv z d)) H) := by
  intro pins s σ H x y v u Q I rx ry h
  obtain ⟨d, ds, hd, he, sd, se, q⟩ := h
  obtain ⟨as, r1⟩ := Dp.reads I d x v hd rx
  obtain ⟨bs, r2⟩ := Dp.reads I (.tuple ds) y u he ry
  exact SeqAt.in_tuple_reads r2 r1 (SeqAt.canLay_of_shaped se) (SeqAt.canLay_of_shaped sd) (room_in_shaped sd hu) ⟨V.bl _, H, I, rfl, q⟩
theorem op_notInD2 (hu : X.A.units + 65 < cLine) : OpR X (compareOp .NotIn) (fun x y H Q => ∃ d ds, Dp X.K H x d ∧ Dp X.K H y (.tuple ds) ∧ SeqAt.shaped d = true ∧ SeqAt.shaped (.tuple ds) = true ∧ Q (.bl (!ds.any fun z => PyData.eqv z d)) H) := by
  intro pins s σ H x y v u Q I rx ry h
  obtain ⟨d, ds, hd, he, sd, se, q⟩ := h
  obtain ⟨as, r1⟩ := Dp.reads I d x v hd rx
  obtain ⟨bs, r2⟩ := Dp.reads I (.tuple ds) y u he ry
  exact SeqAt.notIn_tuple_reads r2 r1 (SeqAt.canLay_of_shaped se) (SeqAt.canLay_of_shaped sd) (room_in_shaped sd hu) ⟨V.bl _, H, I, rfl, q⟩
theorem dp_non {K : PySem.W.Frag} {H : Hp} {x : V} {a : PyData} (h : Rp K H x a) : decide (x = .non) = (match a with | .none => true | _ => false) := by
  cases h <;> simp
theorem inD_some {x y : PyData} {b : Bool} (h : inD x y = some b) : SeqAt.shaped x = true ∧ SeqAt.shaped y = true ∧ ((∃ ds, y = .list ds ∧ b = ds.any fun z => PyData.eqv z x) ∨ ∃ ds, y = .tuple ds ∧ b = ds.any fun z => PyData.eqv z x) := by
  cases y <;> simp only [inD] at h <;> (first | (cases h; done) | skip)
  · split at h
    · rename_i hz
      cases h
      rw [Bool.and_eq_true] at hz
      exact ⟨hz.1, hz.2, .inl ⟨_, rfl, rfl⟩⟩
    · cases h
  · split at h
    · rename_i hz
      cases h
      rw [Bool.and_eq_true] at hz
      exact ⟨hz.1, hz.2, .inr ⟨_, rfl, rfl⟩⟩
    · cases h
theorem eqD_some {x y : PyData} {b : Bool} (h : eqD x y = some b) : SeqAt.shaped x = true ∧ SeqAt.shaped y = true ∧ b = PyData.eqv x y := by
  unfold eqD at h
  split at h
  · rename_i hz
    cases h
    rw [Bool.and_eq_true] at hz
    exact ⟨hz.1, hz.2, rfl⟩
  · cases h
theorem op_cmpD (hu : X.A.units + 65 < cLine) : ∀ (op : CmpOp), OpR X (compareOp op) (rB X.K (cmpD op)) := by
  intro op pins s σ H x y v u Q I rx ry h
  obtain ⟨ω, S, a, b, z, W, da, db, e, q⟩ := h
  have da' := W.dp da
  have db' := W.dp db
  have hu' : X.A.units + 64 < cLine := by omega
  cases op with
  | Eq =>
    obtain ⟨h1, h2, rfl⟩ := eqD_some e
    exact op_eqD hu' pins s σ H x y v u Q I rx ry ⟨a, b, da', db', h1, h2, q⟩
  | NotEq =>
    obtain ⟨c, hc, rfl⟩ := Option.map_eq_some_iff.mp (show (eqD a b).map (!·) = some z from e)
    obtain ⟨h1, h2, rfl⟩ := eqD_some hc
    exact op_neD hu' pins s σ H x y v u Q I rx ry ⟨a, b, da', db', h1, h2, q⟩
  | In =>
    obtain ⟨h1, h2, h3⟩ := inD_some e
    rcases h3 with ⟨ds, rfl, rfl⟩ | ⟨ds, rfl, rfl⟩
    · exact op_inD hu pins s σ H x y v u Q I rx ry ⟨a, ds, da', db', h1, h2, q⟩
    · exact op_inD2 hu pins s σ H x y v u Q I rx ry ⟨a, ds, da', db', h1, h2, q⟩
  | NotIn =>
    obtain ⟨c, hc, rfl⟩ := Option.map_eq_some_iff.mp (show (inD a b).map (!·) = some z from e)
    obtain ⟨h1, h2, h3⟩ := inD_some hc
    rcases h3 with ⟨ds, rfl, rfl⟩ | ⟨ds, rfl, rfl⟩
    · exact op_notInD hu pins s σ H x y v u Q I rx ry ⟨a, ds, da', db', h1, h2, q⟩
    · exact op_notInD2 hu pins s σ H x y v u Q I rx ry ⟨a, ds, da', db', h1, h2, q⟩
  | Lt =>
    cases a <;> cases b <;> simp only [cmpD] at e <;> (first | (cases e; done) | skip)
    · cases da; cases db; cases e
      exact op_lt pins s σ H _ _ v u Q I rx ry ⟨_, _, rfl, rfl, q⟩
    · cases da; cases db; cases e
      exact op_lt_str pins s σ H _ _ v u Q I rx ry ⟨_, _, rfl, rfl, q⟩
  | LtE =>
    cases a <;> cases b <;> simp only [cmpD] at e <;> (first | (cases e; done) | skip)
    cases da; cases db; cases e
    exact op_le pins s σ H _ _ v u Q I rx ry ⟨_, _, rfl, rfl, q⟩
  | Gt =>
    cases a <;> cases b <;> simp only [cmpD] at e <;> (first | (cases e; done) | skip)
    cases da; cases db; cases e
    exact op_gt pins s σ H _ _ v u Q I rx ry ⟨_, _, rfl, rfl, q⟩
  | GtE =>
    cases a <;> cases b <;> simp only [cmpD] at e <;> (first | (cases e; done) | skip)
    cases da; cases db; cases e
    exact op_ge pins s σ H _ _ v u Q I rx ry ⟨_, _, rfl, rfl, q⟩
  | Is =>
    have hn := dp_non da
    cases b <;> cases a <;> simp only [cmpD] at e <;> (first | (cases e; done) | skip) <;> cases db <;> cases e <;> first
      | (refine op_isN pins s σ H x _ v u Q I rx ry ⟨rfl, ?_⟩; rw [hn]; exact q)
      | (cases da; exact op_isBl pins s σ H _ _ v u Q I rx ry ⟨_, _, rfl, rfl, q⟩)
  | IsNot =>
    have hn := dp_non da
    cases b <;> cases a <;> simp only [cmpD] at e <;> (first | (cases e; done) | skip) <;> cases db <;> cases e <;> first
      | (refine op_notN pins s σ H x _ v u Q I rx ry ⟨rfl, ?_⟩; rw [hn]; exact q)
      | (cases da; exact op_notBl pins s σ H _ _ v u Q I rx ry ⟨_, _, rfl, rfl, q⟩)
end
end VC

/-! VC2: built-in functions and methods. -/
namespace VC
open PySem PySem.Spec PyProof.Rows L2

/-- a call on values -/
def rC (K : PySem.W.Frag) (f : List PV → Store → Option PV) : List V → Hp → VK → Prop := fun vs H Q =>
  ∃ ω S ps p, Wok K ω S H ∧ RepAll K ω ps vs ∧ f ps S = some p ∧ Aft K ω S H p Q

section
variable {K : PySem.W.Frag} {ω : Wd} {H : Hp}
theorem dp_ints {L : Hp} : ∀ {vs : List V} {xs : List PyData} {ns : List Int}, RpAll K L vs xs → intsOf xs = some ns → vs = ns.map V.int ∧ xs = ns.map .int
  | _, _, ns, .nil, e => by cases e; exact ⟨rfl, rfl⟩
  | _, _, ns, .cons (x := d) h r, e => by
    cases d <;> simp only [intsOf] at e <;> (first | (cases e; done) | skip)
    obtain ⟨ms, e1, rfl⟩ := Option.map_eq_some_iff.mp e
    obtain ⟨h1, h2⟩ := dp_ints r e1
    cases h
    rw [h1, h2]
    exact ⟨rfl, rfl⟩
theorem dp_bls {L : Hp} : ∀ {vs : List V} {xs : List PyData} {ns : List Bool}, RpAll K L vs xs → blsOf xs = some ns → vs = ns.map V.bl
  | _, _, ns, .nil, e => by cases e; rfl
  | _, _, ns, .cons (x := d) h r, e => by
    cases d <;> simp only [blsOf] at e <;> (first | (cases e; done) | skip)
    obtain ⟨ms, e1, rfl⟩ := Option.map_eq_some_iff.mp e
    have h1 := dp_bls r e1
    cases h
    rw [h1]
    rfl
theorem dp_of_ints {L : Hp} : ∀ ns : List Int, RpAll K L (ns.map V.int) (ns.map .int)
  | [] => .nil
  | n :: r => .cons (.int n) (dp_of_ints r)
theorem sumI_eq : ∀ ns : List Int, sumI ns = ns.sum
  | [] => rfl
  | n :: r => by
    show n + sumI r = _
    rw [List.sum_cons, sumI_eq r]
theorem maxI_spec : ∀ {ns : List Int} {m : Int}, maxI ns = some m → m ∈ ns ∧ ∀ y, y ∈ ns → y ≤ m
  | [], _, e => by cases e
  | [x], m, e => by
    cases e
    exact ⟨List.mem_cons_self, fun y hy => by rw [List.mem_singleton.mp hy]; exact Int.le_refl _⟩
  | x :: z :: r, m, e => by
    obtain ⟨k, e1, rfl⟩ := Option.map_eq_some_iff.mp (show (maxI (z :: r)).map (fun m => if m < x then x else m) = some m from e)
    obtain ⟨h1, h2⟩ := maxI_spec e1
    by_cases hk : k < x
    · simp only [if_pos hk]
      refine ⟨List.mem_cons_self, fun y hy => ?_⟩
      rcases List.mem_cons.mp hy with rfl | hy
      · exact Int.le_refl _
      · have := h2 y hy; omega
    · simp only [if_neg hk]
      refine ⟨List.mem_cons_of_mem _ h1, fun y hy => ?_⟩
      rcases List.mem_cons.mp hy with rfl | hy
      · omega
      · exact h2 y hy
theorem minI_spec : ∀ {ns : List Int} {m : Int}, minI ns = some m → m ∈ ns ∧ ∀ y, y ∈ ns → m ≤ y
  | [], _, e => by cases e
  | [x], m, e => by
    cases e
    exact ⟨List.mem_cons_self, fun y hy => by rw [List.mem_singleton.mp hy]; exact Int.le_refl _⟩
  | x :: z :: r, m, e => by
    obtain ⟨k, e1, rfl⟩ := Option.map_eq_some_iff.mp (show (minI (z :: r)).map (fun m => if x < m then x else m) = some m from e)
    obtain ⟨h1, h2⟩ := minI_spec e1
    by_cases hk : x < k
    · simp only [if_pos hk]
      refine ⟨List.mem_cons_self, fun y hy => ?_⟩
      rcases List.mem_cons.mp hy with rfl | hy
      · exact Int.le_refl _
      · have := h2 y hy; omega
    · simp only [if_neg hk]
      refine ⟨List.mem_cons_of_mem _ h1, fun y hy => ?_⟩
      rcases List.mem_cons.mp hy with rfl | hy
      · omega
      · exact h2 y hy
theorem max_uniq {ns : List Int} {m k : Int} (h1 : m ∈ ns ∧ ∀ y, y ∈ ns → y ≤ m) (h2 : k ∈ ns) (h3 : ∀ y, y ∈ ns → y ≤ k) : k = m := by
  have := h1.2 k h2; have := h3 m h1.1; omega
theorem min_uniq {ns : List Int} {m k : Int} (h1 : m ∈ ns ∧ ∀ y, y ∈ ns → m ≤ y) (h2 : k ∈ ns) (h3 : ∀ y, y ∈ ns → k ≤ y) : k = m := by
  have := h1.2 k h2; have := h3 m h1.1; omega
theorem dp_seq {L : Hp} {x : PyData} {xs : List PyData} {v : V} (h : Rp K L v x) (e : seqOf x = some xs) : ∃ a vs, v = .ref a ∧ RpAll K L vs xs ∧ ((SqL K L a vs ∧ x = .list xs) ∨ (TupAt K L a vs ∧ x = .tuple xs)) := by
  cases x <;> simp only [seqOf] at e <;> (first | (cases e; done) | skip)
  · cases e
    cases h with
    | lst h r => exact ⟨_, _, rfl, r, .inl ⟨h, rfl⟩⟩
  · cases e
    cases h with
    | tup h r => exact ⟨_, _, rfl, r, .inr ⟨h, rfl⟩⟩
theorem itemsRng_len : ∀ (n : Nat) (lo : Int), (itemsRng lo n).length = n
  | 0, _ => rfl
  | n + 1, lo => by show (itemsRng (lo + 1) n).length + 1 = n + 1; rw [itemsRng_len n]
theorem dp_rng {L : Hp} : ∀ (n : Nat) (lo : Int), RpAll K L ((List.range n).map fun i => V.int (lo + (i : Nat))) (itemsRng lo n)
  | 0, _ => .nil
  | n + 1, lo => by
    rw [List.range_succ_eq_map, List.map_cons, List.map_map]
    refine RpAll.cons (by simpa using Rp.int lo) ?_
    have h := dp_rng (L := L) n (lo + 1)
    have e : ((fun i : Nat => V.int (lo + (i : Nat))) ∘ Nat.succ) = fun i : Nat => V.int (lo + 1 + (i : Nat)) := by
      funext i
      show V.int (lo + ((i + 1 : Nat) : Int)) = _
      congr 1
      omega
    rw [e]
    exact h
theorem repAll1 {p : PV} {vs : List V} (h : RepAll K ω [p] vs) : ∃ v, vs = [v] ∧ Rep K ω p v := by
  cases h with
  | cons h r => cases r; exact ⟨_, rfl, h⟩
theorem repAll2 {p q : PV} {vs : List V} (h : RepAll K ω [p, q] vs) : ∃ v u, vs = [v, u] ∧ Rep K ω p v ∧ Rep K ω q u := by
  cases h with
  | cons h r => cases r with
    | cons h' r => cases r; exact ⟨_, _, rfl, h, h'⟩
end

def bltV : Blt → Value
  | .len => .builtin "len" | .tuple => .type "tuple" | .list => .type "list" | .range => .type "range" | .sorted => .builtin "sorted" | .sum => .builtin "sum"
  | .max => .builtin "max" | .min => .builtin "min" | .int => .type "int" | .str => .type "str" | .all => .builtin "all" | .any => .builtin "any"
def bltN : Blt → Str
  | .len => "len" | .tuple => "tuple" | .list => "list" | .range => "range" | .sorted => "sorted" | .sum => "sum"
  | .max => "max" | .min => "min" | .int => "int" | .str => "str" | .all => "all" | .any => "any"

section
variable {X : Cx}
theorem small_b {i : Int} (h : small i = true) : -(2 ^ 62) ≤ i ∧ i < 2 ^ 62 := by
  unfold small at h
  rw [Bool.and_eq_true, decide_eq_true_eq, decide_eq_true_eq] at h
  exact h
theorem blt_len : CallR X (.builtin "len") (rC X.K (bltD .len)) := by
  intro pins s σ H xs us Q I r h
  obtain ⟨ω, S, ps, p, W, rp, e, q⟩ := h
  unfold bltD at e
  split at e <;> (first | (cases e; done) | skip) <;> rename_i h1 <;> cases h1
  · obtain ⟨v, rfl, rv⟩ := repAll1 rp
    cases rv
    split at e
    · rename_i hz
      cases e
      exact call_len_str pins s σ H _ us Q I r ⟨_, rfl, line10 (by omega), q.now W (Rp.int _)⟩
    · cases e
  · obtain ⟨v, rfl, rv⟩ := repAll1 rp
    obtain ⟨xs, e1, rfl⟩ := Option.map_eq_some_iff.mp e
    obtain ⟨a, vs, rfl, rr, hh⟩ := dp_seq rv e1
    refine call_len_seq pins s σ H _ us Q I r ⟨a, vs, rfl, ?_, ?_⟩
    · rcases hh with ⟨h, _⟩ | ⟨h, _⟩
      · exact .inl (W.sub.seq h)
      · exact .inr (same_tup W.sub h).sq
    · rw [dpAll_len rr]
      exact q.now W (Rp.int _)
theorem rng_ok {lo hi : Int} {n : Nat} (h : (small lo && small hi && fits n) = true) : (-(2 ^ 62) ≤ lo ∧ lo < 2 ^ 62) ∧ (-(2 ^ 62) ≤ hi ∧ hi < 2 ^ 62) ∧ n ≤ 100000 := by
  rw [Bool.and_eq_true, Bool.and_eq_true] at h
  exact ⟨small_b h.1.1, small_b h.1.2, of_decide_eq_true h.2⟩
theorem blt_tuple (hc : X.calm = true) : CallR X (.type "tuple") (rC X.K (bltD .tuple)) := by
  intro pins s σ H xs us Q I r h
  obtain ⟨ω, S, ps, p, W, rp, e, q⟩ := h
  unfold bltD at e
  split at e <;> (first | (cases e; done) | skip) <;> rename_i h1 <;> cases h1
  · obtain ⟨v, rfl, rv⟩ := repAll1 rp
    obtain ⟨xs, e1, rfl⟩ := Option.map_eq_some_iff.mp e
    obtain ⟨a, vs, rfl, rr, hh⟩ := dp_seq rv e1
    rcases hh with ⟨h, _⟩ | ⟨h, e⟩
    · obtain ⟨its, ri, pl, hz⟩ := I.list (W.sub.seq h)
      rw [Vals.ref1 r]
      refine call_tuple_list pl.isList (fun h' k => ?_) (by rw [List.size_toArray, ← ri.length]; exact hz)
      exact tup_new (s := { s with heap := h' }) (tk := s.toks) (I.kept (t' := s.toks) k) ri hz (q.tup W rr)
    · exact call_tuple_of pins s σ H _ us Q I r ⟨a, vs, rfl, .inr ⟨(same_tup W.sub h).sq, q.now W (Rp.tup h rr)⟩⟩
  · obtain ⟨v, rfl, a, rfl, ha⟩ := repAll1 rp
    split at e
    · rename_i hz
      cases e
      refine (fun (lo hi : Int) (S : Store) (W : Wok X.K ω S H) (ha : ω.L a = some (.rng lo hi)) (hz : (small lo && small hi && fits (hi - lo).toNat) = true) (q : Aft X.K ω S H (.d (.tuple (itemsRng lo (hi - lo).toNat))) Q) => ?_ : ∀ (lo hi : Int) (S : Store), Wok X.K ω S H → ω.L a = some (.rng lo hi) → (small lo && small hi && fits (hi - lo).toNat) = true → Aft X.K ω S H (.d (.tuple (itemsRng lo (hi - lo).toNat))) Q → wpAny (model X.prog X.w) X.A (call (.type "tuple") us) (EP X pins σ Q) X.xe s) _ _ _ W ha hz q
      obtain ⟨⟨b1, b2⟩, ⟨b3, b4⟩, b5⟩ := rng_ok hz
      obtain ⟨t, u, w', hr⟩ := I.hok a _ (W.sub _ _ ha)
      rw [Vals.ref1 r]
      refine call_tuple_range (n := (hi - lo).toNat) (I.ok.hd hc) hr (small_one b1 b2 b3 b4) (rangeSize_nat lo hi) (by omega) fun h' tk acc hk hi' => ?_
      have I2 : L2.Inv X pins σ H { s with heap := h', toks := tk } := I.kept hk
      have dd := dp_rng (K := X.K) (L := ω.L) (hi - lo).toNat lo
      have fin := tup_new (tk := tk) I2 (vals_rg hi') (by rw [rgV_length, sizeLine_eq]; omega) (q.tup W dd)
      rw [tupO, Array.toArray_toList] at fin
      exact fin
    · cases e
theorem blt_list (hc : X.calm = true) : CallR X (.type "list") (rC X.K (bltD .list)) := by
  intro pins s σ H xs us Q I r h
  obtain ⟨ω, S, ps, p, W, rp, e, q⟩ := h
  unfold bltD at e
  split at e <;> (first | (cases e; done) | skip) <;> rename_i h1 <;> cases h1
  · obtain ⟨v, rfl, rv⟩ := repAll1 rp
    obtain ⟨xs, e1, rfl⟩ := Option.map_eq_some_iff.mp e
    obtain ⟨a, vs, rfl, rr, hh⟩ := dp_seq rv e1
    refine call_list_of pins s σ H _ us Q I r ⟨a, vs, rfl, ?_, q.lst W rr⟩
    rcases hh with ⟨h, _⟩ | ⟨h, _⟩
    · exact .inl (W.sub.seq h)
    · exact .inr (same_tup W.sub h).sq
  · obtain ⟨v, rfl, a, rfl, ha⟩ := repAll1 rp
    split at e
    · rename_i hz
      cases e
      refine (fun (lo hi : Int) (S : Store) (W : Wok X.K ω S H) (ha : ω.L a = some (.rng lo hi)) (hz : (small lo && small hi && fits (hi - lo).toNat) = true) (q : Aft X.K ω S H (.d (.list (itemsRng lo (hi - lo).toNat))) Q) => ?_ : ∀ (lo hi : Int) (S : Store), Wok X.K ω S H → ω.L a = some (.rng lo hi) → (small lo && small hi && fits (hi - lo).toNat) = true → Aft X.K ω S H (.d (.list (itemsRng lo (hi - lo).toNat))) Q → wpAny (model X.prog X.w) X.A (call (.type "list") us) (EP X pins σ Q) X.xe s) _ _ _ W ha hz q
      obtain ⟨⟨b1, b2⟩, ⟨b3, b4⟩, b5⟩ := rng_ok hz
      obtain ⟨t, u, w', hr⟩ := I.hok a _ (W.sub _ _ ha)
      rw [Vals.ref1 r]
      refine call_list_range (n := (hi - lo).toNat) (I.ok.hd hc) hr (small_one b1 b2 b3 b4) (rangeSize_nat lo hi) (by omega) fun h' tk acc c' hk e' hi' => ?_
      have dd := dp_rng (K := X.K) (L := ω.L) (hi - lo).toNat lo
      have new : ObjOk X.prog X.w (upd H s.heap.objs.size (.lst (rgV lo hi))) h' s.heap.objs.size (.lst (rgV lo hi)) := by
        refine ⟨by rw [rgV_length, sizeLine_eq]; omega, acc.toList, c', vals_rg hi', ?_⟩
        rw [Array.toArray_toList]
        exact e'
      exact ⟨.ref s.heap.objs.size, upd H s.heap.objs.size (.lst (rgV lo hi)), I.laid (t' := tk) hk (Nat.le_refl _) new, rfl, q.lst W dd _ I.fresh⟩
    · cases e
theorem blt_range : CallR X (.type "range") (rC X.K (bltD .range)) := by
  intro pins s σ H xs us Q I r h
  obtain ⟨ω, S, ps, p, W, rp, e, q⟩ := h
  have lay : ∀ (lo hi : Int) (t u v : Tok) (tk : Nat), Aft X.K ω S H (.rng lo hi) Q → EP X pins σ Q (.ref s.heap.objs.size) { s with heap := s.heap.push { cls := .type "range", data := .fields #[.int lo t, .int hi u, .int 1 v] }, toks := tk } := fun lo hi t u v tk q =>
    ⟨.ref s.heap.objs.size, upd H s.heap.objs.size (.rng lo hi), I.laid (fun _ _ z => Heap.get?_push_of_some _ z) (Nat.le_refl _) ⟨t, u, v, Heap.get?_push_size _ rfl⟩, rfl, q.rng W _ I.fresh⟩
  unfold bltD at e
  split at e <;> (first | (cases e; done) | skip) <;> rename_i h1 <;> cases h1
  · obtain ⟨v, rfl, rv⟩ := repAll1 rp
    split at e
    · cases e
      cases rv
      obtain ⟨u, rfl, t, rfl⟩ := vals1 r
      exact call_range_1 (lay _ _ _ _ _ _ q)
    · cases e
  · obtain ⟨v, u, rfl, rv, ru⟩ := repAll2 rp
    split at e
    · cases e
      cases rv
      cases ru
      obtain ⟨u1, u2, rfl, ⟨t, rfl⟩, ⟨t', rfl⟩⟩ := vals2 r
      exact call_range_2 (lay _ _ _ _ _ _ q)
    · cases e
theorem blt_sum (hc : X.calm = true) : CallR X (.builtin "sum") (rC X.K (bltD .sum)) := by
  intro pins s σ H xs us Q I r h
  obtain ⟨ω, S, ps, p, W, rp, e, q⟩ := h
  unfold bltD at e
  split at e <;> (first | (cases e; done) | skip) <;> rename_i h1 <;> cases h1
  obtain ⟨v, rfl, rv⟩ := repAll1 rp
  obtain ⟨ns, e1, rfl⟩ := Option.map_eq_some_iff.mp e
  cases rv with
  | lst h r' =>
    obtain ⟨rfl, _⟩ := dp_ints r' e1
    refine cr_sum hc pins s σ H _ us Q I r ⟨_, ns, rfl, W.sub.seq h, ?_⟩
    rw [← sumI_eq]
    exact q.now W (Rp.int _)
theorem blt_max (hc : X.calm = true) : CallR X (.builtin "max") (rC X.K (bltD .max)) := by
  intro pins s σ H xs us Q I r h
  obtain ⟨ω, S, ps, p, W, rp, e, q⟩ := h
  unfold bltD at e
  split at e <;> (first | (cases e; done) | skip) <;> rename_i h1 <;> cases h1
  obtain ⟨v, rfl, rv⟩ := repAll1 rp
  obtain ⟨m, e0, rfl⟩ := Option.map_eq_some_iff.mp e
  obtain ⟨ns, e1, e2⟩ := Option.bind_eq_some_iff.mp e0
  cases rv with
  | lst h r' =>
    obtain ⟨rfl, _⟩ := dp_ints r' e1
    have sp := maxI_spec e2
    refine cr_max hc pins s σ H _ us Q I r ⟨_, ns, rfl, W.sub.seq h, List.length_pos_of_mem sp.1, fun k h2 h3 => ?_⟩
    rw [max_uniq sp h2 h3]
    exact q.now W (Rp.int _)
theorem blt_min (hc : X.calm = true) : CallR X (.builtin "min") (rC X.K (bltD .min)) := by
  intro pins s σ H xs us Q I r h
  obtain ⟨ω, S, ps, p, W, rp, e, q⟩ := h
  unfold bltD at e
  split at e <;> (first | (cases e; done) | skip) <;> rename_i h1 <;> cases h1
  obtain ⟨v, rfl, rv⟩ := repAll1 rp
  obtain ⟨m, e0, rfl⟩ := Option.map_eq_some_iff.mp e
  obtain ⟨ns, e1, e2⟩ := Option.bind_eq_some_iff.mp e0
  cases rv with
  | lst h r' =>
    obtain ⟨rfl, _⟩ := dp_ints r' e1
    have sp := minI_spec e2
    refine cr_min hc pins s σ H _ us Q I r ⟨_, ns, rfl, W.sub.seq h, List.length_pos_of_mem sp.1, fun k h2 h3 => ?_⟩
    rw [min_uniq sp h2 h3]
    exact q.now W (Rp.int _)
theorem blt_int : CallR X (.type "int") (rC X.K (bltD .int)) := by
  intro pins s σ H xs us Q I r h
  obtain ⟨ω, S, ps, p, W, rp, e, q⟩ := h
  unfold bltD at e
  split at e <;> (first | (cases e; done) | skip) <;> rename_i h1 <;> cases h1 <;> cases e <;> obtain ⟨v, rfl, rv⟩ := repAll1 rp <;> cases rv
  · exact call_int1 pins s σ H _ us Q I r (.inl ⟨_, rfl, q.now W (Rp.int _)⟩)
  · exact call_int1 pins s σ H _ us Q I r (.inr ⟨_, rfl, q.now W (Rp.int _)⟩)
theorem blt_all (hc : X.calm = true) : CallR X (.builtin "all") (rC X.K (bltD .all)) := by
  intro pins s σ H xs us Q I r h
  obtain ⟨ω, S, ps, p, W, rp, e, q⟩ := h
  unfold bltD at e
  split at e <;> (first | (cases e; done) | skip) <;> rename_i h1 <;> cases h1
  obtain ⟨v, rfl, rv⟩ := repAll1 rp
  obtain ⟨ns, e1, rfl⟩ := Option.map_eq_some_iff.mp e
  cases rv with
  | lst h r' =>
    obtain rfl := dp_bls r' e1
    exact cr_all hc pins s σ H _ us Q I r ⟨_, ns, rfl, W.sub.seq h, q.now W (Rp.bl _)⟩
theorem blt_any (hc : X.calm = true) : CallR X (.builtin "any") (rC X.K (bltD .any)) := by
  intro pins s σ H xs us Q I r h
  obtain ⟨ω, S, ps, p, W, rp, e, q⟩ := h
  unfold bltD at e
  split at e <;> (first | (cases e; done) | skip) <;> rename_i h1 <;> cases h1
  obtain ⟨v, rfl, rv⟩ := repAll1 rp
  obtain ⟨ns, e1, rfl⟩ := Option.map_eq_some_iff.mp e
  cases rv with
  | lst h r' =>
    obtain rfl := dp_bls r' e1
    exact cr_any hc pins s σ H _ us Q I r ⟨_, ns, rfl, W.sub.seq h, q.now W (Rp.bl _)⟩
end
end VC

/-! VC3: sorted of a list or a tuple of data. -/
namespace VC
open PySem PySem.Spec PyProof.Rows L2 SrtO

section
variable {prog : Program} {w : World} {A : Around} {E : Value → Shared → Prop} {s : Shared}
theorem sorted_any {l : Addr} {o : Obj} {T : String} {n : Nat} {vs : List Value} {ltv : Value → Value → Bool} {Q : Value → Shared → Prop} (O : Swo ltv) (hT : T = "list" ∨ T = "tuple")
    (ho : s.heap.get? l = some o) (hc : o.cls = .type T) (hd : o.data = .seq vs.toArray n) (hz : vs.length ≤ sizeLine)
    (hS : 2 ≤ vs.length → ∀ (h1 : Heap) (a : Addr), h1.get? a = some (seqObj "list" vs.toArray 0) → (∀ b u, s.heap.get? b = some u → b ≠ a ∧ h1.get? b = some u) → SortableO prog w A.in1.in1 { s with heap := h1 } a vs ltv)
    (h : ∀ (h2 h' : Heap) (out : List Value), Srtd ltv out → Stb ltv out vs → (∀ b u, s.heap.get? b = some u → h2.get? b = some u) → (∀ b u, h2.get? b = some u → h'.get? b = some u) → (∃ k, h'.get? h2.objs.size = some (seqObj "list" out.toArray k)) → Q (.ref h2.objs.size) { s with heap := h' }) :
    wpAny (model prog w) A (call (.builtin "sorted") [.ref l]) Q E s := by
  refine Calls.call_function_entry kind_sorted plain_sorted entry_sorted (args_sorted1 _) ?_
  unfold Builtin.«sorted»
  refine wpAny_bind (m := checkCount "sorted" 1 1 _) (wpAny_pure ?_)
  refine wpAny_bind (wpAny_collect_seq l hT ho hc hd (hsz := by rw [List.size_toArray]; exact hz) fun h2 k2 => ?_)
  have e0 : vs.toArray.toList = vs := rfl
  rw [e0]
  refine wpAny_bind (wpAny_newList ?_ hz)
  have hoL : (h2.push { cls := .type "list", data := .seq vs.toArray }).get? h2.objs.size = some (seqObj "list" vs.toArray 0) := Heap.get?_push_size _ rfl
  have kp : ∀ b u, h2.get? b = some u → b ≠ h2.objs.size ∧ (h2.push { cls := .type "list", data := .seq vs.toArray }).get? b = some u := fun b u q =>
    ⟨Nat.ne_of_lt (Heap.lt_size q), Heap.get?_push_of_some _ q⟩
  refine wpAny_bind (wpAny_holding (wpAny_call_entry slot_list_sort ⟨_, hoL, rfl⟩ entry_list_sort (list_sort_ord O hoL hz (fun h2' => hS h2' _ _ hoL fun b u q => kp b u (k2 b u q)) fun out hs hb => ⟨_, rfl, ?_⟩) (args_list_sort _)))
  refine wpAny_pure ⟨_, rfl, h h2 _ out hs hb k2 (fun b u q => ?_) ?_⟩
  · obtain ⟨ne, q'⟩ := kp b u q
    rw [sortedHeap_old ne (Heap.lt_size q')]
    exact q'
  · exact sortedHeap_at hoL
end

/-! ### tuples of ints, by their ints -/
theorem lex_asym : ∀ xs ys : List Int, HT.lexLt xs ys = true → HT.lexLt ys xs = false
  | [], [], h => by cases h
  | [], _ :: _, _ => rfl
  | _ :: _, [], h => by cases h
  | x :: xs, y :: ys, h => by
    rw [HT.lexLt_cons] at h ⊢
    by_cases e : x = y
    · rw [if_pos e] at h
      rw [if_pos e.symm]
      exact lex_asym xs ys h
    · rw [if_neg e] at h
      rw [if_neg fun z => e z.symm]
      have := of_decide_eq_true h
      exact decide_eq_false (by omega)
theorem lex_tr : ∀ xs ys zs : List Int, HT.lexLt ys xs = false → HT.lexLt zs ys = false → HT.lexLt zs xs = false
  | [], ys, zs, _, _ => by cases zs <;> rfl
  | x :: xs, [], zs, h, _ => by cases h
  | x :: xs, y :: ys, [], _, h => by cases h
  | x :: xs, y :: ys, z :: zs, h1, h2 => by
    rw [HT.lexLt_cons] at h1 h2 ⊢
    by_cases e1 : y = x
    · rw [if_pos e1] at h1
      by_cases e2 : z = y
      · rw [if_pos e2] at h2
        rw [if_pos (e2.trans e1)]
        exact lex_tr xs ys zs h1 h2
      · rw [if_neg e2] at h2
        have := of_decide_eq_false h2
        rw [if_neg (by omega)]
        exact decide_eq_false (by omega)
    · rw [if_neg e1] at h1
      have := of_decide_eq_false h1
      by_cases e2 : z = y
      · rw [if_neg (by omega)]
        exact decide_eq_false (by omega)
      · rw [if_neg e2] at h2
        have := of_decide_eq_false h2
        rw [if_neg (by omega)]
        exact decide_eq_false (by omega)
theorem lex_anti : ∀ xs ys : List Int, HT.lexLt ys xs = false → HT.lexLt xs ys = false → xs = ys
  | [], [], _, _ => rfl
  | [], _ :: _, _, h => by cases h
  | _ :: _, [], h, _ => by cases h
  | x :: xs, y :: ys, h1, h2 => by
    rw [HT.lexLt_cons] at h1 h2
    by_cases e : x = y
    · rw [if_pos e.symm] at h1
      rw [if_pos e] at h2
      rw [e, lex_anti xs ys h1 h2]
    · rw [if_neg fun z => e z.symm] at h1
      rw [if_neg e] at h2
      have := of_decide_eq_false h1
      have := of_decide_eq_false h2
      omega
theorem lex_swo {α : Type} (k : α → List Int) : Swo fun v u => HT.lexLt (k v) (k u) := ⟨fun x y => lex_asym _ _, fun x y z => lex_tr _ _ _⟩

/-! insertion -/
section
variable {α : Type} {lt : α → α → Bool}
theorem ins_perm (x : α) : ∀ l : List α, (ins lt x l).Perm (x :: l)
  | [] => List.Perm.refl _
  | y :: r => by
    unfold ins
    split
    · exact ((ins_perm x r).cons y).trans (List.Perm.swap x y r)
    · exact List.Perm.refl _
theorem isort_perm : ∀ l : List α, (isort lt l).Perm l
  | [] => List.Perm.refl _
  | x :: r => (ins_perm x _).trans ((isort_perm r).cons x)
theorem ins_srt (O : Swo lt) (x : α) : ∀ l : List α, Srtd lt l → Srtd lt (ins lt x l)
  | [], _ => List.pairwise_singleton _ _
  | y :: r, h => by
    obtain ⟨h1, h2⟩ := List.pairwise_cons.mp h
    unfold ins
    split
    · rename_i hy
      refine List.pairwise_cons.mpr ⟨fun z hz => ?_, ins_srt O x r h2⟩
      rcases List.mem_cons.mp ((ins_perm x r).mem_iff.mp hz) with rfl | hz
      · exact O.asym _ _ hy
      · exact h1 z hz
    · rename_i hy
      have hy' : lt y x = false := by simpa using hy
      refine List.pairwise_cons.mpr ⟨fun z hz => ?_, h⟩
      rcases List.mem_cons.mp hz with rfl | hz
      · exact hy'
      · exact O.tr _ _ _ hy' (h1 z hz)
theorem isort_srt (O : Swo lt) : ∀ l : List α, Srtd lt (isort lt l)
  | [] => List.Pairwise.nil
  | x :: r => ins_srt O x _ (isort_srt O r)
/-- two sorted arrangements of the same items are one where the order tells all items apart -/
theorem srt_uniq (O : Swo lt) (anti : ∀ x y, lt y x = false → lt x y = false → x = y) {l m : List α} (h : Srtd lt l) (p : l.Perm m) : l = isort lt m :=
  List.Perm.eq_of_pairwise (le := fun x y => lt y x = false) (fun a b _ _ h1 h2 => anti a b h1 h2) h (isort_srt O m) (p.trans (isort_perm m).symm)
end

section
variable {prog : Program} {w : World} {A : Around} {E : Value → Shared → Prop} {s : Shared}
def TupI (h : Heap) (v : Value) (ns : List Int) : Prop := ∃ a o xs n, v = .ref a ∧ h.get? a = some o ∧ o.cls = .type "tuple" ∧ o.data = .seq xs n ∧ IntsAre xs.toList ns
theorem ints_len : ∀ {xs : List Value} {ns : List Int}, IntsAre xs ns → xs.length = ns.length
  | _, _, .nil => rfl
  | _, _, .cons _ _ r => by rw [List.length_cons, List.length_cons, ints_len r]
theorem kat_ints {Q : Bool → Shared → Prop} {fin : Bool} : ∀ (xs ys : List Value) (ns ms : List Int) (i : Nat), IntsAre xs ns → IntsAre ys ms → fin = decide (ns.length < ms.length) → Q (HT.lexLt ns ms) s →
    PySem.W.KatLex prog w A true fin Q (xs.zip ys) i s
  | _, _, _, _, i, .nil, .nil, hf, h => by
    refine PySem.W.kat_nil ?_
    rw [hf]
    exact h
  | _, _, _, _, i, .nil, .cons _ _ _, hf, h => by
    refine PySem.W.kat_nil ?_
    rw [hf]
    exact h
  | _, _, _, _, i, .cons _ _ _, .nil, hf, h => by
    refine PySem.W.kat_nil ?_
    rw [hf]
    exact h
  | _, _, _, _, i, .cons x t (vs := xs) (ns := ns) hx, .cons y u (vs := ys) (ns := ms) hy, hf, h => by
    rw [HT.lexLt_cons] at h
    refine PySem.W.kat_cons (SeqAt.EqAt.int_int x t y u prog w _ _ ?_)
    refine PySem.W.kat_go (fun e1 => ?_) (fun e1 => ?_)
    · have ex : x = y := by simpa using e1
      rw [if_pos ex] at h
      refine PySem.W.kat_yes (kat_ints xs ys ns ms (i + 1) hx hy ?_ h)
      rw [hf, List.length_cons, List.length_cons]
      by_cases q : ns.length < ms.length
      · rw [decide_eq_true q, decide_eq_true (by omega)]
      · rw [decide_eq_false q, decide_eq_false (by omega)]
    · have ex : ¬ x = y := by simpa using e1
      rw [if_neg ex] at h
      refine PySem.W.kat_no ?_
      by_cases hi : i = 0
      · subst hi
        exact oneLt_int h
      · have e2 : (true && i == 0) = false := by simp [hi]
        rw [e2]
        exact PySem.W.kat_one _ _ (PyProof.Rows.lt_int h)
theorem tup_cmp {vs : List Value} {k : Value → List Int} (hp : ∀ v ∈ vs, TupI s.heap v (k v)) : Cmp prog w A s (tuples' true) (fun p => p.1 ∈ vs) (lt2 fun v u => HT.lexLt (k v) (k u)) := by
  intro p q hm hm'
  obtain ⟨a, o, xs, n, e, ho, hc, hd, hi⟩ := hp _ hm
  obtain ⟨a', o', xs', n', e', ho', hc', hd', hi'⟩ := hp _ hm'
  show wpAny (model prog w) A (keyLt' (tuples' true) p.1 q.1) (fun r s' => s' = s ∧ r = HT.lexLt (k p.1) (k q.1)) (fun _ _ => False) s
  generalize k p.1 = K1 at *
  generalize k q.1 = K2 at *
  rw [e, e']
  refine PySem.W.kat_lt ho hd ho' hd' (kat_ints _ _ _ _ 0 hi hi' ?_ ⟨rfl, rfl⟩)
  rw [← ints_len hi, ← ints_len hi', Array.length_toList, Array.length_toList]
theorem kat_firsts {h : Heap} {k : Value → List Int} : ∀ (vs : List Value), (∀ v ∈ vs, TupI h v (k v) ∧ k v ≠ []) → ∃ fs, PySem.W.KatTups h vs fs ∧ fs.length = vs.length ∧ ∀ f ∈ fs, ∃ x t, f = Value.int x t
  | [], _ => ⟨[], PySem.W.KatTups.nil, rfl, fun _ h => nomatch h⟩
  | v :: vs, hv => by
    obtain ⟨fs, h1, h2, h3⟩ := kat_firsts vs fun u hu => hv u (List.mem_cons_of_mem _ hu)
    obtain ⟨⟨a, o, xs, n, rfl, ho, hc, hd, hi⟩, hne⟩ := hv v List.mem_cons_self
    obtain ⟨l⟩ := xs
    generalize k (Value.ref a) = kk at hi hne
    cases hi with
    | nil => exact absurd rfl hne
    | cons x t r =>
      refine ⟨Value.int x t :: fs, PySem.W.KatTups.cons ho hc hd rfl h1, by rw [List.length_cons, List.length_cons, h2], fun f hf => ?_⟩
      rcases List.mem_cons.mp hf with rfl | hf
      · exact ⟨x, t, rfl⟩
      · exact h3 f hf
theorem TupI.keeps {h h' : Heap} {v : Value} {ns : List Int} (x : TupI h v ns) (k : ∀ b o, h.get? b = some o → o.cls = .type "tuple" → h'.get? b = some o) : TupI h' v ns :=
  let ⟨a, o, xs, n, e, ho, hc, r⟩ := x; ⟨a, o, xs, n, e, k a o ho hc, hc, r⟩
theorem tups_sortable {a : Addr} {vs : List Value} {k : Value → List Int} (h0 : 0 < vs.length) (hp : ∀ v ∈ vs, TupI s.heap v (k v) ∧ k v ≠ []) (ha : ∀ o, s.heap.get? a = some o → o.cls ≠ .type "tuple") :
    SortableO prog w A s a vs fun v u => HT.lexLt (k v) (k u) := by
  intro h' keep
  have hp' : ∀ v ∈ vs, TupI h' v (k v) ∧ k v ≠ [] := fun v hm => ⟨(hp v hm).1.keeps fun b o e c => keep b o (fun z => by subst z; exact ha o e c) e, (hp v hm).2⟩
  obtain ⟨fs, h1, h2, h3⟩ := kat_firsts vs hp'
  refine ⟨tuples' true, fun Q E hq => ?_, tup_cmp fun v hm => (hp' v hm).1⟩
  refine PySem.W.kat_kind (T := .type "int") h1 (by omega) (fun f hm => ?_) (by rfl) ?_
  · obtain ⟨x, t, rfl⟩ := h3 f hm
    exact PySem.W.Looks.now
  · have e : (Value.type "int" != Value.type "tuple") = true := by decide +kernel
    rw [e]
    exact hq
end

/-- the ints that a tuple's address stands for -/
def addrOf : Value → Addr
  | .ref a => a
  | _ => 0
section
variable {X : Cx}
theorem seq_obj {pins : List (Addr × Obj)} {s : Shared} {σ : L2.St} {H : Hp} {a : Addr} {vs : List V} (I : L2.Inv X pins σ H s) (hs : SqL X.K H a vs ∨ SqT X.K H a vs) :
    ∃ (its : List Value) (T : String) (o : Obj) (n : Nat), Vals vs its ∧ (T = "list" ∨ T = "tuple") ∧ s.heap.get? a = some o ∧ o.cls = .type T ∧ o.data = .seq its.toArray n ∧ vs.length ≤ sizeLine := by
  rcases hs with hs | hs
  · obtain ⟨its, rv, ⟨o, n, ho, hc, _, hd⟩, hz⟩ := I.list hs
    exact ⟨its, "list", o, n, rv, .inl rfl, ho, hc, hd, hz⟩
  · obtain ⟨its, rv, ⟨o, ho, hc, n, hd⟩, hz⟩ := I.tuple hs
    exact ⟨its, "tuple", o, n, rv, .inr rfl, ho, hc, hd, hz⟩
/-- sorted, of a list or a tuple at a, by any order that sorts its values -/
theorem call_sortedAny {pins : List (Addr × Obj)} {s : Shared} {σ : L2.St} {H : Hp} {a : Addr} {vs : List V} {its : List Value} {T : String} {o : Obj} {n : Nat} {Q : VK} {ltv : Value → Value → Bool} (I : L2.Inv X pins σ H s) (O : Swo ltv)
    (rv : Vals vs its) (hT : T = "list" ∨ T = "tuple") (ho : s.heap.get? a = some o) (hc : o.cls = .type T) (hd : o.data = .seq its.toArray n) (hz : vs.length ≤ sizeLine)
    (hS : ∀ (A : Around) (h1 : Heap) (d : Addr), 2 ≤ its.length → h1.get? d = some (seqObj "list" its.toArray 0) → (∀ b u, s.heap.get? b = some u → b ≠ d ∧ h1.get? b = some u) → SortableO X.prog X.w A { s with heap := h1 } d its ltv)
    (h : ∀ (out : List Value), Srtd ltv out → Stb ltv out its → ∃ ws, Vals ws out ∧ ∀ d, H d = none → Q (.ref d) (upd H d (.lst ws))) :
    wpAny (model X.prog X.w) X.A (call (.builtin "sorted") [.ref a]) (EP X pins σ Q) X.xe s := by
  have hl := rv.length
  refine sorted_any O hT ho hc hd (by rw [← hl]; exact hz) (fun h2 h1 d => hS _ h1 d h2) fun h2 h' out hs' hb k2 k3 hat => ?_
  obtain ⟨k, hk⟩ := hat
  obtain ⟨ws, hws, q⟩ := h out hs' hb
  have I1 : L2.Inv X pins σ H { s with heap := h2 } := I.kept (t' := s.toks) k2
  have hlen : ws.length = vs.length := by rw [hws.length, hb.perm.length_eq, hl]
  exact ⟨.ref h2.objs.size, upd H h2.objs.size (.lst ws), I1.laid (t' := s.toks) k3 (Nat.le_refl _) ⟨by rw [hlen]; exact hz, out, k, hws, hk⟩, rfl, q _ I1.fresh⟩

theorem ints_uniq : ∀ {xs : List Value} {ns ms : List Int}, IntsAre xs ns → IntsAre xs ms → ns = ms
  | _, _, _, .nil, .nil => rfl
  | _, _, _, .cons _ _ r, .cons _ _ r' => by rw [ints_uniq r r']
theorem TupI.uniq {h : Heap} {v : Value} {ns ms : List Int} (x : TupI h v ns) (y : TupI h v ms) : ns = ms := by
  obtain ⟨a, o, xs, n, rfl, ho, hc, hd, hi⟩ := x
  obtain ⟨a', o', xs', n', e, ho', hc', hd', hi'⟩ := y
  cases e
  rw [ho] at ho'
  cases ho'
  rw [hd] at hd'
  cases hd'
  exact ints_uniq hi hi'
open Classical in
noncomputable def kOf (h : Heap) (v : Value) : List Int := if x : ∃ ns, TupI h v ns then x.choose else []
theorem kOf_eq {h : Heap} {v : Value} {ns : List Int} (x : TupI h v ns) : kOf h v = ns := by
  have e : ∃ ns, TupI h v ns := ⟨ns, x⟩
  unfold kOf
  rw [dif_pos e]
  exact e.choose_spec.uniq x
theorem dp_tups {L : Hp} {K : PySem.W.Frag} : ∀ {vs : List V} {xs : List PyData} {ts : List (List PyData)} {ns : List (List Int)}, RpAll K L vs xs → tupsOf xs = some ts → intTups ts = some ns →
    xs = ns.map (fun n => .tuple (n.map .int)) ∧ Paired (fun (v : V) (n : List Int) => ∃ a, v = .ref a ∧ TupAt K L a (n.map V.int)) vs ns
  | _, _, _, _, .nil, e, e2 => by
    cases e
    cases e2
    exact ⟨rfl, .nil⟩
  | _, _, _, _, .cons (x := d) h r, e, e2 => by
    cases d <;> simp only [tupsOf] at e <;> (first | (cases e; done) | skip)
    obtain ⟨ts', e1, rfl⟩ := Option.map_eq_some_iff.mp e
    unfold intTups at e2
    split at e2
    · rename_i a b h1 h2
      cases e2
      obtain ⟨q1, q2⟩ := dp_tups r e1 h2
      cases h with
      | tup hs hr =>
        obtain ⟨rfl, rfl⟩ := dp_ints hr h1
        exact ⟨by rw [List.map_cons, ← q1], .cons ⟨_, rfl, hs⟩ q2⟩
    · cases e2
theorem paired_mem {α β : Type} {F : α → β → Prop} : ∀ {l : List α} {m : List β}, Paired F l m → ∀ x ∈ l, ∃ y ∈ m, F x y
  | _, _, .nil, _, h => nomatch h
  | _, _, .cons f r, x, h => by
    rcases List.mem_cons.mp h with rfl | h
    · exact ⟨_, List.mem_cons_self, f⟩
    · obtain ⟨y, hy, q⟩ := paired_mem r x h
      exact ⟨y, List.mem_cons_of_mem _ hy, q⟩
theorem blt_sorted : CallR X (.builtin "sorted") (rC X.K (bltD .sorted)) := by
  intro pins s σ H xs us Q I r h
  obtain ⟨ω, S, ps, p, W, rp, e, q⟩ := h
  unfold bltD at e
  split at e <;> (first | (cases e; done) | skip) <;> rename_i h1 <;> cases h1
  obtain ⟨v, rfl, rv⟩ := repAll1 rp
  obtain ⟨ys, e0, rfl⟩ := Option.map_eq_some_iff.mp e
  obtain ⟨xs, e1, e2⟩ := Option.bind_eq_some_iff.mp e0
  obtain ⟨a, vs, rfl, rr, hh⟩ := dp_seq rv e1
  have hs : SqL X.K H a vs ∨ SqT X.K H a vs := by
    rcases hh with ⟨h, _⟩ | ⟨h, _⟩
    · exact .inl (W.sub.seq h)
    · exact .inr (same_tup W.sub h).sq
  obtain ⟨its, T, o, n, rvs, hT, ho, hc, hd, hz⟩ := seq_obj I hs
  rw [Vals.ref1 r]
  unfold sortD at e2
  split at e2
  · rename_i ns e3
    cases e2
    obtain ⟨rfl, rfl⟩ := dp_ints rr e3
    have hi := rvs.ints
    refine call_sortedAny I swo_int rvs hT ho hc hd hz (fun A h1 d h2 _ _ => ints_sortable hi h2) fun out hs' hb => ?_
    obtain ⟨k1, k2, k3⟩ := ints_out hi hs' hb
    refine ⟨(out.map iv).map V.int, vals_of_ints k1, ?_⟩
    have eq : out.map iv = isort (fun a b => decide (a < b)) ns := by
      refine srt_uniq (lt := fun a b : Int => decide (a < b)) ⟨fun x y h => decide_eq_false (by have := of_decide_eq_true h; omega), fun x y z h1 h2 => decide_eq_false (by have := of_decide_eq_false h1; have := of_decide_eq_false h2; omega)⟩
        (fun x y h1 h2 => by have := of_decide_eq_false h1; have := of_decide_eq_false h2; omega) ?_ k2
      exact List.Pairwise.imp (fun {x y} h => decide_eq_false (by omega)) k3
    rw [eq]
    exact q.lst W (dp_of_ints _)
  · split at e2
    · rename_i ts e4
      split at e2
      · rename_i ns e5
        split at e2
        · rename_i hne
          cases e2
          obtain ⟨rfl, pr⟩ := dp_tups rr e4 e5
          have nonempty : ∀ n ∈ ns, n ≠ [] := fun n hn z => by
            have := List.all_eq_true.mp hne n hn
            subst z
            cases this
          -- each value of the tuple or list is a tuple of ints
          have each : ∀ {vs' : List V} {its' : List Value} {ns' : List (List Int)}, Vals vs' its' → Paired (fun (v : V) (n : List Int) => ∃ a, v = .ref a ∧ TupAt X.K ω.L a (n.map V.int)) vs' ns' →
              its'.map (kOf s.heap) = ns' ∧ ∀ u ∈ its', (∃ b, u = .ref b ∧ TupAt X.K ω.L b ((kOf s.heap u).map V.int)) ∧ TupI s.heap u (kOf s.heap u) ∧ kOf s.heap u ∈ ns' := by
            intro vs' its' ns' rv' pr'
            induction rv' generalizing ns' with
            | nil =>
              cases pr'
              exact ⟨rfl, fun _ h => nomatch h⟩
            | cons rr' _ ih =>
              cases pr' with
              | cons hq prr =>
                obtain ⟨b, rfl, hb⟩ := hq
                cases rr'
                obtain ⟨jts, rj, ⟨oj, hoj, hcj, nj, hdj⟩, _⟩ := I.tuple (same_tup W.sub hb).sq
                have t : TupI s.heap (.ref b) _ := ⟨b, oj, jts.toArray, nj, rfl, hoj, hcj, hdj, rj.ints⟩
                have ek := kOf_eq t
                obtain ⟨i1, i2⟩ := ih prr
                refine ⟨by rw [List.map_cons, ek, i1], fun u hu => ?_⟩
                rcases List.mem_cons.mp hu with rfl | hu
                · rw [ek]
                  exact ⟨⟨b, rfl, hb⟩, t, List.mem_cons_self⟩
                · obtain ⟨j1, j2, j3⟩ := i2 u hu
                  exact ⟨j1, j2, List.mem_cons_of_mem _ j3⟩
          obtain ⟨hk, hm⟩ := each rvs pr
          refine call_sortedAny I (lex_swo (kOf s.heap)) rvs hT ho hc hd hz (fun A h1 d h2 hd1 k1 => ?_) fun out hs' hb => ?_
          · refine tups_sortable (s := { s with heap := h1 }) (by omega) (fun v hv => ⟨(hm v hv).2.1.keeps fun b o e _ => (k1 b o e).2, nonempty _ (hm v hv).2.2⟩) fun o e => ?_
            have e' : some o = some (seqObj "list" its.toArray 0) := e.symm.trans hd1
            cases e'
            intro c
            exact absurd (Value.type.inj c) (by decide)
          · have memI : ∀ u ∈ out, u ∈ its := fun u hu => hb.perm.mem_iff.mp hu
            have mk : ∀ l : List Value, (∀ u ∈ l, u ∈ its) → Vals (l.map fun u => V.ref (addrOf u)) l ∧ RpAll X.K ω.L (l.map fun u => V.ref (addrOf u)) ((l.map (kOf s.heap)).map fun n => .tuple (n.map .int)) := by
              intro l
              induction l with
              | nil => intro _; exact ⟨.nil, .nil⟩
              | cons u l ih =>
                intro hl
                obtain ⟨i1, i2⟩ := ih fun z hz => hl z (List.mem_cons_of_mem _ hz)
                obtain ⟨⟨b, rfl, hb'⟩, _, _⟩ := hm u (hl u List.mem_cons_self)
                exact ⟨.cons rfl i1, .cons (Rp.tup hb' (dp_of_ints _)) i2⟩
            obtain ⟨m1, m2⟩ := mk out memI
            refine ⟨_, m1, ?_⟩
            have eq : out.map (kOf s.heap) = isort HT.lexLt ns := by
              refine srt_uniq (lex_swo id) (fun x y h1 h2 => lex_anti x y h1 h2) (List.pairwise_map.mpr hs') ?_
              rw [← hk]
              exact hb.perm.map _
            rw [eq] at m2
            exact q.lst W m2
        · cases e2
      · cases e2
    · cases e2
end
end VC

/-! VC4: methods of lists, tuples and texts; items and slices. -/
namespace VC
open PySem PySem.Spec PyProof.Rows L2

section
variable {X : Cx}
/-- t.index(x), data of any depth: the first equal one -/
theorem mt_tindexD (hu : X.A.units + 65 < cLine) : MtR X "tuple.index" (fun x xs H Q => ∃ (a : Addr) (y : V) (d : PyData) (ds : List PyData) (j : Nat) (z : PyData), x = V.ref a ∧ xs = [y] ∧ Dp X.K H (V.ref a) (.tuple ds) ∧ Dp X.K H y d ∧
    SeqAt.shaped (.tuple ds) = true ∧ SeqAt.shaped d = true ∧ ds[j]? = some z ∧ PyData.eqv z d = true ∧ (∀ (m : Nat) (z' : PyData), m < j → ds[m]? = some z' → PyData.eqv z' d = false) ∧ Q (.int (j : Nat)) H) := by
  intro pins s σ H x xs v us Q I rx rxs h
  obtain ⟨a, y, d, ds, j, z, rfl, rfl, hl, hy, sl, sd, hz, hzj, hno, q⟩ := h
  cases rx
  obtain ⟨uy, rfl, ry⟩ := rxs.one
  obtain ⟨bs, r1⟩ := Dp.reads I d y uy hy ry
  have lay : PyData.canLayAll0 ds = true := SeqAt.canLay_of_shaped sl
  have layd : d.canLay0 = true := SeqAt.canLay_of_shaped sd
  have room : X.A.units + 1 + min (PyData.depthAll ds) d.depth < cLine := room_in_shaped sd hu
  cases hl with
  | tup hs ha =>
    obtain ⟨its, rv, ⟨⟨c, dd, data, sls⟩, ho, hc, n, hdt⟩, hlen⟩ := I.tuple hs
    simp only at hc hdt
    subst hc hdt
    obtain ⟨as, h4⟩ := Dp.readsAll I ds _ its ha rv
    have hn : its.length = ds.length := SeqAt.ReadsAll.length ds its as h4
    have hmap : its.map (SeqAt.readOf s.heap) = ds := SeqAt.readsAll_map ds its as lay h4
    have hj : j < its.toArray.size := by
      have := (List.getElem?_eq_some_iff.mp hz).1
      simpa using (by omega : j < its.length)
    have rd : ∀ (m : Nat) (hm : m < its.toArray.size) (z' : PyData), ds[m]? = some z' → SeqAt.readOf s.heap its.toArray[m] = z' := by
      intro m hm z' hz'
      have hml : m < its.length := by simpa using hm
      rw [← hmap, List.getElem?_map, List.getElem?_eq_getElem hml, Option.map_some] at hz'
      simpa using Option.some.inj hz'
    refine call_meets PySem.F.slot_tuple_index ⟨_, ho, rfl⟩ PySem.F.entry_tuple_index (PySem.F.args_tuple_index_2 _ _)
      (TI.tuple_indexAt a its.toArray n dd sls uy (fun u => PyData.eqv (SeqAt.readOf s.heap u) d) j hj ?_ ?_)
      ⟨ho, SeqAt.items_eqAt (vs := its.toArray) (show ReadsAll s.heap its.toArray.toList ds as from h4) r1 lay layd (by simpa using room), ⟨.int (j : Nat), H, I.tok _, ⟨_, rfl⟩, q⟩⟩
    · show PyData.eqv (SeqAt.readOf s.heap its.toArray[j]) d = true
      rw [rd j hj z hz]
      exact hzj
    · intro m hm hmj
      have hml : m < its.length := by simpa using hm
      have hmd : m < ds.length := by omega
      obtain ⟨z', hz'⟩ : ∃ z', ds[m]? = some z' := ⟨_, List.getElem?_eq_getElem hmd⟩
      show PyData.eqv (SeqAt.readOf s.heap its.toArray[m]) d = false
      rw [rd m hm z' hz']
      exact hno m z' hmj hz'

/-- the value is of the type T, and has no dict of its own -/
def TyIs (X : Cx) (x : V) (H : Hp) (T : String) : Prop := ∀ (pins : List (Addr × Obj)) (s : Shared) (σ : L2.St) (v : Value), L2.Inv X pins σ H s → RelV x v →
  s.TypeIs v T ∧ ∀ a, v = .ref a → ∃ ob, s.heap.get? a = some ob ∧ ob.dict = none
theorem tyIs_list {H : Hp} {a : Addr} {vs : List V} (h : SqL X.K H a vs) : TyIs X (.ref a) H "list" := fun pins s σ v I r => tyV_is I r (.inl ⟨rfl, vs, h⟩)
theorem tyIs_str {H : Hp} {z : Str} : TyIs X (.str z) H "str" := fun pins s σ v I r => tyV_is I r (show "str" = "str" from rfl)
theorem tyIs_tup {H : Hp} {a : Addr} {vs : List V} (h : TupAt X.K H a vs) : TyIs X (.ref a) H "tuple" := fun pins s σ v I r => by
  obtain ⟨o, ho, hc, hd⟩ : ∃ o, s.heap.get? a = some o ∧ o.cls = .type "tuple" ∧ o.dict = none := by
    rcases h with ⟨o, h, hc, hd⟩ | ⟨o, its, n, h, hc, hd, _⟩
    · exact ⟨o, (I.hok a _ h).1, hc, hd⟩
    · exact ⟨o, I.kIn a o h, hc, hd⟩
  cases r
  exact ⟨⟨o, ho, hc⟩, fun b e => by cases e; exact ⟨o, ho, hd⟩⟩
/-- o.m(e, ..), the type of o found when it is there -/
def tMt (X : Cx) (name : Str) (to : TE) (t : TA) : TE := fun σ H Q => to σ H fun x H1 => ∃ T id r, PlainAttrs T ∧ Slot T name id ∧ typeOf (.builtin id) = pure (.type "method_descriptor") ∧ MtR X id r ∧ TyIs X x H1 T ∧
  t σ H1 fun xs H2 => r x xs H2 Q
theorem pe_mt {o e : Expr} {es : List Expr} {to : TE} {t : TA} {name : Str} {apos cpos : Pos} (ho : PE X o to) (ha : PA X (e :: es) t)
    (hbase : attributeBase o name X.env (eval o X.env) = eval o X.env)
    (hfew : ((backTo cpos (starEach (e :: es) X.env)).all (fun x => !x.1) && (backToKw cpos (keywordEach [] X.env)).all (fun x => x.1.isSome)
      && decide ((e :: es).length + ([] : List Keyword).length + (if ([] : List Keyword).isEmpty then 0 else 1) < 30)) = true)
    (hline : (apos.endLine == cpos.line) = true) (hs : starEach (e :: es) X.env = (false, eval e X.env) :: starEach es X.env) (hp : (backTo cpos (starEach es X.env)).any (·.1) = false) :
    PE X (.Call (.Attribute o name apos) (e :: es) [] cpos) (tMt X name to t) := by
  refine ⟨fun pins s σ H Q I h => ?_⟩
  refine wpAny_Call_method_late hbase hfew hline rfl (thn (ho.run pins s σ H _ I h) fun v s1 h1 => ?_)
  obtain ⟨x, H1, I1, r1, T, id, r, pa, slot, hty, hm, ty, q1⟩ := h1
  obtain ⟨k1, k2⟩ := ty pins s1 σ v I1 r1
  refine ⟨T, id, pa, slot, hty, k1, k2, ?_⟩
  have hA := ha.run cpos pins s1 σ H1 _ I1 q1
  rw [hs] at hA ⊢
  have hf : ((false, eval e X.env) :: backTo cpos (starEach es X.env)).any (·.1) = false := by
    rw [List.any_cons, hp]
    rfl
  refine Calls.callWith_builtin hf (Calls.evalArgs_plain (thn hA fun us s2 h2 => ?_))
  obtain ⟨vs, H2, I2, r2, q2⟩ := h2
  exact hm pins s2 σ H2 x vs v us Q I2 r1 r2 q2

def mthN : Mth → Str
  | .index => "index" | .count => "count" | .join => "join" | .split => "split"
theorem firstAt_spec (x : PyData) : ∀ (ds : List PyData) (i k : Nat), firstAt x ds i = some k → ∃ j z, k = i + j ∧ ds[j]? = some z ∧ PyData.eqv z x = true ∧ ∀ (m : Nat) (z' : PyData), m < j → ds[m]? = some z' → PyData.eqv z' x = false
  | [], _, _, h => by cases h
  | y :: r, i, k, h => by
    unfold firstAt at h
    split at h
    · rename_i he
      cases h
      exact ⟨0, y, rfl, rfl, he, fun m z' hm => absurd hm (Nat.not_lt_zero _)⟩
    · rename_i he
      obtain ⟨j, z, h1, h2, h3, h4⟩ := firstAt_spec x r (i + 1) k h
      refine ⟨j + 1, z, by omega, h2, h3, fun m z' hm hz => ?_⟩
      cases m with
      | zero =>
        cases hz
        simpa using he
      | succ m => exact h4 m z' (by omega) hz
/-- a method's call on values, told by the receiver's data -/
def rM (K : PySem.W.Frag) (m : Mth) : V → List V → Hp → VK → Prop := fun x xs H Q =>
  ∃ ω S a ps p, Wok K ω S H ∧ Rp K ω.L x a ∧ RepAll K ω ps xs ∧ mthD m a ps = some p ∧ Aft K ω S H p Q
/-- the receiver's road: its type, its slot, the rule -/
theorem mth_road (hu : X.A.units + 65 < cLine) {ω : Wd} {S : Store} {H : Hp} {x : V} {a : PyData} (W : Wok X.K ω S H) (r : Rp X.K ω.L x a) (m : Mth) (ok : ∃ ps p, mthD m a ps = some p) :
    ∃ T id r, PlainAttrs T ∧ Slot T (mthN m) id ∧ typeOf (.builtin id) = pure (.type "method_descriptor") ∧ MtR X id r ∧ TyIs X x H T ∧
      ∀ ω' S' H' xs ps p Q, Wok X.K ω' S' H' → Rp X.K ω'.L x a → RepAll X.K ω' ps xs → mthD m a ps = some p → Aft X.K ω' S' H' p Q → r x xs H' Q := by
  obtain ⟨ps0, p0, e0⟩ := ok
  have one : ∀ {ps : List PV} {ω' : Wd} {xs : List V} {d : PyData}, RepAll X.K ω' ps xs → oneD ps = some d → ∃ y, xs = [y] ∧ Rp X.K ω'.L y d := by
    intro ps ω' xs d rp e
    unfold oneD at e
    split at e
    · cases e
      exact repAll1 rp
    · cases e
  have idx : ∀ {ds : List PyData} {all x : PyData} {p : PV}, indexD ds all x = some p → SeqAt.shaped x = true ∧ SeqAt.shaped all = true ∧
      ∃ j z, p = .d (.int (j : Nat)) ∧ ds[j]? = some z ∧ PyData.eqv z x = true ∧ ∀ (m : Nat) (z' : PyData), m < j → ds[m]? = some z' → PyData.eqv z' x = false := by
    intro ds all x p e
    unfold indexD at e
    split at e
    · rename_i hsh
      rw [Bool.and_eq_true] at hsh
      split at e
      · rename_i k hk
        cases e
        obtain ⟨j, z, h1, h2, h3, h4⟩ := firstAt_spec x ds 0 k hk
        refine ⟨hsh.1, hsh.2, j, z, ?_, h2, h3, h4⟩
        rw [h1, Nat.zero_add]
      · cases e
    · cases e
  cases m <;> cases a <;> simp only [mthD] at e0 <;> (first | (cases e0; done) | skip)
  · -- list.index
    cases r with
    | lst hs hr =>
      refine ⟨"list", _, _, PySem.F.plainAttrs_list, PySem.F.slot_list_index, PySem.F.type_list_index, mt_indexD hu, tyIs_list (W.sub.seq hs), fun ω' S' H' xs ps p Q W' r' rp e q => ?_⟩
      obtain ⟨x, e1, e2⟩ := Option.bind_eq_some_iff.mp (show (oneD ps).bind _ = some p from e)
      obtain ⟨y, rfl, ry⟩ := one rp e1
      obtain ⟨h1, h2, j, z, rfl, h3, h4, h5⟩ := idx e2
      exact ⟨_, y, x, _, j, z, rfl, rfl, W'.dp r', W'.dp ry, h2, h1, h3, h4, h5, q.now W' (Rp.int _)⟩
  · -- tuple.index
    cases r with
    | tup hs hr =>
      refine ⟨"tuple", _, _, PySem.F.plainAttrs_tuple, PySem.F.slot_tuple_index, PySem.F.type_tuple_index, mt_tindexD hu, tyIs_tup (same_tup W.sub hs), fun ω' S' H' xs ps p Q W' r' rp e q => ?_⟩
      obtain ⟨x, e1, e2⟩ := Option.bind_eq_some_iff.mp (show (oneD ps).bind _ = some p from e)
      obtain ⟨y, rfl, ry⟩ := one rp e1
      obtain ⟨h1, h2, j, z, rfl, h3, h4, h5⟩ := idx e2
      exact ⟨_, y, x, _, j, z, rfl, rfl, W'.dp r', W'.dp ry, h2, h1, h3, h4, h5, q.now W' (Rp.int _)⟩
  · -- list.count
    cases r with
    | lst hs hr =>
      refine ⟨"list", _, _, PySem.F.plainAttrs_list, PySem.F.slot_list_count, PySem.F.type_list_count, mt_lcount, tyIs_list (W.sub.seq hs), fun ω' S' H' xs ps p Q W' r' rp e q => ?_⟩
      obtain ⟨x, e1, e2⟩ := Option.bind_eq_some_iff.mp (show (oneD ps).bind _ = some p from e)
      obtain ⟨y, rfl, ry⟩ := one rp e1
      cases x <;> simp only [countD] at e2 <;> (first | (cases e2; done) | skip)
      split at e2
      · rename_i ns hns
        cases e2
        cases ry
        cases r' with
        | lst hs' hr' =>
          obtain ⟨rfl, _⟩ := dp_ints hr' hns
          exact ⟨_, ns, _, rfl, rfl, W'.sub.seq hs', q.now W' (Rp.int _)⟩
      · cases e2
end
end VC

/-! VD: from a text's expressions and statements to code. -/
namespace VC
open PySem PySem.Spec PyProof.Rows L2

/-- where a name stands in a list -/
def slot : List Str → Str → Option Nat
  | [], _ => none
  | y :: r, x => if y = x then some 0 else (slot r x).map (· + 1)
theorem slot_at : ∀ {l : List Str} {x : Str} {i : Nat}, slot l x = some i → l[i]? = some x
  | [], _, _, h => by cases h
  | y :: r, x, i, h => by
    unfold slot at h
    split at h
    · rename_i e
      cases h
      rw [e]
      rfl
    · obtain ⟨j, hj, rfl⟩ := Option.map_eq_some_iff.mp h
      show r[j]? = some x
      exact slot_at hj

structure Cc where
  N : List Str
  sc : Scope
  /-- the block's own cells may be stored (a def's: all) -/
  fn : Str → Bool
  fns : List Str
  gls : List Str
  bls : List Str
  cells : List Str := []

def okName (x : Str) : Bool := !(x == ("__debug__" : Str)) && !(x == ("__classdict__" : Str))
def locB (C : Cc) (x : Str) : Bool := match C.sc.names.lookup x with
  | some .local => true
  | some .cell => C.fn x
  | _ => false
def notStar : Expr → Bool
  | .Starred .. => false
  | _ => true
def notSlice : Expr → Bool
  | .Slice .. => false
  | _ => true
def notCall0 : Expr → Bool
  | .Call (.Name _ _) [] [] _ => false
  | _ => true
def isIfExp : Expr → Bool
  | .IfExp .. => true
  | _ => false
def isComp : Expr → Bool
  | .ListComp .. => true
  | .SetComp .. => true
  | .DictComp .. => true
  | _ => false
def bltOf (x : Str) : Option Blt :=
  if x = "len" then some .len else if x = "tuple" then some .tuple else if x = "list" then some .list else if x = "range" then some .range
  else if x = "sorted" then some .sorted else if x = "sum" then some .sum else if x = "max" then some .max else if x = "min" then some .min
  else if x = "int" then some .int else if x = "all" then some .all else if x = "any" then some .any else none
def mthOf (x : Str) : Option Mth := if x = "index" then some .index else if x = "count" then some .count else none
def tykOf (x : Str) : Option Tyk :=
  if x = "int" then some .int else if x = "bool" then some .bool else if x = "str" then some .str else if x = "tuple" then some .tuple else if x = "list" then some .list else none
def glb (C : Cc) (x : Str) : Bool := okName x && match C.sc.names.lookup x with
  | some .globalImplicit => true
  | _ => false
/-- a built-in class by its name -/
def tyE (C : Cc) : Expr → Option Tyk
  | .Name x _ => if glb C x && C.bls.contains x then tykOf x else none
  | _ => none
def tysE (C : Cc) : List Expr → Option (List Tyk)
  | [] => some []
  | e :: r => match tyE C e, tysE C r with
    | some t, some ts => some (t :: ts)
    | _, _ => none
def tgNames : List Expr → Option (List Str)
  | [] => some []
  | .Name x _ :: r => (tgNames r).map (x :: ·)
  | _ :: _ => none
def slots (N : List Str) : List Str → Option (List Nat)
  | [] => some []
  | x :: r => match slot N x, slots N r with
    | some i, some is => some (i :: is)
    | _, _ => none
/-- a target: a name, or a tuple of names -/
def cTg (C : Cc) : Expr → Option Tg
  | .Name x _ => if locB C x then (slot C.N x).map .one else none
  | .Tuple es _ _ => match tgNames es with
    | some xs => if xs.all (locB C) then (slots C.N xs).map .tup else none
    | none => none
  | _ => none
def tgOwn : Expr → Option (List Str)
  | .Name x _ => some [x]
  | .Tuple es _ _ => tgNames es
  | _ => none
def zipOwn (N : List Str) : List Str → Option (List (Str × Nat))
  | [] => some []
  | x :: r => match slot N x, zipOwn N r with
    | some i, some is => some ((x, i) :: is)
    | _, _ => none
def inner (C : Cc) (scope : Scope) : Cc := { C with sc := relS scope C.sc, fn := fun x => scope.names.lookup x == some .cell }

mutual
def cE : Nat → Cc → Expr → Option Code
  | 0, _, _ => none
  | n + 1, C, e => match e with
    | .Constant .none _ _ => some .cn
    | .Constant (.bool b) _ _ => some (.cb b)
    | .Constant (.int i) _ _ => some (.ci i)
    | .Constant (.str x) _ _ => some (.cs x)
    | .Name x _ => if okName x then (match C.sc.names.lookup x with
        | some .local => (slot C.N x).map .var
        | some .cell => (slot C.N x).map .var
        | some .free => (slot C.N x).map .var
        | some .globalImplicit => (slot C.gls x).map .glob
        | _ => none) else none
    | .BinOp a op b _ => match cE n C a, cE n C b with
      | some x, some y => some (.bin op x y)
      | _, _ => none
    | .Compare a [op] [b] _ => match cE n C a, cE n C b with
      | some x, some y => some (.cmp op x y)
      | _, _ => none
    | .Compare a [op, op'] [b, c] _ => match cE n C a, cE n C b, cE n C c with
      | some x, some y, some z => some (.ch op op' x y z)
      | _, _, _ => none
    | .UnaryOp .USub a _ => (cE n C a).map .neg
    | .UnaryOp .Not a _ => if isIfExp a then none else (cE n C a).map .not
    | .BoolOp _ [a] _ => if isIfExp a then none else cE n C a
    | .BoolOp .And (a :: b :: r) pos => if isIfExp a then none else (match cE n C a, cE n C (.BoolOp .And (b :: r) pos) with
      | some x, some y => some (.and x y)
      | _, _ => none)
    | .BoolOp .Or (a :: b :: r) pos => if isIfExp a then none else (match cE n C a, cE n C (.BoolOp .Or (b :: r) pos) with
      | some x, some y => some (.or x y)
      | _, _ => none)
    | .IfExp c a b _ => if isIfExp c then none else match cE n C c, cE n C a, cE n C b with
      | some x, some y, some z => some (.ite x y z)
      | _, _, _ => none
    | .Tuple es _ _ => (cTs n C es).map .tup
    | .List es _ => (cTs n C es).map .lst
    | .Subscript a (.Slice lo hi none _) _ => match cE n C a, cO n C lo, cO n C hi with
      | some x, some l, some h => some (.sl x l h)
      | _, _, _ => none
    | .Subscript a i _ => if notSlice i then (match cE n C a, cE n C i with
      | some x, some y => some (.ix x y)
      | _, _ => none) else none
    | .Call (.Name f _) args [] _ => if glb C f then (match slot C.fns f with
        | some k => (cEs n C args).map (.call k)
        | none => if C.bls.contains f then (
            if f = "isinstance" then (match args with
              | [a, .Tuple ts _ _] => match cE n C a, tysE C ts with
                | some x, some l => if l.length ≤ 1000 then some (.isi x l) else none
                | _, _ => none
              | [a, t] => match cE n C a, tyE C t with
                | some x, some t => some (.isi x [t])
                | _, _ => none
              | _ => none)
            else if args.isEmpty then none else (match bltOf f, cEs n C args with
              | some b, some l => some (.blt b l)
              | _, _ => none)) else none) else none
    | .Call (.Attribute o m apos) (a :: r) [] cpos => if notCall0 o && (apos.endLine == cpos.line) && decide (r.length < 20) then (match mthOf m, cE n C o, cEs n C (a :: r) with
        | some k, some x, some l => some (.mt k x l)
        | _, _, _ => none) else none
    | .ListComp elt [⟨tg, it, ifs, 0⟩] scope _ => match tgOwn tg with
      | some own => match zipOwn C.N own with
        | some ow => if blkC C.N C.sc scope ow then (match cE n C it, cTg (inner C scope) tg, cIf n (inner C scope) ifs, cE n (inner C scope) elt with
            | some i, some g, some c, some x => some (.lc x g i c (ow.map (·.2)))
            | _, _, _, _ => none) else none
        | none => none
      | none => none
    | .ListComp elt [⟨tg, it, ifs, 0⟩, ⟨tg1, it1, ifs1, 0⟩] scope _ => match tgOwn tg, tgOwn tg1 with
      | some own, some own1 => match zipOwn C.N own, zipOwn C.N own1 with
        | some ow, some ow1 => if blkC C.N C.sc scope (ow ++ ow1) && ow1.all (fun p => !(ow.map (·.2)).contains p.2) then
            (match cE n C it, cTg (inner C scope) tg, cIf n (inner C scope) ifs, cE n (inner C scope) it1, cTg (inner C scope) tg1, cIf n (inner C scope) ifs1, cE n (inner C scope) elt with
            | some i, some g, some c, some i1, some g1, some c1, some x => some (.lc2 x g i c g1 i1 c1 ((ow ++ ow1).map (·.2)) (ow1.map (·.2)))
            | _, _, _, _, _, _, _ => none) else none
        | _, _ => none
      | _, _ => none
    | _ => none
/-- arguments -/
def cEs : Nat → Cc → List Expr → Option Code
  | 0, _, _ => none
  | _ + 1, _, [] => some .nil
  | n + 1, C, e :: r => if notStar e then (match cE n C e, cEs n C r with
    | some x, some l => some (.cons x l)
    | _, _ => none) else none
/-- a display's items -/
def cTs : Nat → Cc → List Expr → Option Code
  | 0, _, _ => none
  | _ + 1, _, [] => some .nil
  | n + 1, C, .Starred e _ :: r => match cE n C e, cTs n C r with
    | some x, some l => some (.star x l)
    | _, _ => none
  | n + 1, C, e :: r => if notStar e then (match cE n C e, cTs n C r with
    | some x, some l => some (.cons x l)
    | _, _ => none) else none
def cO : Nat → Cc → Option Expr → Option Code
  | 0, _, _ => none
  | _ + 1, _, none => some .no
  | n + 1, C, some e => cE n C e
def cIf : Nat → Cc → List Expr → Option Code
  | 0, _, _ => none
  | _ + 1, _, [] => some .no
  | n + 1, C, [e] => if isIfExp e then none else cE n C e
  | _ + 1, _, _ => none
end
end VC

/-! VE: the reader's expressions are the machine's: the small ones. -/
namespace VC
open PySem PySem.Spec PyProof.Rows L2

/-- an expression's reading by its code -/
def tP (K : PySem.W.Frag) (G : Gx) (c : Code) : TE := fun σ H Q => ∃ ω ρ S p S', Wok K ω S H ∧ EnvR K ω H σ ρ ∧ ev G c ρ S = some (p, S') ∧ Aft K ω S' H p Q
def tPb (K : PySem.W.Frag) (G : Gx) (c : Code) : TT := fun σ H Q => ∃ ω ρ S b S', Wok K ω S H ∧ EnvR K ω H σ ρ ∧ ev G c ρ S = some (.d (.bool b), S') ∧ ∀ ω' H', Ext ω H ω' H' → Wok K ω' S' H' → Q b H'
def tPs (K : PySem.W.Frag) (G : Gx) (c : Code) : TA := fun σ H Q => ∃ ω ρ S ps S', Wok K ω S H ∧ EnvR K ω H σ ρ ∧ evs G c ρ S = some (ps, S') ∧ ∀ ω' H' vs, Ext ω H ω' H' → Wok K ω' S' H' → RepAll K ω' ps vs → Q vs H'
/-- a def's promise by its number -/
def spF (K : PySem.W.Frag) (G : Gx) (j : Nat) : Sp := fun vs H Q _ => ∃ ω S ps p S', Wok K ω S H ∧ RepAll K ω ps vs ∧ G.fn j ps S = some (p, S') ∧ Aft K ω S' H p Q
def FnAt (X : Cx) (G : Gx) (k j : Nat) (f : Str) : Prop := ∃ a fd ps, X.mg f = some (.ref a) ∧ PySem.W.keepIn X.K (.ref a) = true ∧ Binds X.K fd ps [] ∧
  FnOk X.prog X.w X.K X.mg X.base CX0 k a fd ps (spF X.K G j)
structure CtxOk (X : Cx) (C : Cc) (G : Gx) (k : Nat) : Prop where
  N : X.N = C.N
  nd : C.N.Nodup
  sc : X.env.scope = C.sc
  kind : C.sc.kind = .function
  xe : X.xe = fun _ _ => False
  fn : ∀ x, C.fn x = true → X.fn x = true
  calm : X.calm = true
  room : Room k X.A
  fns : ∀ (j : Nat) (f : Str), C.fns[j]? = some f → FnAt X G k j f
  gls : ∀ (j : Nat) (x : Str), C.gls[j]? = some x → ∃ u v d, X.mg x = some u ∧ RelV v u ∧ G.gl[j]? = some d ∧ ∀ H, Rp X.K H v d
  bls : ∀ x ∈ C.bls, X.mg x = none

theorem _root_.L2.PE.weak {X : Cx} {e : Expr} {t t' : TE} (h : PE X e t) (w : ∀ σ H Q, t' σ H Q → t σ H Q) : PE X e t' := ⟨fun pins s σ H Q I q => h.run pins s σ H Q I (w σ H Q q)⟩
theorem _root_.L2.PT.weak {X : Cx} {e : Expr} {t t' : TT} (h : PT X e t) (w : ∀ σ H Q, t' σ H Q → t σ H Q) : PT X e t' := ⟨fun pins s σ H Q I q => h.run pins s σ H Q I (w σ H Q q)⟩
theorem _root_.L2.PA.weak {X : Cx} {es : List Expr} {t t' : TA} (h : PA X es t) (w : ∀ σ H Q, t' σ H Q → t σ H Q) : PA X es t' := ⟨fun pos pins s σ H Q I q => h.run pos pins s σ H Q I (w σ H Q q)⟩

section
variable {K : PySem.W.Frag} {ω : Wd} {S S' : Store} {H : Hp} {σ : L2.St} {ρ : Env} {p : PV} {G : Gx} {c : Code}
theorem tP.mk {Q : VK} (W : Wok K ω S H) (E : EnvR K ω H σ ρ) (e : ev G c ρ S = some (p, S')) (q : Aft K ω S' H p Q) : tP K G c σ H Q := ⟨ω, ρ, S, p, S', W, E, e, q⟩
theorem rep_bool {b : Bool} {v : V} (h : Rep K ω (.d (.bool b)) v) : v = .bl b := by
  cases h
  rfl
theorem rep_int {b : Int} {v : V} (h : Rep K ω (.d (.int b)) v) : v = .int b := by
  cases h
  rfl
end

section
variable {X : Cx} {G : Gx} {a b d : Expr} {ca cb cc : Code} {pos : Pos}
theorem pp_none {j pos} : PE X (.Constant .none j pos) (tP X.K G .cn) := pe_non.weak fun σ H Q h => by
  obtain ⟨ω, ρ, S, p, S', W, E, e, q⟩ := h
  cases e
  exact q.now W Rp.non
theorem pp_bool {v j pos} : PE X (.Constant (.bool v) j pos) (tP X.K G (.cb v)) := pe_bl.weak fun σ H Q h => by
  obtain ⟨ω, ρ, S, p, S', W, E, e, q⟩ := h
  cases e
  exact q.now W (Rp.bl _)
theorem pp_int {v j pos} : PE X (.Constant (.int v) j pos) (tP X.K G (.ci v)) := pe_int.weak fun σ H Q h => by
  obtain ⟨ω, ρ, S, p, S', W, E, e, q⟩ := h
  cases e
  exact q.now W (Rp.int _)
theorem pp_str {v j pos} : PE X (.Constant (.str v) j pos) (tP X.K G (.cs v)) := pe_str.weak fun σ H Q h => by
  obtain ⟨ω, ρ, S, p, S', W, E, e, q⟩ := h
  cases e
  exact q.now W (Rp.str _)
theorem pp_var {i : Nat} {x : Str} (hN : X.N[i]? = some x) (hv : Vis X.env.scope x) (h1 : (x == ("__debug__" : Str)) = false) (h2 : (x == ("__classdict__" : Str)) = false) : PE X (.Name x pos) (tP X.K G (.var i)) :=
  (pe_var hN hv h1 h2).weak fun σ H Q h => by
    obtain ⟨ω, ρ, S, p, S', W, E, e, q⟩ := h
    simp only [ev] at e
    split at e <;> (first | (cases e; done) | skip)
    rename_i p' hne hp
    cases e
    obtain ⟨v, hv, r⟩ := E.at_ i _ hp
    refine ⟨v, hv, q.now W ?_⟩
    cases p <;> first | exact r | exact absurd rfl (hne _)
theorem pp_glob {j : Nat} {x : Str} {u : Value} {v : V} {y : PyData} (hg : Gl X x) (hm : X.mg x = some u) (r : RelV v u) (hy : G.gl[j]? = some y) (hr : ∀ H, Rp X.K H v y) (h1 : (x == ("__debug__" : Str)) = false) : PE X (.Name x pos) (tP X.K G (.glob j)) :=
  (pe_glob hg hm r h1).weak fun σ H Q h => by
    obtain ⟨ω, ρ, S, p, S', W, E, e, q⟩ := h
    simp only [ev, hy, Option.map_some] at e
    cases e
    exact q.now W (hr _)
/-- two expressions in a row, both pure data -/
theorem two {Q : VK} {R : V → V → Hp → VK → Prop} {ω : Wd} {ρ : Env} {S S1 S2 : Store} {H : Hp} {σ : L2.St} {x y : PyData} (W : Wok X.K ω S H) (E : EnvR X.K ω H σ ρ) (e1 : ev G ca ρ S = some (.d x, S1)) (e2 : ev G cb ρ S1 = some (.d y, S2))
    (h : ∀ ω2 H2 v u, Ext ω H ω2 H2 → Wok X.K ω2 S2 H2 → EnvR X.K ω2 H2 σ ρ → Rp X.K ω2.L v x → Rp X.K ω2.L u y → R v u H2 Q) : tOp R (tP X.K G ca) (tP X.K G cb) σ H Q :=
  tP.mk W E e1 fun ω1 H1 v x1 W1 r1 => tP.mk W1 (E.ext x1) e2 fun ω2 H2 u x2 W2 r2 => h ω2 H2 v u (x1.trans x2) W2 ((E.ext x1).ext x2) (dp_mono x2.L r1) r2
theorem pp_bin {op : Operator} (ha : PE X a (tP X.K G ca)) (hb : PE X b (tP X.K G cb)) : PE X (.BinOp a op b pos) (tP X.K G (.bin op ca cb)) :=
  (pe_op (op_binD op) ha hb).weak fun σ H Q h => by
    obtain ⟨ω, ρ, S, p, S', W, E, e, q⟩ := h
    simp only [ev] at e
    split at e <;> (first | (cases e; done) | skip)
    rename_i x S1 e1
    split at e <;> (first | (cases e; done) | skip)
    rename_i y S2 e2
    obtain ⟨z, e3, e4⟩ := Option.map_eq_some_iff.mp e
    cases e4
    exact two W E e1 e2 fun ω2 H2 v u x2 W2 E2 r1 r2 => ⟨ω2, _, x, y, z, W2, r1, r2, e3, q.ext x2⟩
theorem noMark (C : Cc) (n : Nat) {op : CmpOp} {b : Expr} {cb : Code} (h : cE n C b = some cb) : behindInMarks op b = false := by
  cases b <;> first | rfl | (cases n <;> simp [cE] at h)
theorem pp_cmp (hu : X.A.units + 65 < cLine) {op : CmpOp} (ha : PE X a (tP X.K G ca)) (hb : PE X b (tP X.K G cb)) (hm : behindInMarks op b = false) : PE X (.Compare a [op] [b] pos) (tP X.K G (.cmp op ca cb)) :=
  (pe_cmpR (op_cmpD hu op) ha hb hm).weak fun σ H Q h => by
    obtain ⟨ω, ρ, S, p, S', W, E, e, q⟩ := h
    simp only [ev] at e
    split at e <;> (first | (cases e; done) | skip)
    rename_i x S1 e1
    split at e <;> (first | (cases e; done) | skip)
    rename_i y S2 e2
    obtain ⟨z, e3, e4⟩ := Option.map_eq_some_iff.mp e
    cases e4
    exact two W E e1 e2 fun ω2 H2 v u x2 W2 E2 r1 r2 => ⟨ω2, _, x, y, z, W2, r1, r2, e3, (q.ext x2).now W2 (Rp.bl _)⟩
theorem pt_cmpC (hu : X.A.units + 65 < cLine) {op : CmpOp} (ha : PE X a (tP X.K G ca)) (hb : PE X b (tP X.K G cb)) (hm : behindInMarks op b = false) : PT X (.Compare a [op] [b] pos) (tPb X.K G (.cmp op ca cb)) :=
  (pt_cmpR (op_cmpD hu op) ha hb hm).weak fun σ H Q h => by
    obtain ⟨ω, ρ, S, p, S', W, E, e, q⟩ := h
    simp only [ev] at e
    split at e <;> (first | (cases e; done) | skip)
    rename_i x S1 e1
    split at e <;> (first | (cases e; done) | skip)
    rename_i y S2 e2
    obtain ⟨z, e3, e4⟩ := Option.map_eq_some_iff.mp e
    cases e4
    exact two W E e1 e2 fun ω2 H2 v u x2 W2 E2 r1 r2 => ⟨ω2, _, x, y, p, W2, r1, r2, e3, p, rfl, q ω2 H2 x2 W2⟩
theorem chain_road {o o' : CmpOp} {R : V → Hp → Prop} {ω : Wd} {ρ : Env} {S S' : Store} {H : Hp} {σ : L2.St} {p : PV} (W : Wok X.K ω S H) (E : EnvR X.K ω H σ ρ) (e : ev G (.ch o o' ca cb cc) ρ S = some (p, S'))
    (h : ∀ k ω2 H2, p = .d (.bool k) → Ext ω H ω2 H2 → Wok X.K ω2 S' H2 → R (.bl k) H2) :
    tChain (rB X.K (cmpD o)) (rB X.K (cmpD o')) (tP X.K G ca) (tP X.K G cb) (tP X.K G cc) σ H R := by
  simp only [ev] at e
  split at e <;> (first | (cases e; done) | skip)
  rename_i x S1 e1
  split at e <;> (first | (cases e; done) | skip)
  rename_i y S2 e2
  refine tP.mk W E e1 fun ω1 H1 v x1 W1 r1 => tP.mk W1 (E.ext x1) e2 fun ω2 H2 u x2 W2 r2 => ?_
  split at e
  · rename_i ht
    split at e <;> (first | (cases e; done) | skip)
    rename_i z S3 e3
    obtain ⟨k, e4, e5⟩ := Option.map_eq_some_iff.mp e
    cases e5
    refine ⟨ω2, S2, x, y, true, W2, dp_mono x2.L r1, r2, ht, true, rfl, ?_⟩
    refine iteT (tP.mk W2 ((E.ext x1).ext x2) e3 fun ω3 H3 w x3 W3 r3 => ⟨ω3, _, y, z, k, W3, dp_mono x3.L r2, r3, e4, h k ω3 H3 rfl ((x1.trans x2).trans x3) W3⟩)
  · rename_i ht
    cases e
    refine ⟨ω2, _, x, y, false, W2, dp_mono x2.L r1, r2, ht, false, rfl, iteF (h false ω2 H2 rfl (x1.trans x2) W2)⟩
  · cases e
theorem pp_ch (hu : X.A.units + 65 < cLine) {o o' : CmpOp} (ha : PE X a (tP X.K G ca)) (hb : PE X b (tP X.K G cb)) (hc : PE X d (tP X.K G cc))
    (pc : ∀ {r r' : R2} {ta tb tc : TE}, OpR X (compareOp o) r → OpR X (compareOp o') r' → PE X a ta → PE X b tb → PE X d tc → PE X (.Compare a [o, o'] [b, d] pos) (tChain r r' ta tb tc)) :
    PE X (.Compare a [o, o'] [b, d] pos) (tP X.K G (.ch o o' ca cb cc)) :=
  (pc (op_cmpD hu o) (op_cmpD hu o') ha hb hc).weak fun σ H Q h => by
    obtain ⟨ω, ρ, S, p, S', W, E, e, q⟩ := h
    exact chain_road W E e fun k ω2 H2 hp x2 W2 => by
      subst hp
      exact q ω2 H2 _ x2 W2 (Rp.bl _)
theorem pp_neg (ha : PE X a (tP X.K G ca)) : PE X (.UnaryOp .USub a pos) (tP X.K G (.neg ca)) :=
  (pe_un un_neg ha).weak fun σ H Q h => by
    obtain ⟨ω, ρ, S, p, S', W, E, e, q⟩ := h
    simp only [ev] at e
    split at e <;> (first | (cases e; done) | skip)
    rename_i i S1 e1
    cases e
    exact tP.mk W E e1 fun ω1 H1 v x1 W1 r1 => ⟨i, rep_int r1, (q.ext x1).now W1 (Rp.int _)⟩
theorem pp_not (ha : PE X a (tP X.K G ca)) : PE X (.UnaryOp .Not a pos) (tP X.K G (.not ca)) :=
  (pe_not ha).weak fun σ H Q h => by
    obtain ⟨ω, ρ, S, p, S', W, E, e, q⟩ := h
    simp only [ev] at e
    split at e <;> (first | (cases e; done) | skip)
    rename_i i S1 e1
    cases e
    exact tP.mk W E e1 fun ω1 H1 v x1 W1 r1 => ⟨i, rep_bool r1, (q.ext x1).now W1 (Rp.bl _)⟩
theorem pp_and {r : List Expr} (ha : PE X a (tP X.K G ca)) (hb : PE X (.BoolOp .And (b :: r) pos) (tP X.K G cb)) : PE X (.BoolOp .And (a :: b :: r) pos) (tP X.K G (.and ca cb)) :=
  (pe_and ha hb).weak fun σ H Q h => by
    obtain ⟨ω, ρ, S, p, S', W, E, e, q⟩ := h
    simp only [ev] at e
    split at e <;> (first | (cases e; done) | skip)
    · rename_i S1 e1
      exact tP.mk W E e1 fun ω1 H1 v x1 W1 r1 => ⟨true, rep_bool r1, iteT (tP.mk W1 (E.ext x1) e (q.ext x1))⟩
    · rename_i S1 e1
      cases e
      exact tP.mk W E e1 fun ω1 H1 v x1 W1 r1 => ⟨false, rep_bool r1, iteF ((q.ext x1).now W1 (Rp.bl _))⟩
theorem pp_or {r : List Expr} (ha : PE X a (tP X.K G ca)) (hb : PE X (.BoolOp .Or (b :: r) pos) (tP X.K G cb)) : PE X (.BoolOp .Or (a :: b :: r) pos) (tP X.K G (.or ca cb)) :=
  (pe_or ha hb).weak fun σ H Q h => by
    obtain ⟨ω, ρ, S, p, S', W, E, e, q⟩ := h
    simp only [ev] at e
    split at e <;> (first | (cases e; done) | skip)
    · rename_i S1 e1
      cases e
      exact tP.mk W E e1 fun ω1 H1 v x1 W1 r1 => ⟨true, rep_bool r1, iteT ((q.ext x1).now W1 (Rp.bl _))⟩
    · rename_i S1 e1
      exact tP.mk W E e1 fun ω1 H1 v x1 W1 r1 => ⟨false, rep_bool r1, iteF (tP.mk W1 (E.ext x1) e (q.ext x1))⟩
theorem pp_ite {c : Expr} (hc : PT X c (tPb X.K G cc)) (ha : PE X a (tP X.K G ca)) (hb : PE X b (tP X.K G cb)) : PE X (.IfExp c a b pos) (tP X.K G (.ite cc ca cb)) :=
  (pe_ifExp hc ha hb).weak fun σ H Q h => by
    obtain ⟨ω, ρ, S, p, S', W, E, e, q⟩ := h
    simp only [ev] at e
    split at e <;> (first | (cases e; done) | skip)
    · rename_i S1 e1
      exact ⟨ω, ρ, S, true, S1, W, E, e1, fun ω1 H1 x1 W1 => iteT (tP.mk W1 (E.ext x1) e (q.ext x1))⟩
    · rename_i S1 e1
      exact ⟨ω, ρ, S, false, S1, W, E, e1, fun ω1 H1 x1 W1 => iteF (tP.mk W1 (E.ext x1) e (q.ext x1))⟩

/-! tests -/
theorem pt_valC (ha : PE X a (tP X.K G ca)) (he : ∀ whole, isTrue a X.env whole = (do let v ← whole; standAt a.pos; holding [v] (truthy v))) : PT X a (tPb X.K G ca) :=
  (pt_val ha he).weak fun σ H Q h => by
    obtain ⟨ω, ρ, S, p, S', W, E, e, q⟩ := h
    exact tP.mk W E e fun ω1 H1 v x1 W1 r1 => ⟨p, rep_bool r1, q ω1 H1 x1 W1⟩
theorem pt_notC (ha : PT X a (tPb X.K G ca)) : PT X (.UnaryOp .Not a pos) (tPb X.K G (.not ca)) :=
  (pt_not ha).weak fun σ H Q h => by
    obtain ⟨ω, ρ, S, p, S', W, E, e, q⟩ := h
    simp only [ev] at e
    split at e <;> (first | (cases e; done) | skip)
    rename_i i S1 e1
    cases e
    exact ⟨ω, ρ, S, i, _, W, E, e1, q⟩
theorem pw_andC {r : List Expr} (ha : PT X a (tPb X.K G ca)) (hb : PW X (.BoolOp .And (b :: r) pos) (tPb X.K G cb)) : PW X (.BoolOp .And (a :: b :: r) pos) (tPb X.K G (.and ca cb)) :=
  ⟨fun whole pins s σ H Q I h => (pw_and ha hb).run whole pins s σ H Q I (by
    obtain ⟨ω, ρ, S, p, S', W, E, e, q⟩ := h
    simp only [ev] at e
    split at e <;> (first | (cases e; done) | skip)
    · rename_i S1 e1
      exact ⟨ω, ρ, S, true, S1, W, E, e1, fun ω1 H1 x1 W1 => iteT ⟨ω1, ρ, S1, p, S', W1, E.ext x1, e, fun ω2 H2 x2 => q ω2 H2 (x1.trans x2)⟩⟩
    · rename_i S1 e1
      cases e
      exact ⟨ω, ρ, S, false, _, W, E, e1, fun ω1 H1 x1 W1 => iteF (q ω1 H1 x1 W1)⟩)⟩
theorem pw_orC {r : List Expr} (ha : PT X a (tPb X.K G ca)) (hb : PW X (.BoolOp .Or (b :: r) pos) (tPb X.K G cb)) : PW X (.BoolOp .Or (a :: b :: r) pos) (tPb X.K G (.or ca cb)) :=
  ⟨fun whole pins s σ H Q I h => (pw_or ha hb).run whole pins s σ H Q I (by
    obtain ⟨ω, ρ, S, p, S', W, E, e, q⟩ := h
    simp only [ev] at e
    split at e <;> (first | (cases e; done) | skip)
    · rename_i S1 e1
      cases e
      exact ⟨ω, ρ, S, true, _, W, E, e1, fun ω1 H1 x1 W1 => iteT (q ω1 H1 x1 W1)⟩
    · rename_i S1 e1
      exact ⟨ω, ρ, S, false, S1, W, E, e1, fun ω1 H1 x1 W1 => iteF ⟨ω1, ρ, S1, p, S', W1, E.ext x1, e, fun ω2 H2 x2 => q ω2 H2 (x1.trans x2)⟩⟩)⟩
theorem pt_chC (hu : X.A.units + 65 < cLine) {o o' : CmpOp} (ha : PE X a (tP X.K G ca)) (hb : PE X b (tP X.K G cb)) (hc : PE X d (tP X.K G cc))
    (pc : ∀ {r r' : R2} {ta tb tc : TE}, OpR X (compareOp o) r → OpR X (compareOp o') r' → PE X a ta → PE X b tb → PE X d tc → PT X (.Compare a [o, o'] [b, d] pos) (tTest (tChain r r' ta tb tc))) :
    PT X (.Compare a [o, o'] [b, d] pos) (tPb X.K G (.ch o o' ca cb cc)) :=
  (pc (op_cmpD hu o) (op_cmpD hu o') ha hb hc).weak fun σ H Q h => by
    obtain ⟨ω, ρ, S, p, S', W, E, e, q⟩ := h
    exact chain_road W E e fun k ω2 H2 hp x2 W2 => by
      cases hp
      exact ⟨_, rfl, q ω2 H2 x2 W2⟩
end
end VC

/-! VF: displays, items, slices, calls. -/
namespace VC
open PySem PySem.Spec PyProof.Rows L2

section
variable {X : Cx} {G : Gx} {a b d e : Expr} {es : List Expr} {ca cb cc : Code} {pos : Pos}
theorem star_eq {env : PySem.Env} (h : notStar e = true) : starEach (e :: es) env = (false, eval e env) :: starEach es env := by
  cases e <;> first | rfl | (cases h)
theorem pa_nilC : PA X [] (tPs X.K G .nil) := pa_nil.weak fun σ H Q h => by
  obtain ⟨ω, ρ, S, p, S', W, E, e, q⟩ := h
  simp only [evs] at e
  cases e
  exact q ω H [] (Ext.refl _ _) W .nil
theorem pa_consC (ha : PE X e (tP X.K G ca)) (hr : PA X es (tPs X.K G cb)) (hs : notStar e = true) : PA X (e :: es) (tPs X.K G (.cons ca cb)) :=
  (pa_cons ha hr (star_eq hs)).weak fun σ H Q h => by
    obtain ⟨ω, ρ, S, p, S', W, E, e, q⟩ := h
    simp only [evs] at e
    split at e <;> (first | (cases e; done) | skip)
    rename_i x S1 e1
    split at e <;> (first | (cases e; done) | skip)
    rename_i xs S2 e2
    cases e
    exact tP.mk W E e1 fun ω1 H1 v x1 W1 r1 => ⟨ω1, ρ, _, xs, _, W1, E.ext x1, e2, fun ω2 H2 vs x2 W2 r2 => q ω2 H2 _ (x1.trans x2) W2 (.cons (r1.ext x2) r2)⟩
theorem rpAll_rep {K : PySem.W.Frag} {ω : Wd} : ∀ {vs : List V} {xs : List PyData}, RpAll K ω.L vs xs → RepAll K ω (xs.map .d) vs
  | _, _, .nil => .nil
  | _, _, .cons h r => .cons h (rpAll_rep r)
theorem repAll_app {K : PySem.W.Frag} {ω : Wd} : ∀ {ps qs : List PV} {vs ws : List V}, RepAll K ω ps vs → RepAll K ω qs ws → RepAll K ω (ps ++ qs) (vs ++ ws)
  | _, _, _, _, .nil, s => s
  | _, _, _, _, .cons h r, s => .cons h (repAll_app r s)
theorem pa_starC {p : Pos} (ha : PE X e (tP X.K G ca)) (hr : PA X es (tPs X.K G cb)) : PA X (.Starred e p :: es) (tPs X.K G (.star ca cb)) :=
  (StX.pa_star ha hr rfl).weak fun σ H Q h => by
    obtain ⟨ω, ρ, S, p, S', W, E, e, q⟩ := h
    simp only [evs] at e
    split at e <;> (first | (cases e; done) | skip)
    rename_i x S1 e1
    split at e <;> (first | (cases e; done) | skip)
    rename_i xs e0
    split at e <;> (first | (cases e; done) | skip)
    rename_i ps S2 e2
    cases e
    refine tP.mk W E e1 fun ω1 H1 v x1 W1 r1 => ?_
    obtain ⟨a, vs, rfl, rr, hh⟩ := dp_seq r1 e0
    refine ⟨a, vs, rfl, ?_, ω1, ρ, _, ps, _, W1, E.ext x1, e2, fun ω2 H2 ws x2 W2 r2 => q ω2 H2 _ (x1.trans x2) W2 (repAll_app (rpAll_rep (dpAll_mono x2.L rr)) r2)⟩
    rcases hh with ⟨h, _⟩ | ⟨h, _⟩
    · exact .inr (W1.sub.seq h)
    · exact .inl (same_tup W1.sub h).sq
/-- a tuple's display, its object known -/
theorem pe_tupF {x1} {t : TA} (h : PA X es t) : PE X (.Tuple es x1 pos) (fun σ H Q => t σ H fun xs H1 => xs.length ≤ sizeLine ∧ ∀ p us, H1 p = none → Q (.ref p) (upd H1 p (.frz (tupO us) (.tup xs)))) := by
  refine ⟨fun pins s σ H Q I hq => ?_⟩
  refine wpAny_Tuple_spliced (thn (h.run pos pins s σ H _ I hq) fun us s1 hh => ?_)
  obtain ⟨xs, H1, I1, r, z, q⟩ := hh
  have hl := r.length
  exact ⟨by omega, tup_new (tk := s1.toks) I1 r z q⟩
theorem pp_tup {x1} (h : PA X es (tPs X.K G ca)) : PE X (.Tuple es x1 pos) (tP X.K G (.tup ca)) :=
  (pe_tupF h).weak fun σ H Q h => by
    obtain ⟨ω, ρ, S, p, S', W, E, e, q⟩ := h
    simp only [ev] at e
    split at e <;> (first | (cases e; done) | skip)
    rename_i ps S1 e1
    split at e <;> (first | (cases e; done) | skip)
    rename_i xs e2
    split at e <;> (first | (cases e; done) | skip)
    rename_i hz
    cases e
    refine ⟨ω, ρ, S, ps, _, W, E, e1, fun ω1 H1 vs x1 W1 r1 => ?_⟩
    have rr := repAll_datas r1 e2
    exact ⟨by rw [dpAll_len rr]; exact fits_line hz, (q.ext x1).tup W1 rr⟩
theorem pp_lst (h : PA X es (tPs X.K G ca)) : PE X (.List es pos) (tP X.K G (.lst ca)) :=
  (pe_lst h).weak fun σ H Q h => by
    obtain ⟨ω, ρ, S, p, S', W, E, e, q⟩ := h
    simp only [ev] at e
    split at e <;> (first | (cases e; done) | skip)
    rename_i ps S1 e1
    split at e <;> (first | (cases e; done) | skip)
    rename_i xs e2
    split at e <;> (first | (cases e; done) | skip)
    rename_i hz
    cases e
    refine ⟨ω, ρ, S, ps, _, W, E, e1, fun ω1 H1 vs x1 W1 r1 => ?_⟩
    have rr := repAll_datas r1 e2
    exact ⟨by rw [dpAll_len rr]; exact fits_line hz, (q.ext x1).lst W1 rr⟩

/-! items -/
theorem plainIx (h : notSlice b = true) : PlainIx b := by
  cases b <;> first | (cases h; done) | (intro _ _; rfl)
theorem atI_map {α β : Type} (f : α → β) (xs : List α) (i : Int) : atI (xs.map f) i = (atI xs i).map f := by
  unfold atI
  rw [List.length_map]
  cases ixN xs.length i with
  | none => rfl
  | some j => simp
theorem atI_len {α β : Type} {xs : List α} {ys : List β} (h : xs.length = ys.length) {i : Int} {y : β} (e : atI ys i = some y) : ∃ j, ixN xs.length i = some j ∧ ys[j]? = some y := by
  unfold atI at e
  obtain ⟨j, h1, h2⟩ := Option.bind_eq_some_iff.mp e
  exact ⟨j, by rw [h]; exact h1, h2⟩
theorem rpAll_atI {K : PySem.W.Frag} {L : Hp} {vs : List V} {xs : List PyData} (r : RpAll K L vs xs) {i : Int} {y : PyData} (e : atI xs i = some y) : ∃ v, atI vs i = some v ∧ Rp K L v y := by
  obtain ⟨j, h1, h2⟩ := atI_len (dpAll_len r) e
  obtain ⟨v, h3, h4⟩ := dpAll_at r j _ h2
  exact ⟨v, by unfold atI; rw [h1]; exact h3, h4⟩
theorem paired_at {α β : Type} {F : α → β → Prop} : ∀ {l : List α} {m : List β}, Paired F l m → ∀ (i : Nat) (x : α), l[i]? = some x → ∃ y, m[i]? = some y ∧ F x y
  | _, _, .nil, _, _, e => by simp at e
  | _, _, .cons h r, 0, x, e => ⟨_, rfl, by simp at e; subst e; exact h⟩
  | _, _, .cons h r, i + 1, x, e => by
    obtain ⟨v, e1, q⟩ := paired_at r i x (by simpa using e)
    exact ⟨v, by simpa using e1, q⟩
theorem paired_len {α β : Type} {F : α → β → Prop} : ∀ {l : List α} {m : List β}, Paired F l m → l.length = m.length
  | _, _, .nil => rfl
  | _, _, .cons _ r => by rw [List.length_cons, List.length_cons, paired_len r]
theorem pp_ix (ha : PE X a (tP X.K G ca)) (hb : PE X b (tP X.K G cb)) (hs : notSlice b = true) : PE X (.Subscript a b pos) (tP X.K G (.ix ca cb)) :=
  (pe_ix ix_seq ha hb (plainIx hs)).weak fun σ H Q h => by
    obtain ⟨ω, ρ, S, p, S', W, E, e, q⟩ := h
    simp only [ev] at e
    split at e <;> (first | (cases e; done) | skip)
    · rename_i x S1 e1
      split at e <;> (first | (cases e; done) | skip)
      rename_i k S2 e2
      split at e <;> (first | (cases e; done) | skip)
      rename_i xs e3
      obtain ⟨y, e4, e5⟩ := Option.map_eq_some_iff.mp e
      cases e5
      refine tP.mk W E e1 fun ω1 H1 v x1 W1 r1 => tP.mk W1 (E.ext x1) e2 fun ω2 H2 u x2 W2 r2 => ?_
      obtain ⟨a, vs, rfl, rr, hh⟩ := dp_seq (dp_mono x2.L r1) e3
      obtain ⟨z, h1, h2⟩ := rpAll_atI rr e4
      have qq := (q.ext (x1.trans x2)).now W2 h2
      rcases hh with ⟨h, _⟩ | ⟨h, _⟩
      · exact .inl ⟨a, vs, k, z, rfl, rep_int r2, W2.sub.seq h, h1, qq⟩
      · exact .inr (.inl ⟨a, vs, k, z, rfl, rep_int r2, (same_tup W2.sub h).sq, h1, qq⟩)
    · rename_i n S1 e1
      split at e <;> (first | (cases e; done) | skip)
      rename_i k S2 e2
      split at e <;> (first | (cases e; done) | skip)
      rename_i xs e3
      obtain ⟨y, e4, e5⟩ := Option.map_eq_some_iff.mp e
      cases e5
      refine tP.mk W E e1 fun ω1 H1 v x1 W1 r1 => tP.mk W1 (E.ext x1) e2 fun ω2 H2 u x2 W2 r2 => ?_
      obtain ⟨c, rfl, hc⟩ := r1.ext x2
      unfold cellItems at e3
      split at e3 <;> (first | (cases e3; done) | skip)
      rename_i ps h3
      cases e3
      obtain ⟨vs, hv, rv⟩ := W2.cell n c _ hc h3
      obtain ⟨j, h4, h5⟩ := atI_len (paired_len rv).symm e4
      obtain ⟨z, h6, h7⟩ := paired_at rv j _ h5
      exact .inl ⟨c, vs, k, z, rfl, rep_int r2, SqL.of hv, by unfold atI; rw [h4]; exact h6, (q.ext (x1.trans x2)).now W2 h7⟩

/-! slices -/
def tPo (K : PySem.W.Frag) (G : Gx) (c : Code) : TO := fun σ H Q => ∃ ω ρ S o S', Wok K ω S H ∧ EnvR K ω H σ ρ ∧ asPart c (ev G c ρ S) S = some (o, S') ∧ ∀ ω' H', Ext ω H ω' H' → Wok K ω' S' H' → Q o H'
theorem po_noneC : PO X none (tPo X.K G .no) := ⟨fun pins s σ H Q I h => po_none.run pins s σ H Q I (by
  obtain ⟨ω, ρ, S, p, S', W, E, e, q⟩ := h
  cases e
  exact q ω H (Ext.refl _ _) W)⟩
theorem po_someC (hn : isNo ca = false) (h : PE X a (tP X.K G ca)) : PO X (some a) (tPo X.K G ca) := ⟨fun pins s σ H Q I h' => (po_some h).run pins s σ H Q I (by
  obtain ⟨ω, ρ, S, p, S', W, E, e, q⟩ := h'
  unfold asPart at e
  rw [hn] at e
  simp only [Bool.false_eq_true, if_false] at e
  split at e <;> (first | (cases e; done) | skip)
  rename_i i S1 e1
  cases e
  exact tP.mk W E e1 fun ω1 H1 v x1 W1 r1 => ⟨i, rep_int r1, q ω1 H1 x1 W1⟩)⟩
theorem sl_tupF : SlR X (fun x lo hi H Q => ∃ a xs, x = .ref a ∧ SqT X.K H a xs ∧ (HT.sIx xs.length 0 lo = 0 ∧ HT.sIx xs.length xs.length hi = xs.length → Q (.ref a) H) ∧
    (¬ (HT.sIx xs.length 0 lo = 0 ∧ HT.sIx xs.length xs.length hi = xs.length) → ∀ p us, H p = none → Q (.ref p) (upd H p (.frz (tupO us) (.tup (cutV xs lo hi)))))) := by
  intro pins s σ H x v vl vu lo hi sl Q I rx hs pl pu h
  obtain ⟨a, xs, rfl, hx, q1, q2⟩ := h
  by_cases hw : HT.sIx xs.length 0 lo = 0 ∧ HT.sIx xs.length xs.length hi = xs.length
  · exact sl_tupA pins s σ H _ v vl vu lo hi sl Q I rx hs pl pu ⟨a, xs, rfl, hx, q1, fun z => absurd hw z⟩
  · cases rx
    obtain ⟨its, r, ht, hz⟩ := I.tuple hx
    have hl : its.toArray.size = xs.length := by rw [List.size_toArray]; exact r.length.symm
    refine ⟨"tuple", _, PyProof.Rows.slot_tuple_getitem.lookup, ht.typeIs, ?_⟩
    refine HT.getItem_tuple_cut ht hs pl pu (by rw [hl]; exact hw) ?_ (by rw [hl]; exact hz)
    rw [hl]
    exact tup_new (tk := s.toks) I ((r.drop _).take _) (Nat.le_trans (cutV_length xs lo hi) hz) (q2 hw)
theorem cut_whole (xs : List PyData) (lo hi : Option Int) (h : HT.sIx xs.length 0 lo = 0 ∧ HT.sIx xs.length xs.length hi = xs.length) : cutD xs lo hi = xs := by
  unfold cutD
  rw [h.1, h.2]
  simp
theorem pp_sl {lo hi : Option Expr} {p2 : Pos} (ha : PE X a (tP X.K G ca)) (hl : PO X lo (tPo X.K G cb)) (hh : PO X hi (tPo X.K G cc)) : PE X (.Subscript a (.Slice lo hi none p2) pos) (tP X.K G (.sl ca cb cc)) :=
  (pe_slice (sl_list.or sl_tupF) ha hl hh).weak fun σ H Q h => by
    obtain ⟨ω, ρ, S, p, S', W, E, e, q⟩ := h
    simp only [ev] at e
    split at e <;> (first | (cases e; done) | skip)
    rename_i x S1 e1
    split at e <;> (first | (cases e; done) | skip)
    rename_i l S2 e2
    split at e <;> (first | (cases e; done) | skip)
    rename_i h S3 e3
    refine tP.mk W E e1 fun ω1 H1 v x1 W1 r1 => ⟨ω1, ρ, S1, l, S2, W1, E.ext x1, e2, fun ω2 H2 x2 W2 => ⟨ω2, ρ, S2, h, S3, W2, (E.ext x1).ext x2, e3, fun ω3 H3 x3 W3 => ?_⟩⟩
    have r3 := dp_mono x3.L (dp_mono x2.L r1)
    split at e <;> cases e
    · cases r3 with
      | tup hs hr =>
        refine .inr ⟨_, _, rfl, (same_tup W3.sub hs).sq, fun hw => (q.ext ((x1.trans x2).trans x3)).now W3 ?_, fun hw => (q.ext ((x1.trans x2).trans x3)).tup W3 (cut_pd _ _ hr l h)⟩
        rw [dpAll_len hr] at hw
        rw [cut_whole _ _ _ hw]
        exact Rp.tup hs hr
    · cases r3 with
      | lst hs hr =>
        exact .inl ⟨_, _, rfl, W3.sub.seq hs, (q.ext ((x1.trans x2).trans x3)).lst W3 (cut_pd _ _ hr l h)⟩

/-! calls -/
theorem noStars {cpos : Pos} {env : PySem.Env} : ∀ {es : List Expr}, (∀ e ∈ es, notStar e = true) → (backTo cpos (starEach es env)).any (·.1) = false
  | [], _ => rfl
  | e :: r, h => by
    rw [star_eq (h e List.mem_cons_self)]
    have ih := noStars (cpos := cpos) (env := env) fun x hx => h x (List.mem_cons_of_mem _ hx)
    show (false || (backTo cpos (starEach r env)).any (·.1)) = false
    rw [ih]
    rfl
theorem pp_call {k j : Nat} {f : Str} {p : Pos} (F : FnAt X G k j f) (hr : Room k X.A) (hg : Gl X f) (ha : PA X es (tPs X.K G ca)) (hd : (f == ("__debug__" : Str)) = false) (hns : ∀ e ∈ es, notStar e = true) (h0 : es = [] → ca = .nil) :
    PE X (.Call (.Name f p) es [] pos) (tP X.K G (.call j ca)) := by
  obtain ⟨b, fd, ps, hm, hk, hb, F⟩ := F
  have fin : ∀ σ H Q, tP X.K G (.call j ca) σ H Q → tPs X.K G ca σ H fun vs H1 => spF X.K G j (vs ++ []) H1 Q E0 := fun σ H Q h => by
    obtain ⟨ω, ρ, S, p, S', W, E, e, q⟩ := h
    simp only [ev] at e
    split at e <;> (first | (cases e; done) | skip)
    rename_i xs S1 e1
    refine ⟨ω, ρ, S, xs, S1, W, E, e1, fun ω1 H1 vs x1 W1 r1 => ?_⟩
    show spF X.K G j (vs ++ []) H1 Q E0
    rw [List.append_nil]
    exact ⟨ω1, S1, xs, p, S', W1, r1, e, q.ext x1⟩
  cases es with
  | nil =>
    refine (pe_call0 F hr hg hm hk hb .nil pass0 hd).weak fun σ H Q h => ?_
    obtain ⟨ω, ρ, S, p, S', W, E, e, q⟩ := h
    rw [h0 rfl] at e
    simp only [ev, evs] at e
    exact ⟨ω, S, [], p, S', W, .nil, e, q⟩
  | cons e r =>
    exact (pe_call F hr hg hm hk hb .nil pass0 ha hd (star_eq (hns e List.mem_cons_self)) (noStars fun x hx => hns x (List.mem_cons_of_mem _ hx))).weak fin

theorem blt_okB {b : Blt} (hc : X.calm = true) : ∀ {id : String}, bltV b = .builtin id → CallR X (.builtin id) (rC X.K (bltD b)) := by
  intro id h
  cases b <;> cases h
  · exact blt_len
  · exact blt_sorted
  · exact blt_sum hc
  · exact blt_max hc
  · exact blt_min hc
  · exact blt_all hc
  · exact blt_any hc
theorem rC_none {f : Value} {g : List PV → Store → Option PV} (h : ∀ ps S, g ps S = none) : CallR X f (rC X.K g) := by
  intro pins s σ H xs us Q I r q
  obtain ⟨ω, S, ps, p, W, rp, e, q⟩ := q
  rw [h] at e
  cases e
theorem blt_okT {b : Blt} (hc : X.calm = true) : ∀ {T : String}, bltV b = .type T → CallR X (.type T) (rC X.K (bltD b)) := by
  intro id h
  cases b <;> cases h
  · exact blt_tuple hc
  · exact blt_list hc
  · exact blt_range
  · exact blt_int
  · exact rC_none fun ps S => by simp only [bltD]
theorem blt_boot (b : Blt) : bootBuiltins (bltN b) = some (bltV b) ∧ bltN b ≠ "__name__" ∧ (bltN b == ("__debug__" : Str)) = false := by
  cases b <;> decide +kernel
theorem pp_blt {b : Blt} {p : Pos} (hc : X.calm = true) (hg : Gl X (bltN b)) (hm : X.mg (bltN b) = none) (ha : PA X (e :: es) (tPs X.K G ca)) (hns : ∀ x ∈ e :: es, notStar x = true) :
    PE X (.Call (.Name (bltN b) p) (e :: es) [] pos) (tP X.K G (.blt b ca)) := by
  obtain ⟨hv, h1, h2⟩ := blt_boot b
  have fin : ∀ σ H Q, tP X.K G (.blt b ca) σ H Q → tPs X.K G ca σ H fun vs H1 => rC X.K (bltD b) vs H1 Q := fun σ H Q h => by
    obtain ⟨ω, ρ, S, p, S', W, E, e, q⟩ := h
    simp only [ev] at e
    split at e <;> (first | (cases e; done) | skip)
    rename_i xs S1 e1
    obtain ⟨y, e2, e3⟩ := Option.map_eq_some_iff.mp e
    cases e3
    exact ⟨ω, ρ, S, xs, _, W, E, e1, fun ω1 H1 vs x1 W1 r1 => ⟨ω1, _, xs, _, W1, r1, e2, q.ext x1⟩⟩
  have s1 := star_eq (es := es) (env := X.env) (hns e List.mem_cons_self)
  have s2 := noStars (cpos := pos) (env := X.env) fun x hx => hns x (List.mem_cons_of_mem e hx)
  cases hb : bltV b with
  | builtin id =>
    rw [hb] at hv
    exact (pe_callB (blt_okB hc hb) hg hm hv ha h1 h2 s1 s2).weak fin
  | type T =>
    rw [hb] at hv
    exact (pe_callTy (blt_okT hc hb) hg hm hv ha h1 h2 s1 s2).weak fin
  | _ => cases b <;> cases hb

/-! isinstance -/
def tyD : PyData → String
  | .none => "NoneType" | .bool _ => "bool" | .int _ => "int" | .str _ => "str" | .list _ => "list" | .tuple _ => "tuple" | .dict _ => "dict"
def tykS : Tyk → String
  | .int => "int" | .bool => "bool" | .str => "str" | .tuple => "tuple" | .list => "list"
theorem kit_d (x : PyData) (t : Tyk) : kitB (tyD x) (tykS t) = some (isTy x t) := by
  have h : ∀ a ∈ ["NoneType", "bool", "int", "str", "list", "tuple", "dict"], True := fun _ _ => trivial
  cases x <;> cases t <;> simp only [tyD, tykS, isTy] <;> decide +kernel
theorem tyx_of {L H : Hp} {v : V} {x : PyData} (s : Same L H) (r : Rp X.K L v x) : TyX X.K H v (.type (tyD x)) := by
  cases r with
  | non => exact .base .non
  | bl b => exact .base (.bl b)
  | int i => exact .base (.int i)
  | str z => exact .base (.str z)
  | lst h _ =>
    rcases s.seq h with (h | ⟨o, h⟩) | ⟨o, its, n, h, hc, _⟩
    · exact .base (.lst h)
    · exact .base (.frz h)
    · exact .kList h hc
  | tup h _ =>
    rcases same_tup s h with ⟨o, h, _⟩ | ⟨o, its, n, h, hc, _⟩
    · exact .fTuple h
    · exact .kTuple h hc
end
end VC

/-! VG: isinstance, methods, comprehensions. -/
namespace VC
open PySem PySem.Spec PyProof.Rows L2

section
variable {X : Cx} {G : Gx} {a b d e : Expr} {es : List Expr} {ca cb cc : Code} {pos : Pos}
theorem boot_isinstance' : bootBuiltins ("isinstance" : Str) = some (.builtin "isinstance") ∧ ("isinstance" : Str) ≠ "__name__" ∧ (("isinstance" : Str) == ("__debug__" : Str)) = false := by decide +kernel
theorem pp_isi {T : Expr} {ts : List Tyk} {p : Pos} {tt : TE} (hg : Gl X "isinstance") (hm : X.mg "isinstance" = none) (ha : PE X a (tP X.K G ca)) (hT : PE X T tt) (na : notStar a = true) (nT : notStar T = true)
    (road : ∀ ω S H σ v x (Q : VK), Wok X.K ω S H → Rp X.K ω.L v x → (∀ H', (∃ ω', Ext ω H ω' H' ∧ Wok X.K ω' S H') → Q (.bl (ts.any (isTy x))) H') → tt σ H fun u H1 => rIsi X.K [v, u] H1 Q ∨ rIsiT X.K [v, u] H1 Q) :
    PE X (.Call (.Name "isinstance" p) [a, T] [] pos) (tP X.K G (.isi ca ts)) := by
  obtain ⟨hv, h1, h2⟩ := boot_isinstance'
  refine (pe_callB (call_isi.or call_isiT) hg hm hv (pa_cons ha (pa_cons hT pa_nil (star_eq nT)) (star_eq na)) h1 h2 (star_eq na) (noStars fun x hx => by rw [List.mem_singleton.mp hx]; exact nT)).weak fun σ H Q h => ?_
  obtain ⟨ω, ρ, S, p, S', W, E, e, q⟩ := h
  simp only [ev] at e
  split at e <;> (first | (cases e; done) | skip)
  rename_i x S1 e1
  cases e
  refine tP.mk W E e1 fun ω1 H1 v x1 W1 r1 => ?_
  refine road ω1 _ H1 σ v x Q W1 r1 fun H' hh => ?_
  obtain ⟨ω', x', W'⟩ := hh
  exact (q.ext (x1.trans x')).now W' (Rp.bl _)
theorem tyk_boot (t : Tyk) : bootBuiltins (Str.ofString (tykS t)) = some (.type (tykS t)) ∧ (Str.ofString (tykS t)) ≠ "__name__" ∧ ((Str.ofString (tykS t)) == ("__debug__" : Str)) = false := by
  cases t <;> decide +kernel
theorem pe_tyk {t : Tyk} {p : Pos} (hg : Gl X (Str.ofString (tykS t))) (hm : X.mg (Str.ofString (tykS t)) = none) : PE X (.Name (Str.ofString (tykS t)) p) (tC (.ty (tykS t))) :=
  pe_bltn hg hm (tyk_boot t).1 rfl (tyk_boot t).2.1 (tyk_boot t).2.2
theorem kit_any (x : PyData) {K : PySem.W.Frag} : ∀ ts : List Tyk, PySem.W.kitAny K (.type (tyD x)) (ts.map fun t => .type (tykS t)) = some (ts.any (isTy x))
  | [] => rfl
  | t :: r => by
    refine kitAny_cons (kit_ty (kit_d x t)) (fun h => ?_) fun h => ?_
    · rw [List.any_cons, h, Bool.false_or]
      exact kit_any x r
    · rw [List.any_cons, h, Bool.true_or]
theorem cls_all : ∀ ts : List Tyk, Paired ClsV (ts.map fun t => V.ty (tykS t)) (ts.map fun t => Value.type (tykS t))
  | [] => .nil
  | t :: r => .cons (.ty _) (cls_all r)
/-- isinstance(a, T) -/
theorem pp_isi1 {t : Tyk} {p p2 : Pos} (hg : Gl X "isinstance") (hm : X.mg "isinstance" = none) (ha : PE X a (tP X.K G ca)) (na : notStar a = true) (hg2 : Gl X (Str.ofString (tykS t))) (hm2 : X.mg (Str.ofString (tykS t)) = none) :
    PE X (.Call (.Name "isinstance" p) [a, .Name (Str.ofString (tykS t)) p2] [] pos) (tP X.K G (.isi ca [t])) :=
  pp_isi hg hm ha (pe_tyk hg2 hm2) na rfl fun ω S H σ v x Q W r q => .inl ⟨v, .ty (tykS t), .type (tyD x), .type (tykS t), isTy x t, rfl, .ty _, tyx_of W.sub r, kit_ty (kit_d x t), by
    have := q H ⟨ω, Ext.refl _ _, W⟩
    rw [List.any_cons, List.any_nil, Bool.or_false] at this
    exact this⟩
/-- isinstance(a, (T1, T2, ..)) -/
theorem pp_isiT {ts : List Tyk} {es : List Expr} {p : Pos} {x1 : Nat} {pt : Pos} {tt : TA} (hg : Gl X "isinstance") (hm : X.mg "isinstance" = none) (ha : PE X a (tP X.K G ca)) (na : notStar a = true) (hl : ts.length ≤ 1000)
    (hT : PA X es tt) (ht : ∀ σ H (Q : List V → Hp → Prop), Q (ts.map fun t => V.ty (tykS t)) H → tt σ H Q) :
    PE X (.Call (.Name "isinstance" p) [a, .Tuple es x1 pt] [] pos) (tP X.K G (.isi ca ts)) :=
  pp_isi hg hm ha (pe_tup hT) na rfl fun ω S H σ v x Q W r q => ht σ H _ ⟨by rw [List.length_map]; exact Nat.le_of_lt (small1000 hl), fun tp hp => .inr ⟨v, tp, _, .type (tyD x), _, _, rfl, upd_same, cls_all ts, by
      obtain ⟨_, _, x3, W3⟩ := Ext.new (o := .tup (ts.map fun t => V.ty (tykS t))) W hp
      exact tyx_of W3.sub r, kit_any x ts, by
      obtain ⟨_, _, x3, W3⟩ := Ext.new (o := .tup (ts.map fun t => V.ty (tykS t))) W hp
      exact q _ ⟨ω, x3, W3⟩⟩⟩

/-! methods -/
theorem pp_mt (hu : X.A.units + 65 < cLine) {m : Mth} {apos cpos : Pos} (ho : PE X a (tP X.K G ca)) (ha : PA X (e :: es) (tPs X.K G cb)) (hbase : attributeBase a (mthN m) X.env (eval a X.env) = eval a X.env) (hline : (apos.endLine == cpos.line) = true)
    (hns : ∀ x ∈ e :: es, notStar x = true) (hlen : es.length < 20) : PE X (.Call (.Attribute a (mthN m) apos) (e :: es) [] cpos) (tP X.K G (.mt m ca cb)) := by
  have s1 := star_eq (es := es) (env := X.env) (hns e List.mem_cons_self)
  have s2 := noStars (cpos := cpos) (env := X.env) fun x hx => hns x (List.mem_cons_of_mem e hx)
  have few : ((backTo cpos (starEach (e :: es) X.env)).all (fun x => !x.1) && (backToKw cpos (keywordEach [] X.env)).all (fun x => x.1.isSome)
      && decide ((e :: es).length + ([] : List Keyword).length + (if ([] : List Keyword).isEmpty then 0 else 1) < 30)) = true := by
    have s3 := noStars (cpos := cpos) (env := X.env) hns
    have s4 : (backTo cpos (starEach (e :: es) X.env)).all (fun x => !x.1) = true := by
      rw [List.all_eq_true]
      intro x hx
      rw [List.any_eq_false] at s3
      have := s3 x hx
      simpa using this
    rw [s4]
    have l : decide ((e :: es).length + ([] : List Keyword).length + (if ([] : List Keyword).isEmpty then 0 else 1) < 30) = true := by
      refine decide_eq_true ?_
      show es.length + 1 + 0 + 0 < 30
      omega
    rw [l]
    rfl
  refine (pe_mt ho ha hbase few hline s1 s2).weak fun σ H Q h => ?_
  obtain ⟨ω, ρ, S, p, S', W, E, e, q⟩ := h
  simp only [ev] at e
  split at e <;> (first | (cases e; done) | skip)
  rename_i x S1 e1
  split at e <;> (first | (cases e; done) | skip)
  rename_i ps S2 e2
  obtain ⟨y, e3, e4⟩ := Option.map_eq_some_iff.mp e
  cases e4
  refine tP.mk W E e1 fun ω1 H1 v x1 W1 r1 => ?_
  obtain ⟨T, id, r, h1, h2, h3, h4, h5, h6⟩ := mth_road hu W1 r1 m ⟨ps, _, e3⟩
  exact ⟨T, id, r, h1, h2, h3, h4, h5, ω1, ρ, S1, ps, _, W1, E.ext x1, e2, fun ω2 H2 vs x2 W2 r2 => h6 ω2 _ H2 vs ps _ Q W2 (dp_mono x2.L r1) r2 e3 (q.ext (x1.trans x2))⟩
end
end VC

/-! VH: what a loop walks; targets; list comprehensions. -/
namespace VC
open PySem PySem.Spec PyProof.Rows L2

/-- the iterator gives these items, in whatever later world it is asked -/
def ItOk (K : PySem.W.Frag) (ω : Wd) (J : It) (xs : List PV) : Prop := ∀ ω1 S H, Same ω.L ω1.L → Wok K ω1 S H → ∀ i,
  (∀ p, xs[i]? = some p → J.go i H ∧ ∀ x H', J.yld i H x H' → ∃ ω2, Ext ω1 H ω2 H' ∧ Wok K ω2 S H' ∧ Rep K ω2 p x) ∧ (xs.length ≤ i → J.stop i H)
def iP (K : PySem.W.Frag) (G : Gx) (c : Code) : TI := fun σ H R => ∃ ω ρ S p S' xs, Wok K ω S H ∧ EnvR K ω H σ ρ ∧ ev G c ρ S = some (p, S') ∧ itemsOf p = some xs ∧
  ∀ ω' H' J, Ext ω H ω' H' → Wok K ω' S' H' → ItOk K ω' J xs → R J H'
section
variable {K : PySem.W.Frag} {ω : Wd}
theorem itOk_list {a : Addr} {vs : List V} {xs : List PyData} (h : SqL K ω.L a vs) (r : RpAll K ω.L vs xs) : ItOk K ω (Itl K a) (xs.map .d) := by
  intro ω1 S H s W i
  refine ⟨fun p hp => ?_, fun hi => ⟨vs, W.sub.seq (s.seq h), ?_⟩⟩
  · rw [List.getElem?_map] at hp
    obtain ⟨y, hy, rfl⟩ := Option.map_eq_some_iff.mp hp
    obtain ⟨v, hv, rv⟩ := dpAll_at r i y hy
    refine ⟨⟨vs, v, W.sub.seq (s.seq h), hv⟩, fun x H' hx => ?_⟩
    obtain ⟨rfl, hx⟩ := hx
    have e := hx vs (W.sub.seq (s.seq h))
    rw [hv] at e
    cases e
    exact ⟨ω1, Ext.refl _ _, W, dp_mono s rv⟩
  · rw [dpAll_len r]
    simpa using hi
theorem itOk_tup {a : Addr} {vs : List V} {xs : List PyData} (h : TupAt K ω.L a vs) (r : RpAll K ω.L vs xs) : ItOk K ω (Itt K a) (xs.map .d) := by
  intro ω1 S H s W i
  refine ⟨fun p hp => ?_, fun hi => ⟨vs, (same_tup W.sub (same_tup s h)).sq, ?_⟩⟩
  · rw [List.getElem?_map] at hp
    obtain ⟨y, hy, rfl⟩ := Option.map_eq_some_iff.mp hp
    obtain ⟨v, hv, rv⟩ := dpAll_at r i y hy
    refine ⟨⟨vs, v, (same_tup W.sub (same_tup s h)).sq, hv⟩, fun x H' hx => ?_⟩
    obtain ⟨rfl, hx⟩ := hx
    have e := hx vs (same_tup W.sub (same_tup s h)).sq
    rw [hv] at e
    cases e
    exact ⟨ω1, Ext.refl _ _, W, dp_mono s rv⟩
  · rw [dpAll_len r]
    simpa using hi
theorem itemsRng_at : ∀ (n : Nat) (lo : Int) (i : Nat), i < n → (itemsRng lo n)[i]? = some (.int (lo + i))
  | 0, _, _, h => absurd h (Nat.not_lt_zero _)
  | n + 1, lo, 0, _ => by show some _ = some _; simp
  | n + 1, lo, i + 1, h => by
    show (itemsRng (lo + 1) n)[i]? = _
    rw [itemsRng_at n (lo + 1) i (by omega)]
    congr 2
    omega
theorem itOk_rng {lo : Int} {n : Nat} : ItOk K ω (Itr lo n) ((itemsRng lo n).map .d) := by
  intro ω1 S H s W i
  refine ⟨fun p hp => ?_, fun hi => ?_⟩
  · rw [List.getElem?_map] at hp
    obtain ⟨y, hy, rfl⟩ := Option.map_eq_some_iff.mp hp
    have hi : i < n := by
      have := (List.getElem?_eq_some_iff.mp hy).1
      rw [itemsRng_len] at this
      exact this
    rw [itemsRng_at n lo i hi] at hy
    cases hy
    refine ⟨hi, fun x H' hx => ?_⟩
    obtain ⟨rfl, rfl⟩ := hx
    exact ⟨ω1, Ext.refl _ _, W, Rp.int _⟩
  · rw [List.length_map, itemsRng_len] at hi
    exact hi
end

section
variable {X : Cx} {G : Gx} {tg e : Expr} {c : Code}
theorem pi_any (h : PE X e (tP X.K G c)) : PI X tg e (iP X.K G c) := by
  refine ⟨fun pins s σ H R I q => ?_⟩
  obtain ⟨ω, ρ, S, p, S', xs, W, E, e1, e2, q⟩ := q
  refine thn (h.run pins s σ H (fun x H1 => ∃ ω', Ext ω H ω' H1 ∧ Wok X.K ω' S' H1 ∧ Rep X.K ω' p x) I (tP.mk W E e1 fun ω' H' v x' W' r' => ⟨ω', x', W', r'⟩)) fun v s1 hh => ?_
  obtain ⟨x, H1, I1, r1, ω', x', W', r'⟩ := hh
  have fp : ∀ (o : Obj) (b : Addr), b ∈ [s1.heap.objs.size] → FpOk X pins H1 b := fun o b hb => by
    rw [List.mem_singleton.mp hb]
    exact I1.fpOk (Nat.le_refl _) I1.fresh
  have grow : ∀ o : Obj, L2.Inv X pins σ H1 { s1 with heap := s1.heap.push o } := fun o => I1.kept (t' := s1.toks) fun b u z => Heap.get?_push_of_some _ z
  cases p with
  | d y =>
    cases y <;> simp only [itemsOf] at e2 <;> (first | (cases e2; done) | skip) <;> cases e2
    · cases r' with
      | lst hl hr =>
        rename_i a vs
        cases r1
        obtain ⟨its, rv, pl, hz⟩ := I1.list (W'.sub.seq hl)
        refine wpAny_pyIter_list pl.isList ⟨s1.heap.objs.size, [s1.heap.objs.size], _, _, H1, rfl, grow _, turn_list a _, ⟨_, Heap.get?_push_size _ rfl, rfl, rfl⟩, fp default, ?_⟩
        exact q ω' H1 _ x' W' (itOk_list hl hr)
    · cases r' with
      | tup hl hr =>
        rename_i a vs
        cases r1
        obtain ⟨its, rv, pl, hz⟩ := I1.tuple (same_tup W'.sub hl).sq
        refine wpAny_pyIter_tuple (show s1.heap.IsTuple a its.toArray from pl) ⟨s1.heap.objs.size, [s1.heap.objs.size], _, _, H1, rfl, grow _, turn_tuple a _, ⟨_, Heap.get?_push_size _ rfl, rfl, rfl⟩, fp default, ?_⟩
        exact q ω' H1 _ x' W' (itOk_tup hl hr)
  | rng lo hi =>
    simp only [itemsOf] at e2
    split at e2
    · rename_i hz
      cases e2
      rw [Bool.and_eq_true] at hz
      obtain ⟨b1, b2⟩ := small_b hz.1
      obtain ⟨b3, b4⟩ := small_b hz.2
      obtain ⟨a, rfl, ha⟩ := r'
      cases r1
      obtain ⟨t, u, w', hr⟩ := I1.hok a _ (W'.sub _ _ ha)
      refine wpAny_pyIter_range hr (small_one b1 b2 b3 b4) ⟨s1.heap.objs.size, [s1.heap.objs.size], _, _, H1, rfl, grow _, turn_range _ lo (hi - lo).toNat, ?_, fp default, ?_⟩
      · have n1 : lo + ((0 : Nat) : Int) * 1 = lo := by simp
        have n2 : (((hi - lo).toNat : Nat) : Int) - ((0 : Nat) : Int) = Builtin.Range.rangeSize lo hi 1 := by
          rw [rangeSize_nat]
          simp
        show IsRangeIter _ _ (lo + ((0 : Nat) : Int) * 1) ((((hi - lo).toNat : Nat) : Int) - ((0 : Nat) : Int)) 1
        rw [n1, n2]
        exact Heap.get?_push_size _ rfl
      · exact q ω' H1 _ x' W' itOk_rng
    · cases e2
  | ref n => simp [itemsOf] at e2
  | own xs => exact r'.elim
end
end VC

/-! VI: targets, wiped slots, list comprehensions. -/
namespace VC
open PySem PySem.Spec PyProof.Rows L2

/-! targets -/
def gAll : List Nat → TGs
  | [] => gNil
  | i :: r => gCons (gName i) (gAll r)
def gTg (K : PySem.W.Frag) : Tg → TG
  | .one i => gName i
  | .tup l => gTup K l.length (gAll l)
def tgIn (vs : List Nat) : Tg → Prop
  | .one i => i ∈ vs
  | .tup l => ∀ i ∈ l, i ∈ vs

section
variable {K : PySem.W.Frag} {ω : Wd} {H : Hp} {σ : L2.St} {ρ : Env}
theorem EnvR.set (E : EnvR K ω H σ ρ) {i : Nat} {p : PV} {v : V} (r : Rep K ω p v) : EnvR K ω H (σ.set i (some v)) (ρ.set i (some p)) := by
  have nown : ∀ xs, p ≠ .own xs := fun xs e => by subst e; exact r.elim
  refine ⟨by rw [List.length_set, List.length_set, E.len], fun j q hq => ?_, fun j k xs ys a h1 h2 h3 h4 => ?_⟩
  · by_cases hj : i = j
    · subst hj
      by_cases hl : i < ρ.length
      · rw [List.getElem?_set_self hl] at hq
        cases hq
        exact ⟨v, by rw [List.getElem?_set_self (by rw [E.len]; exact hl)], RepE.of r⟩
      · rw [List.getElem?_eq_none (by rw [List.length_set]; omega)] at hq
        cases hq
    · rw [List.getElem?_set_ne hj] at hq
      obtain ⟨u, hu, ru⟩ := E.at_ j q hq
      exact ⟨u, by rw [List.getElem?_set_ne hj]; exact hu, ru⟩
  · have ne : ∀ m zs, (ρ.set i (some p))[m]? = some (some (.own zs)) → i ≠ m := fun m zs e z => by
      subst z
      by_cases hl : i < ρ.length
      · rw [List.getElem?_set_self hl] at e
        cases e
        exact nown _ rfl
      · rw [List.getElem?_eq_none (by rw [List.length_set]; omega)] at e
        cases e
    have nj := ne j xs h1
    have nk := ne k ys h2
    rw [List.getElem?_set_ne nj] at h1 h3
    rw [List.getElem?_set_ne nk] at h2 h4
    exact E.apart j k xs ys a h1 h2 h3 h4
theorem EnvR.unset (E : EnvR K ω H σ ρ) (i : Nat) : EnvR K ω H (σ.set i none) (ρ.set i none) := by
  have ne : ∀ m q, (ρ.set i none)[m]? = some (some q) → i ≠ m := fun m q e z => by
    subst z
    by_cases hl : i < ρ.length
    · rw [List.getElem?_set_self hl] at e
      cases e
    · rw [List.getElem?_eq_none (by rw [List.length_set]; omega)] at e
      cases e
  refine ⟨by rw [List.length_set, List.length_set, E.len], fun j q hq => ?_, fun j k xs ys a h1 h2 h3 h4 => ?_⟩
  · have hj := ne j q hq
    rw [List.getElem?_set_ne hj] at hq
    obtain ⟨u, hu, ru⟩ := E.at_ j q hq
    exact ⟨u, by rw [List.getElem?_set_ne hj]; exact hu, ru⟩
  · have nj := ne j _ h1
    have nk := ne k _ h2
    rw [List.getElem?_set_ne nj] at h1 h3
    rw [List.getElem?_set_ne nk] at h2 h4
    exact E.apart j k xs ys a h1 h2 h3 h4
theorem EnvR.wipe (E : EnvR K ω H σ ρ) : ∀ vs : List Nat, EnvR K ω H (L2.wipe σ vs) (wipeE ρ vs)
  | [] => E
  | v :: vs => (EnvR.wipe E vs).unset v
theorem wipe_set {i : Nat} {y : Option V} : ∀ {vs : List Nat} {τ : L2.St}, i ∈ vs → L2.wipe (τ.set i y) vs = L2.wipe τ vs
  | v :: vs, τ, h => by
    show (L2.wipe (τ.set i y) vs).set v none = (L2.wipe τ vs).set v none
    by_cases hm : i ∈ vs
    · rw [wipe_set hm]
    · have hv : i = v := (List.mem_cons.mp h).resolve_right hm
      subst hv
      have e : ∀ (ws : List Nat) (τ : L2.St), i ∉ ws → L2.wipe (τ.set i y) ws = (L2.wipe τ ws).set i y := by
        intro ws
        induction ws with
        | nil => intro τ _; rfl
        | cons w ws ih =>
          intro τ hw
          show (L2.wipe (τ.set i y) ws).set w none = ((L2.wipe τ ws).set w none).set i y
          rw [ih τ (fun z => hw (List.mem_cons_of_mem _ z)), List.set_comm _ _ (fun z => hw (by rw [z]; exact List.mem_cons_self))]
      rw [e vs τ hm, List.set_set]
theorem wipe_wipe (τ : L2.St) (vs : List Nat) : ∀ ws : List Nat, (∀ i ∈ ws, i ∈ vs) → L2.wipe (L2.wipe τ ws) vs = L2.wipe τ vs
  | [], _ => rfl
  | w :: ws, h => by
    show L2.wipe ((L2.wipe τ ws).set w none) vs = _
    rw [wipe_set (h w List.mem_cons_self)]
    exact wipe_wipe τ vs ws fun i hi => h i (List.mem_cons_of_mem _ hi)
theorem setAll_ok : ∀ {l : List Nat} {xs : List PyData} {vs : List V} {σ : L2.St} {ρ ρ1 : Env} {Q : L2.St → Hp → Prop}, EnvR K ω H σ ρ → RpAll K ω.L vs xs → setAll l xs ρ = some ρ1 →
    (∀ σ1, EnvR K ω H σ1 ρ1 → (∀ ws : List Nat, (∀ i ∈ l, i ∈ ws) → L2.wipe σ1 ws = L2.wipe σ ws) → Q σ1 H) → gAll l vs σ H Q
  | [], [], _, σ, ρ, ρ1, Q, E, .nil, e, q => by
    cases e
    exact ⟨rfl, q σ E fun _ _ => rfl⟩
  | i :: l, x :: xs, _, σ, ρ, ρ1, Q, E, .cons h r, e, q => by
    refine ⟨_, _, rfl, setAll_ok (E.set (p := .d x) h) r e fun σ1 E1 hw => q σ1 E1 fun ws hi => ?_⟩
    rw [hw ws fun j hj => hi j (List.mem_cons_of_mem _ hj), wipe_set (hi i List.mem_cons_self)]
  | [], _ :: _, _, _, _, _, _, _, _, e, _ => by cases e
  | _ :: _, [], _, _, _, _, _, _, _, e, _ => by cases e
theorem setAll_len : ∀ {l : List Nat} {xs : List PyData} {ρ ρ1 : Env}, setAll l xs ρ = some ρ1 → l.length = xs.length
  | [], [], _, _, _ => rfl
  | i :: l, x :: xs, ρ, ρ1, e => by rw [List.length_cons, List.length_cons, setAll_len (l := l) (xs := xs) e]
  | [], _ :: _, _, _, e => by cases e
  | _ :: _, [], _, _, e => by cases e
theorem setTg_ok {g : Tg} {p : PV} {v : V} {ρ1 : Env} {S : Store} {Q : L2.St → Hp → Prop} (W : Wok K ω S H) (E : EnvR K ω H σ ρ) (r : Rep K ω p v) (e : setTg g p ρ = some ρ1)
    (q : ∀ σ1, EnvR K ω H σ1 ρ1 → (∀ ws : List Nat, tgIn ws g → L2.wipe σ1 ws = L2.wipe σ ws) → Q σ1 H) : gTg K g v σ H Q := by
  cases g with
  | one i =>
    cases e
    exact q _ (E.set r) fun ws hi => wipe_set hi
  | tup l =>
    cases p with
    | d y =>
      cases y <;> simp only [setTg] at e <;> (first | (cases e; done) | skip)
      cases r with
      | tup hs hr =>
        refine ⟨_, _, rfl, (same_tup W.sub hs).sq, ?_, setAll_ok E hr e fun σ1 E1 hw => q σ1 E1 hw⟩
        rw [dpAll_len hr, setAll_len e]
    | rng _ _ => cases e
    | ref _ => cases e
    | own _ => cases e
end

/-! list comprehensions -/
structure AccL (K : PySem.W.Frag) (ω0 : Wd) (H0 : Hp) (D : Addr) (ω : Wd) (S : Store) (H : Hp) (acc : List PyData) : Prop where
  x : Ext ω0 H0 ω H
  W : Wok K ω S H
  dl : ∃ vs, H D = some (.lst vs) ∧ RpAll K ω.L vs acc
  n : ω.L D = none
  m : D ∉ ω.al
section
variable {K : PySem.W.Frag} {ω0 ω ω' : Wd} {H0 H H' : Hp} {D : Addr} {S S' : Store} {acc : List PyData}
theorem AccL.start (W : Wok K ω0 S H0) (h : H0 D = none) : AccL K ω0 H0 D ω0 S (upd H0 D (.lst [])) [] := by
  obtain ⟨_, _, x, W'⟩ := Ext.new (o := .lst []) W h
  refine ⟨x, W', ⟨[], upd_same, .nil⟩, W.sub.free h, fun hm => ?_⟩
  obtain ⟨n, hn, e⟩ := List.getElem_of_mem hm
  obtain ⟨c, e2⟩ : ∃ c, S[n]? = some c := ⟨_, List.getElem?_eq_getElem (show n < S.length by rw [← W.len]; exact hn)⟩
  have q := W.cell n D c (by rw [List.getElem?_eq_getElem hn, e]) e2
  cases c with
  | lst ps =>
    obtain ⟨vs, e, _⟩ := q
    rw [h] at e
    cases e
theorem AccL.step (A : AccL K ω0 H0 D ω S H acc) (x : Ext ω H ω' H') (W : Wok K ω' S' H') : AccL K ω0 H0 D ω' S' H' acc := by
  obtain ⟨vs, h, r⟩ := A.dl
  have ht : H D ≠ none := by rw [h]; simp
  exact ⟨A.x.trans x, W, ⟨vs, x.keep D _ h A.m, dpAll_mono x.L r⟩, x.fresh D ht A.n, fun z => A.m (x.freshA D ht z)⟩
theorem AccL.push (A : AccL K ω0 H0 D ω S H acc) (h0 : H0 D = none) {vs : List V} {v : V} {y : PyData} (h : H D = some (.lst vs)) (r : Rp K ω.L v y) : AccL K ω0 H0 D ω S (upd H D (.lst (vs ++ [v]))) (acc ++ [y]) := by
  obtain ⟨vs', h', rs⟩ := A.dl
  rw [h] at h'
  cases h'
  have ne : ∀ b, H0 b ≠ none → b ≠ D := fun b hb z => hb (by rw [z]; exact h0)
  refine ⟨⟨A.x.L, A.x.al, fun a o e n => ?_, fun a e => ?_, A.x.fresh, A.x.freshA⟩, ⟨fun b o e => ?_, A.W.nd, A.W.ap, A.W.len, fun n a c e1 e2 => ?_⟩, ⟨_, upd_same, dpAll_app rs (.cons r .nil)⟩, A.n, A.m⟩
  · rw [upd_ne (ne a (by rw [e]; simp))]
    exact A.x.keep a o e n
  · rw [upd_ne (ne a e)]
    exact A.x.there a e
  · rw [upd_ne (ne_of_none e A.n)]
    exact A.W.sub b o e
  · have q := A.W.cell n a c e1 e2
    have hne : a ≠ D := fun z => A.m (by rw [← z]; exact List.mem_of_getElem? e1)
    cases c with
    | lst ps =>
      obtain ⟨ws, hw, rw'⟩ := q
      exact ⟨ws, by rw [upd_ne hne]; exact hw, rw'⟩
/-- the finished list: nobody's any more -/
theorem AccL.fin (A : AccL K ω0 H0 D ω S H acc) (h0 : H0 D = none) : ∃ ω', Ext ω0 H0 ω' H ∧ Wok K ω' S H ∧ Rp K ω'.L (.ref D) (.list acc) := by
  obtain ⟨vs, h, rs⟩ := A.dl
  have sL : Same ω.L (upd ω.L D (.lst vs)) := fun b o e => by rw [upd_ne (ne_of_none e A.n)]; exact e
  refine ⟨⟨upd ω.L D (.lst vs), ω.al⟩, ⟨A.x.L.trans sL, A.x.al, A.x.keep, A.x.there, fun a e n => ?_, A.x.freshA⟩, ⟨fun b o e => ?_, A.W.nd, fun b hb => ?_, A.W.len, fun n a c e1 e2 => ?_⟩, Rp.lst (SqL.of upd_same) (dpAll_mono sL rs)⟩
  · have hne : a ≠ D := fun z => e (by rw [z]; exact h0)
    show upd ω.L D (.lst vs) a = none
    rw [upd_ne hne]
    exact A.x.fresh a e n
  · have e : upd ω.L D (.lst vs) b = some o := e
    by_cases hb : b = D
    · subst hb
      rw [upd_same] at e
      cases e
      exact h
    · rw [upd_ne hb] at e
      exact A.W.sub b o e
  · show upd ω.L D (.lst vs) b = none
    rw [upd_ne (fun z => A.m (by rw [← z]; exact hb))]
    exact A.W.ap b hb
  · have q := A.W.cell n a c e1 e2
    cases c with
    | lst ps =>
      obtain ⟨ws, hw, rw'⟩ := q
      exact ⟨ws, hw, Paired.mapP rw' fun _ _ z => Rep.mono (ω' := ⟨upd ω.L D (.lst vs), ω.al⟩) sL (List.prefix_refl _) z⟩
end

/-- a condition -/
def tCf (K : PySem.W.Frag) (G : Gx) (c : Code) : TT := fun σ H Q => ∃ ω ρ S b S', Wok K ω S H ∧ EnvR K ω H σ ρ ∧ asCond c (ev G c ρ S) S = some (b, S') ∧ ∀ ω' H', Ext ω H ω' H' → Wok K ω' S' H' → Q b H'
theorem _root_.L2.PTs.weak {X : Cx} {e : List Expr} {t t' : TT} (h : PTs X e t) (w : ∀ σ H Q, t' σ H Q → t σ H Q) : PTs X e t' := ⟨fun pins s σ H Q I q => h.run pins s σ H Q I (w σ H Q q)⟩
section
variable {X : Cx} {G : Gx} {elt tg it : Expr} {ifs : List Expr} {cx ci cc : Code} {g : Tg} {pos : Pos}
theorem pts_nilC : PTs X [] (tCf X.K G .no) := pts_nil.weak fun σ H Q h => by
  obtain ⟨ω, ρ, S, b, S', W, E, e, q⟩ := h
  cases e
  exact q ω H (Ext.refl _ _) W
theorem pts_oneC {a : Expr} (hn : isNo cc = false) (h : PT X a (tPb X.K G cc)) : PTs X [a] (tCf X.K G cc) := (pts_one h).weak fun σ H Q h => by
  obtain ⟨ω, ρ, S, b, S', W, E, e, q⟩ := h
  unfold asCond at e
  rw [hn] at e
  simp only [Bool.false_eq_true, if_false] at e
  split at e <;> (first | (cases e; done) | skip)
  rename_i b' S1 e1
  cases e
  exact ⟨ω, ρ, S, b, _, W, E, e1, q⟩
theorem big100 {n m : Nat} (h : fits m = true) (h2 : n < m) : n < sizeLine := by
  have := of_decide_eq_true h
  rw [sizeLine_eq]
  omega
theorem pp_lc {scope : Scope} {own : List (Str × Nat)} (hc : X.calm = true) (hN : X.N.Nodup) (hi : PI X tg it (iP X.K G ci)) (ok : BlkOk X.N X.env.scope scope own)
    (hg : ∀ (s : Shared) (H : Hp) (C : Addr) (cl : List (Str × Addr)) (fp : List Addr), PG (X.blk s H scope (compEnvC scope cl C X.env) fp) tg (gTg X.K g))
    (ht : ∀ (s : Shared) (H : Hp) (C : Addr) (cl : List (Str × Addr)) (fp : List Addr), PTs (X.blk s H scope (compEnvC scope cl C X.env) fp) ifs (tCf X.K G cc))
    (he : ∀ (s : Shared) (H : Hp) (C : Addr) (cl : List (Str × Addr)) (fp : List Addr), PE (X.blk s H scope (compEnvC scope cl C X.env) fp) elt (tP X.K G cx))
    (hs : ∀ x, foldedSetIterable it X.env x = pure x) (hin : tgIn (own.map (·.2)) g) :
    PE X (.ListComp elt [⟨tg, it, ifs, 0⟩] scope pos) (tLc (iP X.K G ci) (gTg X.K g) (tCf X.K G cc) (tP X.K G cx) (own.map (·.2))) ∧
    (∀ (i : Nat) (y : Str) (py spos : Pos), X.N[i]? = some y → X.env.scope.names.lookup y = some .local → swapsWith (.ListComp elt [⟨tg, it, ifs, 0⟩] scope pos) (some (.Name y py)) spos.line X.env = pure true →
      PS X (.Assign [.Name y py] (.ListComp elt [⟨tg, it, ifs, 0⟩] scope pos) spos) (tAsg (tLc (iP X.K G ci) (gTg X.K g) (tCf X.K G cc) (tP X.K G cx) (own.map (·.2))) (gName i))) ∧
    ∀ σ H Q, tP X.K G (.lc cx g ci cc (own.map (·.2))) σ H Q → tLc (iP X.K G ci) (gTg X.K g) (tCf X.K G cc) (tP X.K G cx) (own.map (·.2)) σ H Q := by
  refine ⟨pe_lc hc hN hi ok hg ht he hs, fun i y py spos h1 h2 h3 => ps_setLc hc hN h1 h2 h3 hi ok hg ht he hs, fun σ H Q h => ?_⟩
  obtain ⟨ω, ρ, S, p, S', W, E, e, q⟩ := h
  generalize hvs : own.map (·.2) = vs at hin e ⊢
  simp only [ev] at e
  split at e <;> (first | (cases e; done) | skip)
  rename_i p1 S1 e1
  split at e <;> (first | (cases e; done) | skip)
  rename_i xs e2
  split at e <;> (first | (cases e; done) | skip)
  rename_i ys S5 e3
  split at e <;> (first | (cases e; done) | skip)
  rename_i hz
  cases e
  refine ⟨ω, ρ, S, p1, S1, xs, W, E, e1, e2, fun ω1 H1 J x1 W1 it => fun D hD => ?_⟩
  generalize hst : (fun (x : PV) (S2 : Store) => _ : PV → Store → Option (List PyData × Store)) = step at e3
  refine ⟨fun i m H => m = xs.length - i ∧ i ≤ xs.length ∧ ∃ ω2 S2 acc rest, AccL X.K ω1 H1 D ω2 S2 H acc ∧ lcLoop step (xs.drop i) S2 = some (rest, S') ∧ acc ++ rest = ys,
    ⟨xs.length, by simp, Nat.zero_le _, ω1, S1, [], ys, AccL.start W1 hD, by rw [List.drop_zero]; exact e3, rfl⟩, ?_⟩
  rintro i m H2 ⟨rfl, hi, ω2, S2, acc, rest, A, hl, hsum⟩
  by_cases hlt : i < xs.length
  · have hx : xs[i]? = some xs[i] := List.getElem?_eq_getElem hlt
    have hd : xs.drop i = xs[i] :: xs.drop (i + 1) := List.drop_eq_getElem_cons hlt
    generalize xs[i] = x at hx hd
    rw [hd] at hl
    simp only [lcLoop] at hl
    split at hl <;> (first | (cases hl; done) | skip)
    rename_i zs S3 e4
    split at hl <;> (first | (cases hl; done) | skip)
    rename_i zs2 S4 e5
    cases hl
    obtain ⟨go, yl⟩ := (it ω2 S2 H2 A.x.L A.W i).1 x hx
    refine .inr ⟨go, fun H' => ∃ m', m' < xs.length - i ∧ m' = xs.length - (i + 1) ∧ i + 1 ≤ xs.length ∧ ∃ ω2 S2 acc rest, AccL X.K ω1 H1 D ω2 S2 H' acc ∧ lcLoop step (xs.drop (i + 1)) S2 = some (rest, S') ∧ acc ++ rest = ys, fun H' hh => ?_, fun u H3 hy => ?_⟩
    · obtain ⟨m', h1, h2, h3⟩ := hh
      exact ⟨m', h1, h2, h3⟩
    · obtain ⟨ω3, x3, W3, r3⟩ := yl u H3 hy
      have A3 := A.step x3 W3
      have E3 : EnvR X.K ω3 H3 σ ρ := (E.ext x1).ext A3.x
      rw [← hst] at e4
      dsimp only at e4
      split at e4 <;> (first | (cases e4; done) | skip)
      rename_i ρ1 e6
      have fin : ∀ {ω6 H6 acc6}, AccL X.K ω1 H1 D ω6 S3 H6 acc6 → acc6 ++ zs2 = ys → ∃ m', m' < xs.length - i ∧ m' = xs.length - (i + 1) ∧ i + 1 ≤ xs.length ∧ ∃ ω2 S2 acc rest, AccL X.K ω1 H1 D ω2 S2 H6 acc ∧ lcLoop step (xs.drop (i + 1)) S2 = some (rest, S') ∧ acc ++ rest = ys :=
        fun {ω6 H6 acc6} A6 hs6 => ⟨_, by omega, rfl, hlt, ω6, S3, acc6, zs2, A6, e5, hs6⟩
      refine setTg_ok W3 (E3.wipe vs) r3 e6 fun σ1 E1 hw => ⟨?_, ?_⟩
      · rw [hw vs hin, wipe_wipe σ vs vs fun _ z => z]
      · split at e4 <;> (first | (cases e4; done) | skip)
        · rename_i S7 e7
          split at e4 <;> (first | (cases e4; done) | skip)
          rename_i y S8 e8
          cases e4
          refine ⟨ω3, ρ1, S2, true, S7, W3, E1, e7, fun ω4 H4 x4 W4 => iteT (tP.mk W4 (E1.ext x4) e8 fun ω5 H5 v x5 W5 r5 => ?_)⟩
          have A5 := (A3.step x4 W4).step x5 W5
          obtain ⟨vs5, h5, rs5⟩ := A5.dl
          refine ⟨vs5, h5, ?_, fin (A5.push hD h5 r5) (by rw [List.append_assoc]; exact hsum)⟩
          refine big100 hz ?_
          rw [dpAll_len rs5, ← hsum]
          simp only [List.length_append, List.length_cons]
          omega
        · rename_i S7 e7
          cases e4
          exact ⟨ω3, ρ1, S2, false, _, W3, E1, e7, fun ω4 H4 x4 W4 => iteF (fin (A3.step x4 W4) hsum)⟩
  · have hie : i = xs.length := by omega
    subst hie
    rw [List.drop_length] at hl
    cases hl
    rw [List.append_nil] at hsum
    subst hsum
    obtain ⟨ω6, x6, W6, r6⟩ := A.fin hD
    exact .inl ⟨(it ω2 _ H2 A.x.L A.W xs.length).2 (Nat.le_refl _), (q.ext x1) ω6 H2 _ x6 W6 r6⟩
end
end VC

/-! VJ: list comprehensions with two clauses. -/
namespace VC
open PySem PySem.Spec PyProof.Rows L2

/-- no list of the def's own stands in a slot -/
def Free (ρ : Env) : Prop := ∀ (i : Nat) (xs : List PyData), ρ[i]? ≠ some (some (.own xs))
section
variable {K : PySem.W.Frag} {ω ω' : Wd} {H H' : Hp} {σ : L2.St} {ρ ρ1 : Env}
theorem noOwn_at {i : Nat} {o : Option PV} (h : (noOwn ρ)[i]? = some o) : ρ[i]? = some o ∨ (o = none ∧ ∃ xs, ρ[i]? = some (some (.own xs))) := by
  unfold noOwn at h
  rw [List.getElem?_map] at h
  obtain ⟨q, hq, e⟩ := Option.map_eq_some_iff.mp h
  split at e
  · exact .inr ⟨e.symm, _, hq⟩
  · exact .inl (by rw [hq, e])
theorem free_noOwn : Free (noOwn ρ) := fun i xs h => by
  rcases noOwn_at h with h' | ⟨h', _⟩
  · unfold noOwn at h
    rw [List.getElem?_map, h'] at h
    cases h
  · cases h'
theorem EnvR.noOwn (E : EnvR K ω H σ ρ) : EnvR K ω H σ (noOwn ρ) :=
  ⟨by rw [E.len]; unfold VC.noOwn; rw [List.length_map], fun i p h => (noOwn_at h).elim (fun h => E.at_ i p h) (fun z => nomatch z.1), fun i j xs ys a h _ _ _ => absurd h (free_noOwn i xs)⟩
theorem free_unset (F : Free ρ) (i : Nat) : Free (ρ.set i none) := fun j xs h => by
  by_cases hj : i = j
  · subst hj
    by_cases hl : i < ρ.length
    · rw [List.getElem?_set_self hl] at h
      cases h
    · rw [List.getElem?_eq_none (by rw [List.length_set]; omega)] at h
      cases h
  · rw [List.getElem?_set_ne hj] at h
    exact F j xs h
theorem free_wipe (F : Free ρ) : ∀ vs : List Nat, Free (wipeE ρ vs)
  | [] => F
  | v :: vs => free_unset (free_wipe F vs) v
theorem free_set (F : Free ρ) {p : PV} (hp : ∀ xs, p ≠ .own xs) (i : Nat) : Free (ρ.set i (some p)) := fun j xs h => by
  by_cases hj : i = j
  · subst hj
    by_cases hl : i < ρ.length
    · rw [List.getElem?_set_self hl] at h
      cases h
      exact hp _ rfl
    · rw [List.getElem?_eq_none (by rw [List.length_set]; omega)] at h
      cases h
  · rw [List.getElem?_set_ne hj] at h
    exact F j xs h
theorem free_setAll : ∀ {l : List Nat} {xs : List PyData} {ρ ρ1 : Env}, Free ρ → setAll l xs ρ = some ρ1 → Free ρ1
  | [], [], _, _, F, e => by cases e; exact F
  | i :: l, x :: xs, _, _, F, e => free_setAll (l := l) (xs := xs) (free_set F (fun _ z => by cases z) i) e
  | [], _ :: _, _, _, _, e => by cases e
  | _ :: _, [], _, _, _, e => by cases e
theorem free_setTg {g : Tg} {p : PV} (F : Free ρ) (hp : ∀ xs, p ≠ .own xs) (e : setTg g p ρ = some ρ1) : Free ρ1 := by
  cases g with
  | one i => cases e; exact free_set F hp i
  | tup l =>
    cases p with
    | d y => cases y <;> simp only [setTg] at e <;> (first | (cases e; done) | skip); exact free_setAll F e
    | rng _ _ => cases e
    | ref _ => cases e
    | own _ => cases e
theorem Rep.not_own {p : PV} {v : V} (r : Rep K ω p v) : ∀ xs, p ≠ .own xs := fun xs e => by subst e; exact r.elim
theorem EnvR.move (F : Free ρ) (E : EnvR K ω H σ ρ) (s : Same ω.L ω'.L) (a : ω.al <+: ω'.al) : EnvR K ω' H' σ ρ :=
  ⟨E.len, fun i p h => (by
    obtain ⟨v, hv, r⟩ := E.at_ i p h
    refine ⟨v, hv, ?_⟩
    cases p with
    | own xs => exact absurd h (F i xs)
    | d x => exact Rep.mono (K := K) (p := .d x) s a r
    | rng lo hi => exact Rep.mono (K := K) (p := .rng lo hi) s a r
    | ref n => exact Rep.mono (K := K) (p := .ref n) s a r), fun i j xs ys a h _ _ _ => absurd h (F i xs)⟩
end

section
variable {X : Cx} {G : Gx} {elt tg it tg1 it1 : Expr} {ifs ifs1 : List Expr} {cx ci cc ci1 cc1 : Code} {g g1 : Tg} {pos : Pos}
theorem pp_lc2 {scope : Scope} {own : List (Str × Nat)} {vs1 : List Nat} (hc : X.calm = true) (hN : X.N.Nodup) (hi : PI X tg it (iP X.K G ci)) (ok : BlkOk X.N X.env.scope scope own) (hv : ∀ i ∈ vs1, i ∈ own.map (·.2))
    (hg : ∀ (s : Shared) (H : Hp) (C : Addr) (cl : List (Str × Addr)) (fp : List Addr), PG (X.blk s H scope (compEnvC scope cl C X.env) fp) tg (gTg X.K g))
    (ht : ∀ (s : Shared) (H : Hp) (C : Addr) (cl : List (Str × Addr)) (fp : List Addr), PTs (X.blk s H scope (compEnvC scope cl C X.env) fp) ifs (tCf X.K G cc))
    (hi1 : ∀ (s : Shared) (H : Hp) (C : Addr) (cl : List (Str × Addr)) (fp : List Addr), PI (X.blk s H scope (compEnvC scope cl C X.env) fp) tg1 it1 (iP X.K G ci1))
    (hg1 : ∀ (s : Shared) (H : Hp) (C : Addr) (cl : List (Str × Addr)) (fp : List Addr), PG (X.blk s H scope (compEnvC scope cl C X.env) fp) tg1 (gTg X.K g1))
    (ht1 : ∀ (s : Shared) (H : Hp) (C : Addr) (cl : List (Str × Addr)) (fp : List Addr), PTs (X.blk s H scope (compEnvC scope cl C X.env) fp) ifs1 (tCf X.K G cc1))
    (he : ∀ (s : Shared) (H : Hp) (C : Addr) (cl : List (Str × Addr)) (fp : List Addr), PE (X.blk s H scope (compEnvC scope cl C X.env) fp) elt (tP X.K G cx))
    (hs : ∀ x, foldedSetIterable it X.env x = pure x) (hs1 : ∀ env x, foldedSetIterable it1 env x = pure x) (hin : tgIn (own.map (·.2)) g) (hin1 : tgIn vs1 g1) :
    PE X (.ListComp elt [⟨tg, it, ifs, 0⟩, ⟨tg1, it1, ifs1, 0⟩] scope pos) (tLc2 (iP X.K G ci) (gTg X.K g) (tCf X.K G cc) (iP X.K G ci1) (gTg X.K g1) (tCf X.K G cc1) (tP X.K G cx) (own.map (·.2)) vs1) ∧
    (∀ (i : Nat) (y : Str) (py spos : Pos), X.N[i]? = some y → X.env.scope.names.lookup y = some .local → swapsWith (.ListComp elt [⟨tg, it, ifs, 0⟩, ⟨tg1, it1, ifs1, 0⟩] scope pos) (some (.Name y py)) spos.line X.env = pure true →
      PS X (.Assign [.Name y py] (.ListComp elt [⟨tg, it, ifs, 0⟩, ⟨tg1, it1, ifs1, 0⟩] scope pos) spos) (tAsg (tLc2 (iP X.K G ci) (gTg X.K g) (tCf X.K G cc) (iP X.K G ci1) (gTg X.K g1) (tCf X.K G cc1) (tP X.K G cx) (own.map (·.2)) vs1) (gName i))) ∧
    ∀ σ H Q, tP X.K G (.lc2 cx g ci cc g1 ci1 cc1 (own.map (·.2)) vs1) σ H Q → tLc2 (iP X.K G ci) (gTg X.K g) (tCf X.K G cc) (iP X.K G ci1) (gTg X.K g1) (tCf X.K G cc1) (tP X.K G cx) (own.map (·.2)) vs1 σ H Q := by
  refine ⟨pe_lc2 hc hN hi ok hv hg ht hi1 hg1 ht1 he hs hs1, fun i y py spos h1 h2 h3 => ps_setLc2 hc hN h1 h2 h3 hi ok hv hg ht hi1 hg1 ht1 he hs hs1, fun σ H Q h => ?_⟩
  obtain ⟨ω, ρ, S, p, S', W, E, e, q⟩ := h
  generalize hvs : own.map (·.2) = vs at hin e ⊢
  simp only [ev] at e
  split at e <;> (first | (cases e; done) | skip)
  rename_i p1 S1 e1
  split at e <;> (first | (cases e; done) | skip)
  rename_i xs e2
  split at e <;> (first | (cases e; done) | skip)
  rename_i ys S5 e3
  split at e <;> (first | (cases e; done) | skip)
  rename_i hz
  cases e
  refine ⟨ω, ρ, S, p1, S1, xs, W, E, e1, e2, fun ω1 H1 J x1 W1 it => fun D hD => ?_⟩
  generalize hst : (fun (x : PV) (S2 : Store) => _ : PV → Store → Option (List PyData × Store)) = step at e3
  refine ⟨fun i m H => m = xs.length - i ∧ i ≤ xs.length ∧ ∃ ω2 S2 acc rest, AccL X.K ω1 H1 D ω2 S2 H acc ∧ lcLoop step (xs.drop i) S2 = some (rest, S') ∧ acc ++ rest = ys,
    ⟨xs.length, by simp, Nat.zero_le _, ω1, S1, [], ys, AccL.start W1 hD, by rw [List.drop_zero]; exact e3, rfl⟩, ?_⟩
  rintro i m H2 ⟨rfl, hi, ω2, S2, acc, rest, A, hl, hsum⟩
  by_cases hlt : i < xs.length
  · have hx : xs[i]? = some xs[i] := List.getElem?_eq_getElem hlt
    have hd : xs.drop i = xs[i] :: xs.drop (i + 1) := List.drop_eq_getElem_cons hlt
    generalize xs[i] = x at hx hd
    rw [hd] at hl
    simp only [lcLoop] at hl
    split at hl <;> (first | (cases hl; done) | skip)
    rename_i zs S3 e4
    split at hl <;> (first | (cases hl; done) | skip)
    rename_i zs2 S4 e5
    cases hl
    obtain ⟨go, yl⟩ := (it ω2 S2 H2 A.x.L A.W i).1 x hx
    refine .inr ⟨go, fun H' => ∃ m', m' < xs.length - i ∧ m' = xs.length - (i + 1) ∧ i + 1 ≤ xs.length ∧ ∃ ω2 S2 acc rest, AccL X.K ω1 H1 D ω2 S2 H' acc ∧ lcLoop step (xs.drop (i + 1)) S2 = some (rest, S') ∧ acc ++ rest = ys, fun H' hh => ?_, fun u H3 hy => ?_⟩
    · obtain ⟨m', h1, h2, h3⟩ := hh
      exact ⟨m', h1, h2, h3⟩
    · obtain ⟨ω3, x3, W3, r3⟩ := yl u H3 hy
      have A3 := A.step x3 W3
      have E3 : EnvR X.K ω3 H3 σ ρ := (E.ext x1).ext A3.x
      rw [← hst] at e4
      dsimp only at e4
      split at e4 <;> (first | (cases e4; done) | skip)
      rename_i ρ1 e6
      have fin : ∀ {ω6 H6 acc6}, AccL X.K ω1 H1 D ω6 S3 H6 acc6 → acc6 ++ zs2 = ys → ∃ m', m' < xs.length - i ∧ m' = xs.length - (i + 1) ∧ i + 1 ≤ xs.length ∧ ∃ ω2 S2 acc rest, AccL X.K ω1 H1 D ω2 S2 H6 acc ∧ lcLoop step (xs.drop (i + 1)) S2 = some (rest, S') ∧ acc ++ rest = ys :=
        fun {ω6 H6 acc6} A6 hs6 => ⟨_, by omega, rfl, hlt, ω6, S3, acc6, zs2, A6, e5, hs6⟩
      have F1 : Free ρ1 := free_setTg (free_wipe free_noOwn vs) r3.not_own e6
      refine setTg_ok W3 (E3.noOwn.wipe vs) r3 e6 fun σ1 E1 hw => ⟨?_, ?_⟩
      · rw [hw vs hin, wipe_wipe σ vs vs fun _ z => z]
      · split at e4 <;> (first | (cases e4; done) | skip)
        · rename_i S7 e7
          split at e4 <;> (first | (cases e4; done) | skip)
          rename_i p2 S8 e8
          split at e4 <;> (first | (cases e4; done) | skip)
          rename_i xs1 e9
          refine ⟨ω3, ρ1, S2, true, S7, W3, E1, e7, fun ω4 H4 x4 W4 => iteT ?_⟩
          refine ⟨ω4, ρ1, S7, p2, S8, xs1, W4, E1.ext x4, e8, e9, fun ω5 H5 J1 x5 W5 it1 => ?_⟩
          have A5 := (A3.step x4 W4).step x5 W5
          have E5 : EnvR X.K ω5 H5 σ1 ρ1 := (E1.ext x4).ext x5
          generalize hst1 : (fun (x : PV) (S2 : Store) => _ : PV → Store → Option (List PyData × Store)) = step1 at e4
          refine ⟨fun j k H => k = xs1.length - j ∧ j ≤ xs1.length ∧ ∃ ω2 S2 acc rest, AccL X.K ω1 H1 D ω2 S2 H acc ∧ Same ω5.L ω2.L ∧ ω5.al <+: ω2.al ∧ lcLoop step1 (xs1.drop j) S2 = some (rest, S3) ∧ acc ++ (rest ++ zs2) = ys,
            ⟨xs1.length, by simp, Nat.zero_le _, ω5, S8, acc, zs, A5, Same.refl _, List.prefix_refl _, by rw [List.drop_zero]; exact e4, hsum⟩, ?_⟩
          rintro j k H6 ⟨rfl, hj, ω6, S6, acc6, rest6, A6, sL6, al6, hl6, hsum6⟩
          by_cases hjt : j < xs1.length
          · have hx' : xs1[j]? = some xs1[j] := List.getElem?_eq_getElem hjt
            have hd' : xs1.drop j = xs1[j] :: xs1.drop (j + 1) := List.drop_eq_getElem_cons hjt
            generalize xs1[j] = x' at hx' hd'
            rw [hd'] at hl6
            simp only [lcLoop] at hl6
            split at hl6 <;> (first | (cases hl6; done) | skip)
            rename_i us S9 f1
            split at hl6 <;> (first | (cases hl6; done) | skip)
            rename_i us2 S10 f2
            cases hl6
            obtain ⟨go', yl'⟩ := (it1 ω6 S6 H6 sL6 A6.W j).1 x' hx'
            refine .inr ⟨go', fun H' => ∃ k', k' < xs1.length - j ∧ k' = xs1.length - (j + 1) ∧ j + 1 ≤ xs1.length ∧ ∃ ω2 S2 acc rest, AccL X.K ω1 H1 D ω2 S2 H' acc ∧ Same ω5.L ω2.L ∧ ω5.al <+: ω2.al ∧ lcLoop step1 (xs1.drop (j + 1)) S2 = some (rest, S3) ∧ acc ++ (rest ++ zs2) = ys, fun H' hh => ?_, fun u' H7 hy' => ?_⟩
            · obtain ⟨m', h1, h2, h3⟩ := hh
              exact ⟨m', h1, h2, h3⟩
            · obtain ⟨ω7, x7, W7, r7⟩ := yl' u' H7 hy'
              have A7 := A6.step x7 W7
              have sL7 := sL6.trans x7.L
              have al7 := al6.trans x7.al
              have E7 : EnvR X.K ω7 H7 σ1 ρ1 := E5.move F1 sL7 al7
              rw [← hst1] at f1
              dsimp only at f1
              split at f1 <;> (first | (cases f1; done) | skip)
              rename_i ρ2 f3
              have fin1 : ∀ {ω6 H6 acc6}, AccL X.K ω1 H1 D ω6 S9 H6 acc6 → Same ω5.L ω6.L → ω5.al <+: ω6.al → acc6 ++ (us2 ++ zs2) = ys → ∃ k', k' < xs1.length - j ∧ k' = xs1.length - (j + 1) ∧ j + 1 ≤ xs1.length ∧ ∃ ω2 S2 acc rest, AccL X.K ω1 H1 D ω2 S2 H6 acc ∧ Same ω5.L ω2.L ∧ ω5.al <+: ω2.al ∧ lcLoop step1 (xs1.drop (j + 1)) S2 = some (rest, S3) ∧ acc ++ (rest ++ zs2) = ys :=
                fun {ω6 H6 acc6} A6 l6 p6 hs6 => ⟨_, by omega, rfl, hjt, ω6, S9, acc6, us2, A6, l6, p6, f2, hs6⟩
              refine setTg_ok W7 (E7.wipe vs1) r7 f3 fun σ2 E2 hw2 => ⟨?_, ?_⟩
              · rw [hw2 vs1 hin1, wipe_wipe σ1 vs1 vs1 fun _ z => z]
              · split at f1 <;> (first | (cases f1; done) | skip)
                · rename_i S11 f4
                  split at f1 <;> (first | (cases f1; done) | skip)
                  rename_i y S12 f5
                  cases f1
                  refine ⟨ω7, ρ2, S6, true, S11, W7, E2, f4, fun ω8 H8 x8 W8 => iteT (tP.mk W8 (E2.ext x8) f5 fun ω9 H9 v x9 W9 r9 => ?_)⟩
                  have A9 := (A7.step x8 W8).step x9 W9
                  obtain ⟨vs9, h9, rs9⟩ := A9.dl
                  refine ⟨vs9, h9, ?_, fin1 (A9.push hD h9 r9) ((sL7.trans x8.L).trans x9.L) ((al7.trans x8.al).trans x9.al) (by rw [List.append_assoc]; exact hsum6)⟩
                  refine big100 hz ?_
                  rw [dpAll_len rs9, ← hsum6]
                  simp only [List.length_append, List.length_cons]
                  omega
                · rename_i S11 f4
                  cases f1
                  exact ⟨ω7, ρ2, S6, false, _, W7, E2, f4, fun ω8 H8 x8 W8 => iteF (fin1 (A7.step x8 W8) (sL7.trans x8.L) (al7.trans x8.al) hsum6)⟩
          · have hie : j = xs1.length := by omega
            subst hie
            rw [List.drop_length] at hl6
            cases hl6
            exact .inl ⟨(it1 ω6 _ H6 sL6 A6.W xs1.length).2 (Nat.le_refl _), fin A6 hsum6⟩
        · rename_i S7 e7
          cases e4
          exact ⟨ω3, ρ1, S2, false, _, W3, E1, e7, fun ω4 H4 x4 W4 => iteF (fin (A3.step x4 W4) hsum)⟩
  · have hie : i = xs.length := by omega
    subst hie
    rw [List.drop_length] at hl
    cases hl
    rw [List.append_nil] at hsum
    subst hsum
    obtain ⟨ω6, x6, W6, r6⟩ := A.fin hD
    exact .inl ⟨(it ω2 _ H2 A.x.L A.W xs.length).2 (Nat.le_refl _), (q.ext x1) ω6 H2 _ x6 W6 r6⟩
end
end VC

/-! VK: every expression that becomes code runs as its code does. -/
namespace VC
open PySem PySem.Spec PyProof.Rows L2

structure Snd (n : Nat) : Prop where
  E : ∀ (C : Cc) (X : Cx) (G : Gx) (k : Nat) (e : Expr) (c : Code), CtxOk X C G k → cE n C e = some c → PE X e (tP X.K G c)
  N : ∀ (C : Cc) (e : Expr) (c : Code), cE n C e = some c → isNo c = false
  T : ∀ (C : Cc) (X : Cx) (G : Gx) (k : Nat) (e : Expr) (c : Code), CtxOk X C G k → isIfExp e = false → cE n C e = some c → PT X e (tPb X.K G c)
  W : ∀ (C : Cc) (X : Cx) (G : Gx) (k : Nat) (op : BoolOp) (es : List Expr) (pos : Pos) (c : Code), CtxOk X C G k → cE n C (.BoolOp op es pos) = some c → PW X (.BoolOp op es pos) (tPb X.K G c)
  A : ∀ (C : Cc) (X : Cx) (G : Gx) (k : Nat) (es : List Expr) (c : Code), CtxOk X C G k → cEs n C es = some c → PA X es (tPs X.K G c) ∧ (∀ e ∈ es, notStar e = true) ∧ (es = [] → c = .nil)
  D : ∀ (C : Cc) (X : Cx) (G : Gx) (k : Nat) (es : List Expr) (c : Code), CtxOk X C G k → cTs n C es = some c → PA X es (tPs X.K G c)
  O : ∀ (C : Cc) (X : Cx) (G : Gx) (k : Nat) (o : Option Expr) (c : Code), CtxOk X C G k → cO n C o = some c → PO X o (tPo X.K G c)
  I : ∀ (C : Cc) (X : Cx) (G : Gx) (k : Nat) (es : List Expr) (c : Code), CtxOk X C G k → cIf n C es = some c → PTs X es (tCf X.K G c)

theorem CtxOk.hu {X : Cx} {C : Cc} {G : Gx} {k : Nat} (h : CtxOk X C G k) : X.A.units + 65 < cLine := by
  have := h.room.un
  omega
theorem CtxOk.nd' {X : Cx} {C : Cc} {G : Gx} {k : Nat} (h : CtxOk X C G k) : X.N.Nodup := by rw [h.N]; exact h.nd
theorem CtxOk.blk {X : Cx} {C : Cc} {G : Gx} {k : Nat} (h : CtxOk X C G k) (s : Shared) (H : Hp) (scope : Scope) (B : Addr) (cl : List (Str × Addr)) (fp : List Addr) (hk : scope.kind = .function) :
    CtxOk (X.blk s H scope (compEnvC scope cl B X.env) fp) (inner C scope) G k where
  kind := hk
  xe := rfl
  N := h.N
  nd := h.nd
  sc := by
    show relS scope X.env.scope = relS scope C.sc
    rw [h.sc]
  fn := fun x hx => hx
  calm := h.calm
  room := h.room
  fns := h.fns
  gls := h.gls
  bls := h.bls

theorem okName_iff {x : Str} (h : okName x = true) : (x == ("__debug__" : Str)) = false ∧ (x == ("__classdict__" : Str)) = false := by
  unfold okName at h
  rw [Bool.and_eq_true, Bool.not_eq_true', Bool.not_eq_true'] at h
  exact h
theorem glb_iff {C : Cc} {x : Str} (h : glb C x = true) : okName x = true ∧ C.sc.names.lookup x = some .globalImplicit := by
  unfold glb at h
  rw [Bool.and_eq_true] at h
  refine ⟨h.1, ?_⟩
  have := h.2
  split at this
  · assumption
  · cases this
theorem CtxOk.gl {X : Cx} {C : Cc} {G : Gx} {k : Nat} (h : CtxOk X C G k) {x : Str} (e : C.sc.names.lookup x = some .globalImplicit) : Gl X x := by
  show X.env.scope.names.lookup x = _
  rw [h.sc]
  exact e
theorem bltOf_N {x : Str} {b : Blt} (h : bltOf x = some b) : x = bltN b := by
  unfold bltOf at h
  repeat' (split at h; rename_i e; cases h; exact e)
  cases h
theorem mthOf_N {x : Str} {b : Mth} (h : mthOf x = some b) : x = mthN b := by
  unfold mthOf at h
  repeat' (split at h; rename_i e; cases h; exact e)
  cases h
theorem tykOf_N {x : Str} {b : Tyk} (h : tykOf x = some b) : x = Str.ofString (tykS b) := by
  unfold tykOf at h
  repeat' (split at h; rename_i e; cases h; exact e)
  cases h
theorem tyE_N {C : Cc} {e : Expr} {t : Tyk} (h : tyE C e = some t) : ∃ p, e = .Name (Str.ofString (tykS t)) p ∧ glb C (Str.ofString (tykS t)) = true ∧ (Str.ofString (tykS t)) ∈ C.bls := by
  unfold tyE at h
  split at h
  · rename_i x p
    split at h
    · rename_i hc
      rw [Bool.and_eq_true] at hc
      have := tykOf_N h
      subst this
      exact ⟨p, rfl, hc.1, by simpa using hc.2⟩
    · cases h
  · cases h
theorem noFold {n : Nat} {C : Cc} {e : Expr} {c : Code} (h : cE n C e = some c) (env : PySem.Env) (x : Value) : foldedSetIterable e env x = pure x := by
  cases e <;> first | rfl | (cases n <;> simp [cE] at h)
theorem base_eq {o : Expr} {m : Str} {env : PySem.Env} {w : Sem Value} (h : notCall0 o = true) : attributeBase o m env w = w := by
  unfold attributeBase
  split
  · cases h
  · rfl
/-- the locals of a def or block -/
theorem loc_of {X : Cx} {C : Cc} {G : Gx} {k : Nat} (h : CtxOk X C G k) {x : Str} (hl : locB C x = true) : Loc X.env.scope x ∧ (X.fn x = true ∨ X.env.scope.names.lookup x = some .local) := by
  unfold locB at hl
  rw [← h.sc] at hl
  split at hl
  · rename_i e
    exact ⟨.inl e, .inr e⟩
  · rename_i e
    exact ⟨.inr e, .inl (h.fn x hl)⟩
  · cases hl
theorem pgs_names {X : Cx} {C : Cc} {G : Gx} {k : Nat} (h : CtxOk X C G k) : ∀ {es : List Expr} {xs : List Str} {l : List Nat}, tgNames es = some xs → slots C.N xs = some l → xs.all (locB C) = true →
    PGs X es (gAll l) ∧ (assignEach es X.env).length = l.length ∧ (assignEach es X.env).findIdx? (·.1) = none
  | [], _, _, e1, e2, _ => by
    cases e1
    cases e2
    exact ⟨pgs_nil, rfl, rfl⟩
  | e :: r, _, _, e1, e2, e3 => by
    cases e <;> simp only [tgNames] at e1 <;> (first | (cases e1; done) | skip)
    rename_i x p
    obtain ⟨xs, h1, rfl⟩ := Option.map_eq_some_iff.mp e1
    unfold slots at e2
    split at e2 <;> (first | (cases e2; done) | skip)
    rename_i i l h2 h3
    cases e2
    rw [List.all_cons, Bool.and_eq_true] at e3
    obtain ⟨q1, q2, q3⟩ := pgs_names h h1 h3 e3.2
    obtain ⟨l1, l2⟩ := loc_of h e3.1
    have at_ : X.N[i]? = some x := by rw [h.N]; exact slot_at h2
    refine ⟨pgs_cons (pg_name h.nd' at_ l1 l2) q1 rfl, ?_, ?_⟩
    · show (assignEach r X.env).length + 1 = l.length + 1
      rw [q2]
    · show List.findIdx? (·.1) ((false, assign (.Name x p) X.env) :: assignEach r X.env) = none
      rw [List.findIdx?_cons, q3]
      rfl
theorem pg_tg {X : Cx} {C : Cc} {G : Gx} {k : Nat} (h : CtxOk X C G k) {tg : Expr} {g : Tg} (e : cTg C tg = some g) : PG X tg (gTg X.K g) := by
  cases tg <;> simp only [cTg] at e <;> (first | (cases e; done) | skip)
  · rename_i x p
    split at e <;> (first | (cases e; done) | skip)
    rename_i hl
    obtain ⟨i, h1, rfl⟩ := Option.map_eq_some_iff.mp e
    obtain ⟨l1, l2⟩ := loc_of h hl
    exact pg_name h.nd' (by rw [h.N]; exact slot_at h1) l1 l2
  · split at e <;> (first | (cases e; done) | skip)
    rename_i xs h1
    split at e <;> (first | (cases e; done) | skip)
    rename_i hl
    obtain ⟨l, h2, rfl⟩ := Option.map_eq_some_iff.mp e
    obtain ⟨q1, q2, q3⟩ := pgs_names h h1 h2 hl
    exact pg_tup h.calm q1 q2 q3
theorem own_in {N : List Str} : ∀ {xs : List Str} {l : List Nat} {ow : List (Str × Nat)}, slots N xs = some l → zipOwn N xs = some ow → ow.map (·.2) = l
  | [], _, _, e1, e2 => by cases e1; cases e2; rfl
  | x :: r, _, _, e1, e2 => by
    unfold slots at e1
    unfold zipOwn at e2
    split at e1 <;> (first | (cases e1; done) | skip)
    rename_i i l h1 h2
    cases e1
    split at e2 <;> (first | (cases e2; done) | skip)
    rename_i i' ow h3 h4
    cases e2
    rw [h1] at h3
    cases h3
    rw [List.map_cons, own_in h2 h4]
theorem tg_in {C : Cc} {tg : Expr} {g : Tg} {own : List Str} {ow : List (Str × Nat)} {C' : Cc} (hN : C'.N = C.N) (e : cTg C' tg = some g) (h1 : tgOwn tg = some own) (h2 : zipOwn C.N own = some ow) : tgIn (ow.map (·.2)) g := by
  cases tg <;> simp only [cTg] at e <;> (first | (cases e; done) | skip)
  · rename_i x p
    split at e <;> (first | (cases e; done) | skip)
    obtain ⟨i, h3, rfl⟩ := Option.map_eq_some_iff.mp e
    cases h1
    unfold zipOwn at h2
    split at h2 <;> (first | (cases h2; done) | skip)
    rename_i j is h4 h5
    cases h2
    rw [hN, h4] at h3
    cases h3
    exact List.mem_cons_self
  · split at e <;> (first | (cases e; done) | skip)
    rename_i xs h3
    split at e <;> (first | (cases e; done) | skip)
    obtain ⟨l, h4, rfl⟩ := Option.map_eq_some_iff.mp e
    have h1 : tgNames _ = some own := h1
    rw [h3] at h1
    cases h1
    rw [hN] at h4
    rw [own_in h4 h2]
    exact fun i hi => hi
end VC

/-! VL: the induction over expressions. -/
namespace VC
open PySem PySem.Spec PyProof.Rows L2

theorem snd0 : Snd 0 where
  E := fun C X G k e c _ h => by simp [cE] at h
  N := fun C e c h => by simp [cE] at h
  T := fun C X G k e c _ _ h => by simp [cE] at h
  W := fun C X G k op es pos c _ h => by simp [cE] at h
  A := fun C X G k es c _ h => by simp [cEs] at h
  D := fun C X G k es c _ h => by simp [cTs] at h
  O := fun C X G k es c _ h => by simp [cO] at h
  I := fun C X G k es c _ h => by simp [cIf] at h

section
variable {n : Nat} {C : Cc} {X : Cx} {G : Gx} {k : Nat} {c : Code}
theorem sN (s : Snd n) : ∀ (C : Cc) (e : Expr) (c : Code), cE (n + 1) C e = some c → isNo c = false := by
  intro C e c h
  unfold cE at h
  repeat' (split at h)
  all_goals first
    | (cases h; done)
    | (cases h; rfl)
    | (obtain ⟨_, _, rfl⟩ := Option.map_eq_some_iff.mp h; rfl)
    | exact s.N _ _ _ h
theorem sA (s : Snd n) (O : CtxOk X C G k) : ∀ {es : List Expr} {c : Code}, cEs (n + 1) C es = some c → PA X es (tPs X.K G c) ∧ (∀ e ∈ es, notStar e = true) ∧ (es = [] → c = .nil)
  | [], c, h => by
    simp only [cEs] at h
    cases h
    exact ⟨pa_nilC, fun _ z => (by cases z), fun _ => rfl⟩
  | e :: r, c, h => by
    simp only [cEs] at h
    split at h <;> (first | (cases h; done) | skip)
    rename_i ns
    split at h <;> (first | (cases h; done) | skip)
    rename_i x l h1 h2
    cases h
    obtain ⟨q1, q2, q3⟩ := s.A C X G k r l O h2
    refine ⟨pa_consC (s.E C X G k e x O h1) q1 ns, fun z hz => ?_, fun z => nomatch z⟩
    rcases List.mem_cons.mp hz with rfl | hz
    · exact ns
    · exact q2 z hz
theorem sD (s : Snd n) (O : CtxOk X C G k) : ∀ {es : List Expr} {c : Code}, cTs (n + 1) C es = some c → PA X es (tPs X.K G c)
  | [], c, h => by
    simp only [cTs] at h
    cases h
    exact pa_nilC
  | e :: r, c, h => by
    by_cases ns : notStar e = true
    · have h' : (match cE n C e, cTs n C r with
        | some x, some l => some (Code.cons x l)
        | _, _ => none) = some c := by
        cases e <;> first | (simp only [cTs, notStar, if_true] at h; exact h) | (cases ns)
      split at h' <;> (first | (cases h'; done) | skip)
      rename_i x l h1 h2
      cases h'
      exact pa_consC (s.E C X G k e x O h1) (s.D C X G k r l O h2) ns
    · cases e <;> first | (exact absurd rfl ns) | skip
      simp only [cTs] at h
      split at h <;> (first | (cases h; done) | skip)
      rename_i x l h1 h2
      cases h
      exact pa_starC (s.E C X G k _ x O h1) (s.D C X G k r l O h2)
theorem sO (s : Snd n) (O : CtxOk X C G k) {o : Option Expr} (h : cO (n + 1) C o = some c) : PO X o (tPo X.K G c) := by
  cases o with
  | none =>
    simp only [cO] at h
    cases h
    exact po_noneC
  | some e =>
    simp only [cO] at h
    exact po_someC (s.N C e c h) (s.E C X G k e c O h)
theorem sI (s : Snd n) (O : CtxOk X C G k) {es : List Expr} (h : cIf (n + 1) C es = some c) : PTs X es (tCf X.K G c) := by
  cases es with
  | nil =>
    simp only [cIf] at h
    cases h
    exact pts_nilC
  | cons e r =>
    cases r with
    | nil =>
      simp only [cIf] at h
      split at h <;> (first | (cases h; done) | skip)
      rename_i hi
      exact pts_oneC (s.N C e c h) (s.T C X G k e c O (by simpa using hi) h)
    | cons _ _ =>
      simp only [cIf] at h
      cases h
theorem sW (s : Snd n) (O : CtxOk X C G k) {op : BoolOp} {es : List Expr} {pos : Pos} (h : cE (n + 1) C (.BoolOp op es pos) = some c) : PW X (.BoolOp op es pos) (tPb X.K G c) := by
  cases es with
  | nil => cases op <;> simp [cE] at h
  | cons a r =>
    cases r with
    | nil =>
      simp only [cE] at h
      split at h <;> (first | (cases h; done) | skip)
      rename_i hi
      have q := s.T C X G k a c O (by simpa using hi) h
      cases op with
      | And => exact pw_and1 q
      | Or => exact pw_or1 q
    | cons b r =>
      cases op with
      | And =>
        simp only [cE] at h
        split at h <;> (first | (cases h; done) | skip)
        rename_i hi
        split at h <;> (first | (cases h; done) | skip)
        rename_i x y h1 h2
        cases h
        exact pw_andC (s.T C X G k a x O (by simpa using hi) h1) (s.W C X G k _ _ pos y O h2)
      | Or =>
        simp only [cE] at h
        split at h <;> (first | (cases h; done) | skip)
        rename_i hi
        split at h <;> (first | (cases h; done) | skip)
        rename_i x y h1 h2
        cases h
        exact pw_orC (s.T C X G k a x O (by simpa using hi) h1) (s.W C X G k _ _ pos y O h2)
theorem vis_of (O : CtxOk X C G k) {x : Str} {kd : NameKind} (e : C.sc.names.lookup x = some kd) (hk : kd = .local ∨ kd = .cell ∨ kd = .free) : Vis X.env.scope x := by
  unfold Vis
  rw [O.sc, e]
  rcases hk with rfl | rfl | rfl
  · exact .inl rfl
  · exact .inr (.inl rfl)
  · exact .inr (.inr rfl)
theorem tys_pa (O : CtxOk X C G k) : ∀ {es : List Expr} {ts : List Tyk}, tysE C es = some ts → ∃ tt, PA X es tt ∧ ∀ σ H (Q : List V → Hp → Prop), Q (ts.map fun t => V.ty (tykS t)) H → tt σ H Q
  | [], ts, h => by
    simp only [tysE] at h
    cases h
    exact ⟨tNil, pa_nil, fun σ H Q q => q⟩
  | e :: r, ts, h => by
    unfold tysE at h
    split at h <;> (first | (cases h; done) | skip)
    rename_i t l h1 h2
    cases h
    obtain ⟨tt, q1, q2⟩ := tys_pa O h2
    obtain ⟨p, rfl, h3, h4⟩ := tyE_N h1
    refine ⟨_, pa_cons (pe_tyk (O.gl (glb_iff h3).2) (O.bls _ h4)) q1 rfl, fun σ H Q q => ?_⟩
    exact q2 σ H _ q
theorem tys_len : ∀ {es : List Expr} {ts : List Tyk}, tysE C es = some ts → ts.length = es.length
  | [], ts, h => by simp only [tysE] at h; cases h; rfl
  | e :: r, ts, h => by
    unfold tysE at h
    split at h <;> (first | (cases h; done) | skip)
    rename_i t l h1 h2
    cases h
    rw [List.length_cons, List.length_cons, tys_len h2]
theorem noStarE {n : Nat} {C : Cc} {e : Expr} {c : Code} (h : cE n C e = some c) : notStar e = true := by
  cases e <;> first | rfl | (cases n <;> simp [cE] at h)
/-- a list comprehension, as a value and assigned to a local name on its line -/
theorem sLc (s : Snd n) (O : CtxOk X C G k) {elt : Expr} {gens : List Comprehension} {scope : Scope} {pos : Pos} (h : cE (n + 1) C (.ListComp elt gens scope pos) = some c) :
    PE X (.ListComp elt gens scope pos) (tP X.K G c) ∧
    ∀ (i : Nat) (y : Str) (py spos : Pos), X.N[i]? = some y → X.env.scope.names.lookup y = some .local → swapsWith (.ListComp elt gens scope pos) (some (.Name y py)) spos.line X.env = pure true →
      PS X (.Assign [.Name y py] (.ListComp elt gens scope pos) spos) (tAsg (tP X.K G c) (gName i)) := by
  unfold cE at h
  split at h <;> (first | (cases h; done) | skip) <;> rename_i he <;> cases he
  · rename_i tg it ifs
    split at h <;> (first | (cases h; done) | skip)
    rename_i own ho
    split at h <;> (first | (cases h; done) | skip)
    rename_i ow hw
    split at h <;> (first | (cases h; done) | skip)
    rename_i hb
    split at h <;> (first | (cases h; done) | skip)
    rename_i ci g cc cx h1 h2 h3 h4
    cases h
    have ok : BlkOk X.N X.env.scope scope ow := by
      rw [O.N, O.sc]
      exact blkOk_by hb
    obtain ⟨q1, q0, q2⟩ := pp_lc (X := X) (G := G) (pos := pos) O.calm O.nd' (pi_any (s.E C X G k it ci O h1)) ok (fun S H B cl fp => pg_tg (O.blk S H scope B cl fp ok.kind) h2) (fun S H B cl fp => s.I (inner C scope) _ G k ifs cc (O.blk S H scope B cl fp ok.kind) h3)
      (fun S H B cl fp => s.E (inner C scope) _ G k elt cx (O.blk S H scope B cl fp ok.kind) h4) (noFold h1 X.env) (tg_in rfl h2 ho hw)
    exact ⟨q1.weak q2, fun i y py spos e1 e2 e3 => ⟨fun pins s σ H D I hh => (q0 i y py spos e1 e2 e3).run pins s σ H D I (q2 σ H _ hh)⟩⟩
  · rename_i tg it ifs tg1 it1 ifs1
    split at h <;> (first | (cases h; done) | skip)
    rename_i own own1 ho ho1
    split at h <;> (first | (cases h; done) | skip)
    rename_i ow ow1 hw hw1
    split at h <;> (first | (cases h; done) | skip)
    rename_i hb
    rw [Bool.and_eq_true] at hb
    split at h <;> (first | (cases h; done) | skip)
    rename_i ci g cc ci1 g1 cc1 cx h1 h2 h3 h5 h6 h7 h4
    cases h
    have ok : BlkOk X.N X.env.scope scope (ow ++ ow1) := by
      rw [O.N, O.sc]
      exact blkOk_by hb.1
    have in1 := tg_in (C := C) (C' := inner C scope) rfl h2 ho hw
    have in2 := tg_in (C := C) (C' := inner C scope) rfl h6 ho1 hw1
    have in3 : tgIn ((ow ++ ow1).map (·.2)) g := by
      cases g with
      | one i => exact List.mem_map.mpr (let ⟨p, hp, e⟩ := List.mem_map.mp in1; ⟨p, List.mem_append_left _ hp, e⟩)
      | tup l => exact fun i hi => List.mem_map.mpr (let ⟨p, hp, e⟩ := List.mem_map.mp (in1 i hi); ⟨p, List.mem_append_left _ hp, e⟩)
    obtain ⟨q1, q0, q2⟩ := pp_lc2 (X := X) (G := G) (pos := pos) (vs1 := ow1.map (·.2)) O.calm O.nd' (pi_any (s.E C X G k it ci O h1)) ok (fun i hi => List.mem_map.mpr (let ⟨p, hp, e⟩ := List.mem_map.mp hi; ⟨p, List.mem_append_right _ hp, e⟩))
      (fun S H B cl fp => pg_tg (O.blk S H scope B cl fp ok.kind) h2) (fun S H B cl fp => s.I (inner C scope) _ G k ifs cc (O.blk S H scope B cl fp ok.kind) h3)
      (fun S H B cl fp => pi_any (s.E (inner C scope) _ G k it1 ci1 (O.blk S H scope B cl fp ok.kind) h5))
      (fun S H B cl fp => pg_tg (O.blk S H scope B cl fp ok.kind) h6) (fun S H B cl fp => s.I (inner C scope) _ G k ifs1 cc1 (O.blk S H scope B cl fp ok.kind) h7)
      (fun S H B cl fp => s.E (inner C scope) _ G k elt cx (O.blk S H scope B cl fp ok.kind) h4) (noFold h1 X.env) (noFold h5) in3 in2
    exact ⟨q1.weak q2, fun i y py spos e1 e2 e3 => ⟨fun pins s σ H D I hh => (q0 i y py spos e1 e2 e3).run pins s σ H D I (q2 σ H _ hh)⟩⟩
theorem sE (s : Snd n) (O : CtxOk X C G k) {e : Expr} (h : cE (n + 1) C e = some c) : PE X e (tP X.K G c) := by
  cases e with
  | Constant v j pos =>
    cases v <;> simp only [cE] at h <;> (first | (cases h; done) | skip) <;> cases h
    · exact pp_none
    · exact pp_bool
    · exact pp_int
    · exact pp_str
  | Name x pos =>
    simp only [cE] at h
    split at h <;> (first | (cases h; done) | skip)
    rename_i ok
    obtain ⟨n1, n2⟩ := okName_iff ok
    split at h <;> (first | (cases h; done) | skip)
    · rename_i hl
      obtain ⟨i, h1, rfl⟩ := Option.map_eq_some_iff.mp h
      exact pp_var (by rw [O.N]; exact slot_at h1) (vis_of O hl (.inl rfl)) n1 n2
    · rename_i hl
      obtain ⟨i, h1, rfl⟩ := Option.map_eq_some_iff.mp h
      exact pp_var (by rw [O.N]; exact slot_at h1) (vis_of O hl (.inr (.inl rfl))) n1 n2
    · rename_i hl
      obtain ⟨i, h1, rfl⟩ := Option.map_eq_some_iff.mp h
      exact pp_var (by rw [O.N]; exact slot_at h1) (vis_of O hl (.inr (.inr rfl))) n1 n2
    · rename_i hl
      obtain ⟨i, h1, rfl⟩ := Option.map_eq_some_iff.mp h
      obtain ⟨u, v, d, g1, g2, g3, g4⟩ := O.gls i x (slot_at h1)
      exact pp_glob (O.gl hl) g1 g2 g3 g4 n1
  | BinOp a op b pos =>
    simp only [cE] at h
    split at h <;> (first | (cases h; done) | skip)
    rename_i x y h1 h2
    cases h
    exact pp_bin (s.E C X G k a x O h1) (s.E C X G k b y O h2)
  | UnaryOp op a pos =>
    cases op <;> simp only [cE] at h <;> (first | (cases h; done) | skip)
    · split at h <;> (first | (cases h; done) | skip)
      obtain ⟨x, h1, rfl⟩ := Option.map_eq_some_iff.mp h
      exact pp_not (s.E C X G k a x O h1)
    · obtain ⟨x, h1, rfl⟩ := Option.map_eq_some_iff.mp h
      exact pp_neg (s.E C X G k a x O h1)
  | Compare a ops cs pos =>
    match ops, cs, h with
    | [op], [b], h =>
      simp only [cE] at h
      split at h <;> (first | (cases h; done) | skip)
      rename_i x y h1 h2
      cases h
      exact pp_cmp O.hu (s.E C X G k a x O h1) (s.E C X G k b y O h2) (noMark C n h2)
    | [op, op'], [b, d], h =>
      simp only [cE] at h
      split at h <;> (first | (cases h; done) | skip)
      rename_i x y z h1 h2 h3
      cases h
      exact pp_ch O.hu (s.E C X G k a x O h1) (s.E C X G k b y O h2) (s.E C X G k d z O h3) fun q1 q2 q3 q4 q5 => pe_chain q1 q2 q3 q4 q5 (show behindInMarks op' d = false from noMark C n h3)
    | [], _, h => simp [cE] at h
    | [_], [], h => simp [cE] at h
    | [_], _ :: _ :: _, h => simp [cE] at h
    | [_, _], [], h => simp [cE] at h
    | [_, _], [_], h => simp [cE] at h
    | [_, _], _ :: _ :: _ :: _, h => simp [cE] at h
    | _ :: _ :: _ :: _, _, h => simp [cE] at h
  | BoolOp op es pos =>
    match es, h with
    | [], h => cases op <;> simp [cE] at h
    | [a], h =>
      simp only [cE] at h
      split at h <;> (first | (cases h; done) | skip)
      exact pe_one (s.E C X G k a c O h)
    | a :: b :: r, h =>
      cases op with
      | And =>
        simp only [cE] at h
        split at h <;> (first | (cases h; done) | skip)
        split at h <;> (first | (cases h; done) | skip)
        rename_i x y h1 h2
        cases h
        exact pp_and (s.E C X G k a x O h1) (s.E C X G k _ y O h2)
      | Or =>
        simp only [cE] at h
        split at h <;> (first | (cases h; done) | skip)
        split at h <;> (first | (cases h; done) | skip)
        rename_i x y h1 h2
        cases h
        exact pp_or (s.E C X G k a x O h1) (s.E C X G k _ y O h2)
  | IfExp t a b pos =>
    simp only [cE] at h
    split at h <;> (first | (cases h; done) | skip)
    rename_i hi
    split at h <;> (first | (cases h; done) | skip)
    rename_i x y z h1 h2 h3
    cases h
    exact pp_ite (s.T C X G k t x O (by simpa using hi) h1) (s.E C X G k a y O h2) (s.E C X G k b z O h3)
  | Tuple es x1 pos =>
    simp only [cE] at h
    obtain ⟨x, h1, rfl⟩ := Option.map_eq_some_iff.mp h
    exact pp_tup (s.D C X G k es x O h1)
  | List es pos =>
    simp only [cE] at h
    obtain ⟨x, h1, rfl⟩ := Option.map_eq_some_iff.mp h
    exact pp_lst (s.D C X G k es x O h1)
  | Subscript a i pos =>
    unfold cE at h
    split at h <;> (first | (cases h; done) | skip) <;> rename_i he <;> cases he
    · split at h <;> (first | (cases h; done) | skip)
      rename_i x l u h1 h2 h3
      cases h
      exact pp_sl (s.E C X G k a x O h1) (s.O C X G k _ l O h2) (s.O C X G k _ u O h3)
    · split at h <;> (first | (cases h; done) | skip)
      rename_i ns
      split at h <;> (first | (cases h; done) | skip)
      rename_i x y h1 h2
      cases h
      exact pp_ix (s.E C X G k a x O h1) (s.E C X G k i y O h2) ns
  | Call f args kw pos =>
    unfold cE at h
    split at h <;> (first | (cases h; done) | skip) <;> rename_i he <;> cases he
    · rename_i f p
      split at h <;> (first | (cases h; done) | skip)
      rename_i hg
      obtain ⟨g1, g2⟩ := glb_iff hg
      obtain ⟨n1, n2⟩ := okName_iff g1
      split at h
      · rename_i j hj
        obtain ⟨l, h1, rfl⟩ := Option.map_eq_some_iff.mp h
        obtain ⟨q1, q2, q3⟩ := s.A C X G k args l O h1
        exact pp_call (O.fns j f (slot_at hj)) O.room (O.gl g2) q1 n1 q2 q3
      · split at h <;> (first | (cases h; done) | skip)
        rename_i hb
        have hm := O.bls f (by simpa using hb)
        split at h
        · rename_i hf
          subst hf
          split at h <;> (first | (cases h; done) | skip)
          · split at h <;> (first | (cases h; done) | skip)
            rename_i x l h1 h2
            split at h <;> (first | (cases h; done) | skip)
            rename_i hlen
            cases h
            obtain ⟨tt, t1, t2⟩ := tys_pa O h2
            exact pp_isiT (O.gl g2) hm (s.E C X G k _ x O h1) (noStarE h1) hlen t1 t2
          · split at h <;> (first | (cases h; done) | skip)
            rename_i x t h1 h2
            cases h
            obtain ⟨p2, rfl, h3, h4⟩ := tyE_N h2
            exact pp_isi1 (O.gl g2) hm (s.E C X G k _ x O h1) (noStarE h1) (O.gl (glb_iff h3).2) (O.bls _ h4)
        · split at h <;> (first | (cases h; done) | skip)
          split at h <;> (first | (cases h; done) | skip)
          rename_i b l h1 h2
          cases h
          have := bltOf_N h1
          subst this
          obtain ⟨q1, q2, q3⟩ := s.A C X G k args l O h2
          cases args with
          | nil =>
            have hne : ¬ (([] : List Expr).isEmpty = true) := by assumption
            exact absurd rfl hne
          | cons e r => exact pp_blt O.calm (O.gl g2) hm q1 q2
    · split at h <;> (first | (cases h; done) | skip)
      rename_i hc
      rw [Bool.and_eq_true, Bool.and_eq_true, decide_eq_true_eq] at hc
      split at h <;> (first | (cases h; done) | skip)
      rename_i m x l h1 h2 h3
      cases h
      have := mthOf_N h1
      subst this
      obtain ⟨q1, q2, q3⟩ := s.A C X G k _ l O h3
      exact pp_mt O.hu (s.E C X G k _ x O h2) q1 (base_eq hc.1.1) hc.1.2 q2 hc.2
  | ListComp elt gens scope pos => exact (sLc s O h).1
  | _ => simp [cE] at h

theorem sT (s : Snd n) (O : CtxOk X C G k) {e : Expr} (hi : isIfExp e = false) (h : cE (n + 1) C e = some c) : PT X e (tPb X.K G c) := by
  have pe := sE s O h
  cases e with
  | UnaryOp op a pos =>
    cases op <;> simp only [cE] at h <;> (first | (cases h; done) | skip)
    · split at h <;> (first | (cases h; done) | skip)
      rename_i ha
      obtain ⟨x, h1, rfl⟩ := Option.map_eq_some_iff.mp h
      exact pt_notC (s.T C X G k a x O (by simpa using ha) h1)
    · exact pt_valC pe fun _ => rfl
  | BoolOp op es pos => exact (sW s O h).pt
  | Compare a ops cs pos =>
    match ops, cs, h, pe with
    | [op], [b], h, _ =>
      simp only [cE] at h
      split at h <;> (first | (cases h; done) | skip)
      rename_i x y h1 h2
      cases h
      exact pt_cmpC O.hu (s.E C X G k a x O h1) (s.E C X G k b y O h2) (noMark C n h2)
    | [op, op'], [b, d], h, _ =>
      simp only [cE] at h
      split at h <;> (first | (cases h; done) | skip)
      rename_i x y z h1 h2 h3
      cases h
      exact pt_chC O.hu (s.E C X G k a x O h1) (s.E C X G k b y O h2) (s.E C X G k d z O h3) fun q1 q2 q3 q4 q5 => pt_chain q1 q2 q3 q4 q5 (show behindInMarks op' d = false from noMark C n h3)
    | [], _, h, _ => simp [cE] at h
    | [_], [], h, _ => simp [cE] at h
    | [_], _ :: _ :: _, h, _ => simp [cE] at h
    | [_, _], [], h, _ => simp [cE] at h
    | [_, _], [_], h, _ => simp [cE] at h
    | [_, _], _ :: _ :: _ :: _, h, _ => simp [cE] at h
    | _ :: _ :: _ :: _, _, h, _ => simp [cE] at h
  | IfExp _ _ _ _ => cases hi
  | _ => first | (simp [cE] at h; done) | exact pt_valC pe fun _ => rfl
end
theorem snd : ∀ n, Snd n
  | 0 => snd0
  | n + 1 => {
    E := fun C X G k e c O h => sE (snd n) O h
    N := sN (snd n)
    T := fun C X G k e c O hi h => sT (snd n) O hi h
    W := fun C X G k op es pos c O h => sW (snd n) O h
    A := fun C X G k es c O h => sA (snd n) O h
    D := fun C X G k es c O h => sD (snd n) O h
    O := fun C X G k o c O h => sO (snd n) O h
    I := fun C X G k es c O h => sI (snd n) O h }
end VC

/-! VM: statements. -/
namespace VC
open PySem PySem.Spec PyProof.Rows L2

def isTupE : Expr → Bool
  | .Tuple .. => true
  | .List .. => true
  | _ => false
/-- a comprehension's value goes straight to the name -/
def swB (C : Cc) (x : Str) (px : Pos) : Expr → Bool
  | .ListComp _ _ scope cpos => (match C.sc.names.lookup x with | some .local => true | _ => false) && px.line == cpos.line && !(scope.names.any fun (n, k) => n == x && (k == .local || k == .cell))
  | _ => false

mutual
def cS : Nat → Cc → Stmt → Option SCode
  | 0, _, _ => none
  | n + 1, C, st => match st with
    | .Assign [.Name x px] e _ =>
      if C.cells.contains x then (match e with
        | .List es _ => if locB C x then (match slot C.N x, cTs n C es with
          | some i, some l => some (.setC i l)
          | _, _ => none) else none
        | _ => none)
      else (match cTg C (.Name x px), cE n C e with
        | some g, some c => some (.set g c)
        | _, _ => none)
    | .Assign [.Tuple ts k tp] e _ => if isComp e || isTupE e then none else (match cTg C (.Tuple ts k tp), cE n C e with
        | some g, some c => some (.set g c)
        | _, _ => none)
    | .Assign [.Subscript o i _] e _ => if isComp e || !(notSlice i) then none else (match cE n C o, cE n C i, cE n C e with
        | some a, some b, some c => some (.setIx a b c)
        | _, _, _ => none)
    | .Expr (.Constant (.str _) _ _) _ => some .pass
    | .Expr e _ => if isComp e then none else (cE n C e).map .drop
    | .Return (some e) _ => (cE n C e).map .ret
    | .Return none _ => some .retN
    | .If t a b _ => if isIfExp t then none else (match cE n C t, cSs n C a, cSs n C b with
        | some c, some x, some y => some (.ifs c x y)
        | _, _, _ => none)
    | .For tg it body [] _ => match cTg C tg, cE n C it, cSs n C body with
        | some g, some i, some b => some (.for_ g i b)
        | _, _, _ => none
    | .While t body [] _ => if isIfExp t then none else (match cE n C t, cSs n C body with
        | some c, some b => some (.while_ c b)
        | _, _ => none)
    | .Pass _ => some .pass
    | .Break _ => some .brk
    | .Continue _ => some .cont
    | .Raise _ _ _ => some .never
    | _ => none
def cSs : Nat → Cc → List Stmt → Option SCode
  | 0, _, _ => none
  | _ + 1, _, [] => some .nil
  | n + 1, C, s :: r => match cS n C s, cSs n C r with
    | some x, some y => some (.cons x y)
    | _, _ => none
end

/-- what a statement's end wants -/
def EndOk (K : PySem.W.Frag) (D : Ends) (ω : Wd) (H : Hp) (σ : L2.St) : Out → Prop
  | .nx => D.nx σ H
  | .bk => D.bk σ H
  | .ct => D.ct σ H
  | .rt p => ∀ v, Rep K ω p v → D.rt v H
/-- the slots, and whose own lists are new since H0 -/
structure EnvS (K : PySem.W.Frag) (H0 : Hp) (ω : Wd) (H : Hp) (σ : L2.St) (ρ : Env) : Prop where
  E : EnvR K ω H σ ρ
  new : ∀ (i : Nat) (xs : List PyData) (a : Addr), ρ[i]? = some (some (.own xs)) → σ[i]? = some (some (.ref a)) → H0 a = none
def tS (K : PySem.W.Frag) (G : Gx) (c : SCode) : TS := fun D σ H => ∃ ω0 H0 ω ρ S o ρ' S', Ext ω0 H0 ω H ∧ Wok K ω S H ∧ EnvS K H0 ω H σ ρ ∧ ex G c ρ S = some (o, ρ', S') ∧
  ∀ ω' H' σ', Ext ω0 H0 ω' H' → Same ω.L ω'.L → Wok K ω' S' H' → EnvS K H0 ω' H' σ' ρ' → EndOk K D ω' H' σ' o
theorem _root_.L2.PS.weak {X : Cx} {s : Stmt} {t t' : TS} (h : PS X s t) (w : ∀ D σ H, t' D σ H → t D σ H) : PS X s t' := ⟨fun pins s σ H D I q => h.run pins s σ H D I (w D σ H q)⟩
theorem _root_.L2.PSs.weak {X : Cx} {s : List Stmt} {t t' : TS} (h : PSs X s t) (w : ∀ D σ H, t' D σ H → t D σ H) : PSs X s t' := ⟨fun pins s σ H D I q => h.run pins s σ H D I (w D σ H q)⟩
section
variable {K : PySem.W.Frag} {H0 H H' : Hp} {ω ω' : Wd} {σ : L2.St} {ρ ρ1 : Env}
theorem EnvS.ext (E : EnvS K H0 ω H σ ρ) (x : Ext ω H ω' H') : EnvS K H0 ω' H' σ ρ := ⟨E.E.ext x, E.new⟩
theorem EnvS.set (E : EnvS K H0 ω H σ ρ) {i : Nat} {p : PV} {v : V} (r : Rep K ω p v) : EnvS K H0 ω H (σ.set i (some v)) (ρ.set i (some p)) := by
  refine ⟨E.E.set r, fun j xs a h1 h2 => ?_⟩
  by_cases hj : i = j
  · subst hj
    by_cases hl : i < ρ.length
    · rw [List.getElem?_set_self hl] at h1
      cases h1
      exact r.elim
    · rw [List.getElem?_eq_none (by rw [List.length_set]; omega)] at h1
      cases h1
  · rw [List.getElem?_set_ne hj] at h1 h2
    exact E.new j xs a h1 h2
theorem EnvS.setAll : ∀ {l : List Nat} {xs : List PyData} {vs : List V} {σ : L2.St} {ρ ρ1 : Env} {Q : L2.St → Hp → Prop}, EnvS K H0 ω H σ ρ → RpAll K ω.L vs xs → setAll l xs ρ = some ρ1 →
    (∀ σ1, EnvS K H0 ω H σ1 ρ1 → Q σ1 H) → gAll l vs σ H Q
  | [], [], _, σ, ρ, ρ1, Q, E, .nil, e, q => by
    cases e
    exact ⟨rfl, q σ E⟩
  | i :: l, x :: xs, _, σ, ρ, ρ1, Q, E, .cons h r, e, q => ⟨_, _, rfl, EnvS.setAll (E.set (p := .d x) h) r e q⟩
  | [], _ :: _, _, _, _, _, _, _, _, e, _ => by cases e
  | _ :: _, [], _, _, _, _, _, _, _, e, _ => by cases e
theorem setTg_s {g : Tg} {p : PV} {v : V} {S : Store} {Q : L2.St → Hp → Prop} (W : Wok K ω S H) (E : EnvS K H0 ω H σ ρ) (r : Rep K ω p v) (e : setTg g p ρ = some ρ1)
    (q : ∀ σ1, EnvS K H0 ω H σ1 ρ1 → Q σ1 H) : gTg K g v σ H Q := by
  cases g with
  | one i =>
    cases e
    exact q _ (E.set r)
  | tup l =>
    cases p with
    | d y =>
      cases y <;> simp only [setTg] at e <;> (first | (cases e; done) | skip)
      cases r with
      | tup hs hr =>
        refine ⟨_, _, rfl, (same_tup W.sub hs).sq, ?_, EnvS.setAll E hr e q⟩
        rw [dpAll_len hr, setAll_len e]
    | rng _ _ => cases e
    | ref _ => cases e
    | own _ => cases e
/-- a new cell -/
theorem Ext.cell {S : Store} {a : Addr} {vs : List V} {ps : List PV} (W : Wok K ω S H) (h : H a = none) (r : RepAll K ω ps vs) :
    Ext ω H ⟨ω.L, ω.al ++ [a]⟩ (upd H a (.lst vs)) ∧ Wok K ⟨ω.L, ω.al ++ [a]⟩ (S ++ [.lst ps]) (upd H a (.lst vs)) ∧ Rep K ⟨ω.L, ω.al ++ [a]⟩ (.ref S.length) (.ref a) := by
  have hL : ω.L a = none := W.sub.free h
  obtain ⟨_, _, x, W1⟩ := Ext.new (o := .lst vs) W h
  have pre : ω.al <+: ω.al ++ [a] := ⟨[a], rfl⟩
  have na : a ∉ ω.al := fun hm => by
    obtain ⟨n, hn, e⟩ := List.getElem_of_mem hm
    obtain ⟨c, e2⟩ : ∃ c, S[n]? = some c := ⟨_, List.getElem?_eq_getElem (show n < S.length by rw [← W.len]; exact hn)⟩
    have q := W.cell n a c (by rw [List.getElem?_eq_getElem hn, e]) e2
    cases c with
    | lst ps =>
      obtain ⟨vs, e, _⟩ := q
      rw [h] at e
      cases e
  refine ⟨⟨x.L, pre, x.keep, x.there, x.fresh, fun b hb hm => ?_⟩, ⟨W1.sub, ?_, fun b hb => ?_, ?_, fun n b c e1 e2 => ?_⟩, ?_⟩
  · rcases List.mem_append.mp hm with hm | hm
    · exact hm
    · rw [List.mem_singleton.mp hm] at hb
      exact absurd h hb
  · refine List.nodup_append.mpr ⟨W.nd, List.pairwise_singleton _ a, fun b hb c hc => ?_⟩
    rw [List.mem_singleton.mp hc]
    exact fun z => na (z ▸ hb)
  · rcases List.mem_append.mp hb with hb | hb
    · exact W.ap b hb
    · rw [List.mem_singleton.mp hb]
      exact hL
  · rw [List.length_append, List.length_append, W.len]
    rfl
  · by_cases hn : n < ω.al.length
    · rw [List.getElem?_append_left hn] at e1
      rw [List.getElem?_append_left (by rw [← W.len]; exact hn)] at e2
      have q := W1.cell n b c e1 e2
      cases c with
      | lst qs =>
        obtain ⟨ws, hw, rw'⟩ := q
        exact ⟨ws, hw, Paired.mapP rw' fun _ _ z => Rep.mono (ω := ω) (ω' := ⟨ω.L, ω.al ++ [a]⟩) (Same.refl _) pre z⟩
    · have hn' : ω.al.length ≤ n := Nat.le_of_not_lt hn
      rw [List.getElem?_append_right hn'] at e1
      rw [List.getElem?_append_right (by rw [← W.len]; exact hn')] at e2
      have hz : n - ω.al.length = 0 := by
        have := (List.getElem?_eq_some_iff.mp e1).1
        simp at this
        omega
      rw [← W.len, hz] at e2
      rw [hz] at e1
      cases e1
      cases e2
      exact ⟨vs, upd_same, Paired.mapP r fun _ _ z => Rep.mono (ω := ω) (ω' := ⟨ω.L, ω.al ++ [a]⟩) (Same.refl _) pre z⟩
  · refine ⟨a, rfl, ?_⟩
    show (ω.al ++ [a])[S.length]? = some a
    rw [← W.len, List.getElem?_append_right (Nat.le_refl _), Nat.sub_self]
    rfl
/-- a cell's item changed -/
theorem Ext.put {S : Store} {n j : Nat} {a : Addr} {vs : List V} {ps : List PV} {p : PV} {v : V} (W : Wok K ω S H) (ha : ω.al[n]? = some a) (hs : S[n]? = some (.lst ps)) (hv : H a = some (.lst vs)) (r : Rep K ω p v) :
    Ext ω H ω (upd H a (.lst (vs.set j v))) ∧ Wok K ω (S.set n (.lst (ps.set j p))) (upd H a (.lst (vs.set j v))) := by
  have hm : a ∈ ω.al := List.mem_of_getElem? ha
  have rs : RepAll K ω ps vs := by
    obtain ⟨ws, hw, rw'⟩ := W.cell n a _ ha hs
    rw [hv] at hw
    cases hw
    exact rw'
  have set_rep : ∀ {ps : List PV} {vs : List V} (j : Nat), RepAll K ω ps vs → RepAll K ω (ps.set j p) (vs.set j v) := by
    intro ps vs j h
    induction h generalizing j with
    | nil => exact .nil
    | cons h t ih =>
      cases j with
      | zero => exact .cons r t
      | succ j => exact .cons h (ih j)
  refine ⟨⟨Same.refl _, List.prefix_refl _, fun b o e nb => ?_, fun b hb => ?_, fun _ _ z => z, fun _ _ z => z⟩, ⟨fun b o e => ?_, W.nd, W.ap, by rw [List.length_set]; exact W.len, fun m b c e1 e2 => ?_⟩⟩
  · rw [upd_ne (fun z : b = a => nb (by rw [z]; exact hm))]
    exact e
  · by_cases hba : b = a
    · rw [hba, upd_same]
      simp
    · rw [upd_ne hba]
      exact hb
  · rw [upd_ne (fun z => by rw [z, W.ap a hm] at e; cases e)]
    exact W.sub b o e
  · by_cases hmn : m = n
    · subst hmn
      rw [ha] at e1
      cases e1
      rw [List.getElem?_set_self (List.getElem?_eq_some_iff.mp hs).1] at e2
      cases e2
      exact ⟨_, upd_same, set_rep j rs⟩
    · rw [List.getElem?_set_ne (Ne.symm hmn)] at e2
      have q := W.cell m b c e1 e2
      have hne : b ≠ a := fun z => by
        subst z
        have h1 := List.getElem?_eq_some_iff.mp e1
        have h2 := List.getElem?_eq_some_iff.mp ha
        exact hmn ((List.getElem_inj W.nd).mp (h1.2.trans h2.2.symm))
      cases c with
      | lst qs =>
        obtain ⟨ws, hw, rw'⟩ := q
        exact ⟨ws, by rw [upd_ne hne]; exact hw, rw'⟩
end
end VC

/-! VN: every statement that becomes code runs as its code does. -/
namespace VC
open PySem PySem.Spec PyProof.Rows L2

section
variable {X : Cx} {G : Gx} {e o i : Expr} {ce co ci cc : Code} {a b : List Stmt} {sa sb : SCode} {pos : Pos}
theorem sp_ret (he : PE X e (tP X.K G ce)) : PS X (.Return (some e) pos) (tS X.K G (.ret ce)) := (ps_ret he).weak fun D σ H h => by
  obtain ⟨ω0, H0, ω, ρ, S, ou, ρ', S', x0, W, E, e, q⟩ := h
  simp only [ex] at e
  split at e <;> (first | (cases e; done) | skip)
  rename_i p S1 e1
  cases e
  exact tP.mk W E.E e1 fun ω1 H1 v x1 W1 r1 => q ω1 H1 σ (x0.trans x1) x1.L W1 (E.ext x1) v r1
theorem sp_retN : PS X (.Return none pos) (tS X.K G .retN) := ps_retN.weak fun D σ H h => by
  obtain ⟨ω0, H0, ω, ρ, S, ou, ρ', S', x0, W, E, e, q⟩ := h
  simp only [ex] at e
  cases e
  exact q ω H σ x0 (Same.refl _) W E _ Rp.non
theorem asg_s {g : Tg} {D : Ends} {σ : L2.St} {H : Hp} (h : tS X.K G (.set g ce) D σ H) : tAsg (tP X.K G ce) (gTg X.K g) D σ H := by
  obtain ⟨ω0, H0, ω, ρ, S, ou, ρ', S', x0, W, E, e, q⟩ := h
  simp only [ex] at e
  split at e <;> (first | (cases e; done) | skip)
  rename_i p S1 e1
  obtain ⟨ρ1, e2, e3⟩ := Option.map_eq_some_iff.mp e
  cases e3
  exact tP.mk W E.E e1 fun ω1 H1 v x1 W1 r1 => setTg_s W1 (E.ext x1) r1 e2 fun σ1 E1 => q ω1 H1 σ1 (x0.trans x1) x1.L W1 E1
theorem sp_setC {n : Nat} {x : Str} {es : List Expr} {px pl : Pos} (hN : X.N.Nodup) (hi : X.N[n]? = some x) (hx : Loc X.env.scope x) (hf : X.fn x = true ∨ X.env.scope.names.lookup x = some .local) (ha : PA X es (tPs X.K G ce)) :
    PS X (.Assign [.Name x px] (.List es pl) pos) (tS X.K G (.setC n ce)) := (ps_set hN hi hx (pe_lst ha) rfl hf).weak fun D σ H h => by
  obtain ⟨ω0, H0, ω, ρ, S, ou, ρ', S', x0, W, E, e, q⟩ := h
  simp only [ex] at e
  split at e <;> (first | (cases e; done) | skip)
  rename_i ps S1 e1
  split at e <;> (first | (cases e; done) | skip)
  rename_i hz
  cases e
  refine ⟨ω, ρ, S, ps, S1, W, E.E, e1, fun ω1 H1 vs x1 W1 r1 => ⟨?_, fun p hp => ?_⟩⟩
  · rw [← paired_len r1]
    exact fits_line hz
  · obtain ⟨x2, W2, r2⟩ := Ext.cell W1 hp r1
    exact q _ _ _ ((x0.trans x1).trans x2) (x1.L.trans x2.L) W2 (((E.ext x1).ext x2).set r2)
theorem sp_setIx {tp : Pos} (hv : PE X e (tP X.K G ce)) (ho : PE X o (tP X.K G co)) (hi : PE X i (tP X.K G ci)) (ns : notSlice i = true) (nc : isComp e = false) :
    PS X (.Assign [.Subscript o i tp] e pos) (tS X.K G (.setIx co ci ce)) := by
  have has : ∀ v, assign (.Subscript o i tp) X.env v = (do
      let ov ← holding [v] (eval o X.env)
      let iv ← holding [v, ov] (eval i X.env)
      standAt tp
      holding [v, ov, iv] (setItem ov iv v)
      release [v, ov, iv] []) := fun v => by
    cases i <;> first | rfl | (cases ns)
  have sw : swapsWithSole [.Subscript o i tp] e pos.line X.env = pure false := by
    cases e <;> first | rfl | (cases nc)
  refine (ps_asg hv (pg_sub ho hi set_list has) sw rfl rfl).weak fun D σ H h => ?_
  obtain ⟨ω0, H0, ω, ρ, S, ou, ρ', S', x0, W, E, e, q⟩ := h
  simp only [ex] at e
  split at e <;> (first | (cases e; done) | skip)
  rename_i p S1 e1
  split at e <;> (first | (cases e; done) | skip)
  rename_i n S2 e2
  split at e <;> (first | (cases e; done) | skip)
  rename_i kk S3 e3
  obtain ⟨S4, e4, e5⟩ := Option.map_eq_some_iff.mp e
  cases e5
  unfold setCell at e4
  split at e4 <;> (first | (cases e4; done) | skip)
  rename_i ps h1
  split at e4 <;> (first | (cases e4; done) | skip)
  rename_i j h2
  cases e4
  refine tP.mk W E.E e1 fun ω1 H1 v x1 W1 r1 => tP.mk W1 (E.ext x1).E e2 fun ω2 H2 u x2 W2 r2 => tP.mk W2 ((E.ext x1).ext x2).E e3 fun ω3 H3 w x3 W3 r3 => ?_
  obtain ⟨c, rfl, hc⟩ := r2.ext x3
  obtain ⟨vs, hv, rv⟩ := W3.cell n c _ hc h1
  obtain ⟨x4, W4⟩ := Ext.put (j := j) W3 hc h1 hv ((r1.ext x2).ext x3)
  refine ⟨c, vs, kk, j, rfl, rep_int r3, hv, by rw [← paired_len rv]; exact h2, ?_⟩
  exact q ω3 _ σ ((((x0.trans x1).trans x2).trans x3).trans x4) ((x1.L.trans x2.L).trans x3.L) W4 ((((E.ext x1).ext x2).ext x3).ext x4)
theorem sp_drop (he : PE X e (tP X.K G ce)) (nc : isComp e = false) : PS X (.Expr e pos) (tS X.K G (.drop ce)) := by
  have sw : swapsWith e none pos.line X.env = pure false := by
    cases e <;> first | rfl | (cases nc)
  refine (ps_expr he sw).weak fun D σ H h => ?_
  obtain ⟨ω0, H0, ω, ρ, S, ou, ρ', S', x0, W, E, e, q⟩ := h
  simp only [ex] at e
  split at e <;> (first | (cases e; done) | skip)
  rename_i p S1 e1
  cases e
  exact tP.mk W E.E e1 fun ω1 H1 v x1 W1 r1 => q ω1 H1 σ (x0.trans x1) x1.L W1 (E.ext x1)
theorem sp_next {s : Stmt} {c : SCode} (hc : ∀ ρ S, ex G c ρ S = some (.nx, ρ, S)) (h : PS X s tNext) : PS X s (tS X.K G c) := h.weak fun D σ H h => by
  obtain ⟨ω0, H0, ω, ρ, S, ou, ρ', S', x0, W, E, e, q⟩ := h
  rw [hc] at e
  cases e
  exact q ω H σ x0 (Same.refl _) W E
theorem sp_brk : PS X (.Break pos) (tS X.K G .brk) := ps_break.weak fun D σ H h => by
  obtain ⟨ω0, H0, ω, ρ, S, ou, ρ', S', x0, W, E, e, q⟩ := h
  simp only [ex] at e
  cases e
  exact q ω H σ x0 (Same.refl _) W E
theorem sp_cont : PS X (.Continue pos) (tS X.K G .cont) := ps_continue.weak fun D σ H h => by
  obtain ⟨ω0, H0, ω, ρ, S, ou, ρ', S', x0, W, E, e, q⟩ := h
  simp only [ex] at e
  cases e
  exact q ω H σ x0 (Same.refl _) W E
theorem sp_never {s : Stmt} : PS X s (tS X.K G .never) := ps_never.weak fun D σ H h => by
  obtain ⟨ω0, H0, ω, ρ, S, ou, ρ', S', x0, W, E, e, q⟩ := h
  simp only [ex] at e
  cases e
theorem sp_if {t : Expr} (ht : PT X t (tPb X.K G cc)) (ha : PSs X a (tS X.K G sa)) (hb : PSs X b (tS X.K G sb)) : PS X (.If t a b pos) (tS X.K G (.ifs cc sa sb)) := (ps_if ht ha hb).weak fun D σ H h => by
  obtain ⟨ω0, H0, ω, ρ, S, ou, ρ', S', x0, W, E, e, q⟩ := h
  simp only [ex] at e
  split at e <;> (first | (cases e; done) | skip)
  · rename_i S1 e1
    exact ⟨ω, ρ, S, true, S1, W, E.E, e1, fun ω1 H1 x1 W1 => iteT ⟨ω0, H0, ω1, ρ, S1, ou, ρ', S', x0.trans x1, W1, E.ext x1, e, fun ω2 H2 σ2 x2 s2 => q ω2 H2 σ2 x2 (x1.L.trans s2)⟩⟩
  · rename_i S1 e1
    exact ⟨ω, ρ, S, false, S1, W, E.E, e1, fun ω1 H1 x1 W1 => iteF ⟨ω0, H0, ω1, ρ, S1, ou, ρ', S', x0.trans x1, W1, E.ext x1, e, fun ω2 H2 σ2 x2 s2 => q ω2 H2 σ2 x2 (x1.L.trans s2)⟩⟩
theorem ss_nil : PSs X [] (tS X.K G .nil) := pss_nil.weak fun D σ H h => by
  obtain ⟨ω0, H0, ω, ρ, S, ou, ρ', S', x0, W, E, e, q⟩ := h
  simp only [ex] at e
  cases e
  exact q ω H σ x0 (Same.refl _) W E
theorem ss_cons {s : Stmt} (hs : PS X s (tS X.K G sa)) (hr : PSs X b (tS X.K G sb)) : PSs X (s :: b) (tS X.K G (.cons sa sb)) := (pss_cons hs hr).weak fun D σ H h => by
  obtain ⟨ω0, H0, ω, ρ, S, ou, ρ', S', x0, W, E, e, q⟩ := h
  simp only [ex] at e
  split at e <;> (first | (cases e; done) | skip)
  · rename_i ρ1 S1 e1
    exact ⟨ω0, H0, ω, ρ, S, .nx, ρ1, S1, x0, W, E, e1, fun ω1 H1 σ1 x1 s1 W1 E1 => ⟨ω0, H0, ω1, ρ1, S1, ou, ρ', S', x1, W1, E1, e, fun ω2 H2 σ2 x2 s2 => q ω2 H2 σ2 x2 (s1.trans s2)⟩⟩
  · rename_i o1 ρ1 S1 hne e1
    cases e
    refine ⟨ω0, H0, ω, ρ, S, ou, ρ', _, x0, W, E, e1, fun ω1 H1 σ1 x1 s1 W1 E1 => ?_⟩
    have := q ω1 H1 σ1 x1 s1 W1 E1
    cases ou with
    | nx => exact (hne rfl).elim
    | bk => exact this
    | ct => exact this
    | rt p => exact this
theorem sp_for {tg it : Expr} {g : Tg} (hx : X.xe = fun _ _ => False) (hc : X.calm = true) (hi : PI X tg it (iP X.K G ci)) (hg : PG X tg (gTg X.K g)) (hb : PSs X b (tS X.K G sb)) (hs : ∀ x, foldedSetIterable it X.env x = pure x) :
    PS X (.For tg it b [] pos) (tS X.K G (.for_ g ci sb)) := by
  have hp : PassesOwn (model X.prog X.w) X.A X.env X.xe := by
    rw [hx]
    exact PassesOwn.never
  refine (ps_for hp hc hi hg hb hs).weak fun D σ H h => ?_
  obtain ⟨ω0, H0, ω, ρ, S, ou, ρ', S', x0, W, E, e, q⟩ := h
  simp only [ex] at e
  split at e <;> (first | (cases e; done) | skip)
  rename_i p S1 e1
  split at e <;> (first | (cases e; done) | skip)
  rename_i xs e2
  refine ⟨ω, ρ, S, p, S1, xs, W, E.E, e1, e2, fun ω1 H1 J x1 W1 it => ?_⟩
  refine ⟨fun i m σ H => m = xs.length - i ∧ i ≤ xs.length ∧ ∃ ω2 ρ2 S2, Ext ω0 H0 ω2 H ∧ Same ω1.L ω2.L ∧ Wok X.K ω2 S2 H ∧ EnvS X.K H0 ω2 H σ ρ2 ∧ forL g (ex G sb) (xs.drop i) ρ2 S2 = some (ou, ρ', S'),
    ⟨xs.length, by simp, Nat.zero_le _, ω1, ρ, S1, x0.trans x1, Same.refl _, W1, E.ext x1, by rw [List.drop_zero]; exact e⟩, ?_⟩
  rintro i m σ2 H2 ⟨rfl, hi, ω2, ρ2, S2, x2, s2, W2, E2, hl⟩
  by_cases hlt : i < xs.length
  · have hx : xs[i]? = some xs[i] := List.getElem?_eq_getElem hlt
    have hd : xs.drop i = xs[i] :: xs.drop (i + 1) := List.drop_eq_getElem_cons hlt
    generalize xs[i] = x at hx hd
    rw [hd] at hl
    simp only [forL] at hl
    split at hl <;> (first | (cases hl; done) | skip)
    rename_i ρ3 e3
    obtain ⟨go, yl⟩ := (it ω2 S2 H2 s2 W2 i).1 x hx
    refine .inr ⟨go, fun σ H => ∃ m', m' < xs.length - i ∧ m' = xs.length - (i + 1) ∧ i + 1 ≤ xs.length ∧ ∃ ω2 ρ2 S2, Ext ω0 H0 ω2 H ∧ Same ω1.L ω2.L ∧ Wok X.K ω2 S2 H ∧ EnvS X.K H0 ω2 H σ ρ2 ∧ forL g (ex G sb) (xs.drop (i + 1)) ρ2 S2 = some (ou, ρ', S'), fun σ' H' hh => ?_, fun u H3 hy => ?_⟩
    · obtain ⟨m', h1, h2, h3⟩ := hh
      exact ⟨m', h1, h2, h3⟩
    · obtain ⟨ω3, x3, W3, r3⟩ := yl u H3 hy
      refine setTg_s W3 (E2.ext x3) r3 e3 fun σ4 E4 => ?_
      have again : ∀ {ω5 H5 σ5 ρ5 S5}, Ext ω0 H0 ω5 H5 → Same ω3.L ω5.L → Wok X.K ω5 S5 H5 → EnvS X.K H0 ω5 H5 σ5 ρ5 → forL g (ex G sb) (xs.drop (i + 1)) ρ5 S5 = some (ou, ρ', S') →
          ∃ m', m' < xs.length - i ∧ m' = xs.length - (i + 1) ∧ i + 1 ≤ xs.length ∧ ∃ ω2 ρ2 S2, Ext ω0 H0 ω2 H5 ∧ Same ω1.L ω2.L ∧ Wok X.K ω2 S2 H5 ∧ EnvS X.K H0 ω2 H5 σ5 ρ2 ∧ forL g (ex G sb) (xs.drop (i + 1)) ρ2 S2 = some (ou, ρ', S') :=
        fun {ω5 H5 σ5 ρ5 S5} x5 s5 W5 E5 e5 => ⟨_, by omega, rfl, hlt, ω5, ρ5, S5, x5, (s2.trans x3.L).trans s5, W5, E5, e5⟩
      have same : ∀ {ω5 : Wd}, Same ω3.L ω5.L → Same ω.L ω5.L := fun s5 => ((x1.L.trans s2).trans x3.L).trans s5
      split at hl <;> (first | (cases hl; done) | skip)
      · rename_i ρ5 S5 e5
        exact ⟨ω0, H0, ω3, ρ3, S2, .nx, ρ5, S5, x2.trans x3, W3, E4, e5, fun ω5 H5 σ5 x5 s5 W5 E5 => again x5 s5 W5 E5 hl⟩
      · rename_i ρ5 S5 e5
        exact ⟨ω0, H0, ω3, ρ3, S2, .ct, ρ5, S5, x2.trans x3, W3, E4, e5, fun ω5 H5 σ5 x5 s5 W5 E5 => again x5 s5 W5 E5 hl⟩
      · rename_i ρ5 S5 e5
        cases hl
        exact ⟨ω0, H0, ω3, ρ3, S2, .bk, _, _, x2.trans x3, W3, E4, e5, fun ω5 H5 σ5 x5 s5 W5 E5 => q ω5 H5 σ5 x5 (same s5) W5 E5⟩
      · rename_i pr ρ5 S5 e5
        cases hl
        exact ⟨ω0, H0, ω3, ρ3, S2, .rt pr, _, _, x2.trans x3, W3, E4, e5, fun ω5 H5 σ5 x5 s5 W5 E5 => q ω5 H5 σ5 x5 (same s5) W5 E5⟩
  · have hie : i = xs.length := by omega
    subst hie
    rw [List.drop_length] at hl
    simp only [forL] at hl
    cases hl
    exact .inl ⟨(it ω2 _ H2 s2 W2 xs.length).2 (Nat.le_refl _), q ω2 H2 σ2 x2 (x1.L.trans s2) W2 E2⟩
theorem sp_while {t : Expr} (hx : X.xe = fun _ _ => False) (ht : PT X t (tPb X.K G cc)) (hb : PSs X b (tS X.K G sb)) : PS X (.While t b [] pos) (tS X.K G (.while_ cc sb)) := by
  have hp : PassesOwn (model X.prog X.w) X.A X.env X.xe := by
    rw [hx]
    exact PassesOwn.never
  refine (ps_while hp ht hb).weak fun D σ H h => ?_
  obtain ⟨ω0, H0, ω, ρ, S, ou, ρ', S', x0, W, E, e, q⟩ := h
  simp only [ex] at e
  refine ⟨fun m σ H => ∃ ω2 ρ2 S2, Ext ω0 H0 ω2 H ∧ Same ω.L ω2.L ∧ Wok X.K ω2 S2 H ∧ EnvS X.K H0 ω2 H σ ρ2 ∧ whileL (ev G cc) (ex G sb) m ρ2 S2 = some (ou, ρ', S'), ⟨turns, ω, ρ, S, x0, Same.refl _, W, E, e⟩, ?_⟩
  rintro m σ2 H2 ⟨ω2, ρ2, S2, x2, s2, W2, E2, hl⟩
  cases m with
  | zero => cases hl
  | succ m =>
    simp only [whileL] at hl
    split at hl <;> (first | (cases hl; done) | skip)
    · rename_i S3 e3
      refine ⟨ω2, ρ2, S2, true, S3, W2, E2.E, e3, fun ω3 H3 x3 W3 => iteT ⟨fun σ H => ∃ m', m' < m + 1 ∧ ∃ ω2 ρ2 S2, Ext ω0 H0 ω2 H ∧ Same ω.L ω2.L ∧ Wok X.K ω2 S2 H ∧ EnvS X.K H0 ω2 H σ ρ2 ∧ whileL (ev G cc) (ex G sb) m' ρ2 S2 = some (ou, ρ', S'), fun σ' H' hh => hh, ?_⟩⟩
      have again : ∀ {ω5 H5 σ5 ρ5 S5}, Ext ω0 H0 ω5 H5 → Same ω3.L ω5.L → Wok X.K ω5 S5 H5 → EnvS X.K H0 ω5 H5 σ5 ρ5 → whileL (ev G cc) (ex G sb) m ρ5 S5 = some (ou, ρ', S') →
          ∃ m', m' < m + 1 ∧ ∃ ω2 ρ2 S2, Ext ω0 H0 ω2 H5 ∧ Same ω.L ω2.L ∧ Wok X.K ω2 S2 H5 ∧ EnvS X.K H0 ω2 H5 σ5 ρ2 ∧ whileL (ev G cc) (ex G sb) m' ρ2 S2 = some (ou, ρ', S') :=
        fun {ω5 H5 σ5 ρ5 S5} x5 s5 W5 E5 e5 => ⟨m, Nat.lt_succ_self _, ω5, ρ5, S5, x5, (s2.trans x3.L).trans s5, W5, E5, e5⟩
      split at hl <;> (first | (cases hl; done) | skip)
      · rename_i ρ5 S5 e5
        exact ⟨ω0, H0, ω3, ρ2, S3, .nx, ρ5, S5, x2.trans x3, W3, E2.ext x3, e5, fun ω5 H5 σ5 x5 s5 W5 E5 => again x5 s5 W5 E5 hl⟩
      · rename_i ρ5 S5 e5
        exact ⟨ω0, H0, ω3, ρ2, S3, .ct, ρ5, S5, x2.trans x3, W3, E2.ext x3, e5, fun ω5 H5 σ5 x5 s5 W5 E5 => again x5 s5 W5 E5 hl⟩
      · rename_i ρ5 S5 e5
        cases hl
        exact ⟨ω0, H0, ω3, ρ2, S3, .bk, _, _, x2.trans x3, W3, E2.ext x3, e5, fun ω5 H5 σ5 x5 s5 W5 E5 => q ω5 H5 σ5 x5 ((s2.trans x3.L).trans s5) W5 E5⟩
      · rename_i pr ρ5 S5 e5
        cases hl
        exact ⟨ω0, H0, ω3, ρ2, S3, .rt pr, _, _, x2.trans x3, W3, E2.ext x3, e5, fun ω5 H5 σ5 x5 s5 W5 E5 => q ω5 H5 σ5 x5 ((s2.trans x3.L).trans s5) W5 E5⟩
    · rename_i S3 e3
      cases hl
      exact ⟨ω2, _, S2, false, _, W2, E2.E, e3, fun ω3 H3 x3 W3 => iteF (q ω3 H3 σ2 (x2.trans x3) (s2.trans x3.L) W3 (E2.ext x3))⟩
end
end VC

/-! VO: the induction over statements; defs. -/
namespace VC
open PySem PySem.Spec PyProof.Rows L2

theorem blk_fn {env : PySem.Env} (h : env.scope.kind = .function) : env.blockKind = .function := by
  unfold PySem.Env.blockKind
  rw [h]
  rfl
theorem sw_false {X : Cx} {C : Cc} {elt : Expr} {gs : List Comprehension} {scope : Scope} {pos px : Pos} {x : Str} {l : Nat} (hk : X.env.scope.kind = .function) (hs : X.env.scope = C.sc) (h : swB C x px (.ListComp elt gs scope pos) = false) :
    swapsWith (.ListComp elt gs scope pos) (some (.Name x px)) l X.env = pure false := by
  unfold swapsWith
  simp only [swB] at h
  rw [← hs] at h
  have hb := blk_fn hk
  have hn : X.env.kindOf x = X.env.scope.names.lookup x := rfl
  simp only [hb, hn, Expr.pos]
  have e : ((NameKind.local == NameKind.local)) = true := rfl
  congr 1
  generalize X.env.scope.names.lookup x = o at h ⊢
  generalize (px.line == pos.line) = b1 at h ⊢
  generalize (scope.names.any fun (n, k) => n == x && (k == .local || k == .cell)) = b2 at h ⊢
  cases o with
  | none => rfl
  | some kd => cases kd <;> cases b1 <;> cases b2 <;> first | rfl | (cases h)
theorem sw_tru {X : Cx} {C : Cc} {elt : Expr} {gs : List Comprehension} {scope : Scope} {pos px : Pos} {x : Str} {l : Nat} (hk : X.env.scope.kind = .function) (hs : X.env.scope = C.sc) (h : swB C x px (.ListComp elt gs scope pos) = true) :
    X.env.scope.names.lookup x = some .local ∧ swapsWith (.ListComp elt gs scope pos) (some (.Name x px)) l X.env = pure true := by
  unfold swB at h
  rw [← hs, Bool.and_eq_true, Bool.and_eq_true, Bool.not_eq_true'] at h
  obtain ⟨⟨h1, h2⟩, h3⟩ := h
  have hl : X.env.scope.names.lookup x = some .local := by
    split at h1
    · assumption
    · cases h1
  exact ⟨hl, sw_true hk hl h2 h3⟩

structure SndS (n : Nat) : Prop where
  S : ∀ (C : Cc) (X : Cx) (G : Gx) (k : Nat) (st : Stmt) (c : SCode), CtxOk X C G k → cS n C st = some c → PS X st (tS X.K G c)
  B : ∀ (C : Cc) (X : Cx) (G : Gx) (k : Nat) (st : List Stmt) (c : SCode), CtxOk X C G k → cSs n C st = some c → PSs X st (tS X.K G c)
section
variable {n : Nat} {C : Cc} {X : Cx} {G : Gx} {k : Nat} {c : SCode}
theorem bB (s : SndS n) (O : CtxOk X C G k) : ∀ {st : List Stmt} {c : SCode}, cSs (n + 1) C st = some c → PSs X st (tS X.K G c)
  | [], c, h => by
    simp only [cSs] at h
    cases h
    exact ss_nil
  | st :: r, c, h => by
    simp only [cSs] at h
    split at h <;> (first | (cases h; done) | skip)
    rename_i x y h1 h2
    cases h
    exact ss_cons (s.S C X G k st x O h1) (s.B C X G k r y O h2)
theorem notCompSw {e : Expr} {t : Option Expr} {l : Nat} {env : PySem.Env} (h : isComp e = false) : swapsWith e t l env = pure false := by
  cases e <;> first | rfl | (cases h)
theorem swStores {e : Expr} {ts : List Expr} {kk : Nat} {tp : Pos} {env : PySem.Env} (h : isTupE e = false) : swappedStores [.Tuple ts kk tp] e env = pure none := by
  cases e <;> first | rfl | (cases h)
theorem bS (s : SndS n) (O : CtxOk X C G k) {st : Stmt} (h : cS (n + 1) C st = some c) : PS X st (tS X.K G c) := by
  have hk : X.env.scope.kind = .function := by rw [O.sc]; exact O.kind
  unfold cS at h
  split at h <;> (first | (cases h; done) | skip)
  · -- name = ..
    rename_i x px e pos
    split at h
    · split at h <;> (first | (cases h; done) | skip)
      rename_i es pl
      split at h <;> (first | (cases h; done) | skip)
      rename_i hl
      split at h <;> (first | (cases h; done) | skip)
      rename_i i l h1 h2
      cases h
      obtain ⟨l1, l2⟩ := loc_of O hl
      exact sp_setC O.nd' (by rw [O.N]; exact slot_at h1) l1 l2 ((snd n).D C X G k es l O h2)
    · split at h <;> (first | (cases h; done) | skip)
      rename_i g c h1 h2
      cases h
      simp only [cTg] at h1
      split at h1 <;> (first | (cases h1; done) | skip)
      rename_i hl
      obtain ⟨i, h3, rfl⟩ := Option.map_eq_some_iff.mp h1
      obtain ⟨l1, l2⟩ := loc_of O hl
      have at_ : X.N[i]? = some x := by rw [O.N]; exact slot_at h3
      have pe := (snd n).E C X G k e c O h2
      by_cases hc : isComp e = true
      · cases e with
        | ListComp elt gens scope cpos =>
          by_cases hb : swB C x px (.ListComp elt gens scope cpos) = true
          · obtain ⟨q1, q2⟩ := sw_tru (l := pos.line) hk O.sc hb
            cases n with
            | zero => simp [cE] at h2
            | succ m => exact ((sLc (snd m) O h2).2 i x px pos at_ q1 q2).weak fun D σ H hh => asg_s hh
          · exact (ps_set O.nd' at_ l1 pe (sw_false hk O.sc (by simpa using hb)) l2).weak fun D σ H hh => asg_s hh
        | SetComp _ _ _ _ => cases n <;> simp [cE] at h2
        | DictComp _ _ _ _ _ => cases n <;> simp [cE] at h2
        | _ => cases hc
      · exact (ps_set O.nd' at_ l1 pe (notCompSw (by simpa using hc)) l2).weak fun D σ H hh => asg_s hh
  · rename_i ts kk tp e pos
    split at h <;> (first | (cases h; done) | skip)
    rename_i hc
    split at h <;> (first | (cases h; done) | skip)
    rename_i g c h1 h2
    cases h
    have hc1 : isComp e = false := by
      cases q : isComp e with
      | false => rfl
      | true => rw [q] at hc; exact absurd rfl hc
    have hc2 : isTupE e = false := by
      cases q : isTupE e with
      | false => rfl
      | true => rw [q, Bool.or_true] at hc; exact absurd rfl hc
    exact (ps_asg ((snd n).E C X G k e c O h2) (pg_tg O h1) (show swapsWith e (some (.Tuple ts kk tp)) pos.line X.env = pure false from notCompSw hc1) (swStores hc2) rfl).weak fun D σ H hh => asg_s hh
  · rename_i o i tp e pos
    split at h <;> (first | (cases h; done) | skip)
    rename_i hc
    split at h <;> (first | (cases h; done) | skip)
    rename_i a b c h1 h2 h3
    cases h
    have hc1 : isComp e = false := by
      cases q : isComp e with
      | false => rfl
      | true => rw [q] at hc; exact absurd rfl hc
    have hc2 : notSlice i = true := by
      cases q : notSlice i with
      | true => rfl
      | false => rw [q, Bool.not_false, Bool.or_true] at hc; exact absurd rfl hc
    exact sp_setIx ((snd n).E C X G k e c O h3) ((snd n).E C X G k o a O h1) ((snd n).E C X G k i b O h2) hc2 hc1
  · cases h
    exact sp_next (fun _ _ => rfl) ps_doc
  · split at h <;> (first | (cases h; done) | skip)
    rename_i hc
    obtain ⟨c, h1, rfl⟩ := Option.map_eq_some_iff.mp h
    exact sp_drop ((snd n).E C X G k _ c O h1) (by simpa using hc)
  · obtain ⟨c, h1, rfl⟩ := Option.map_eq_some_iff.mp h
    exact sp_ret ((snd n).E C X G k _ c O h1)
  · cases h
    exact sp_retN
  · split at h <;> (first | (cases h; done) | skip)
    rename_i hc
    split at h <;> (first | (cases h; done) | skip)
    rename_i t x y h1 h2 h3
    cases h
    exact sp_if ((snd n).T C X G k _ t O (by simpa using hc) h1) (s.B C X G k _ x O h2) (s.B C X G k _ y O h3)
  · split at h <;> (first | (cases h; done) | skip)
    rename_i g i b h1 h2 h3
    cases h
    exact sp_for O.xe O.calm (pi_any ((snd n).E C X G k _ i O h2)) (pg_tg O h1) (s.B C X G k _ b O h3) (noFold h2 _)
  · split at h <;> (first | (cases h; done) | skip)
    rename_i hc
    split at h <;> (first | (cases h; done) | skip)
    rename_i t b h1 h2
    cases h
    exact sp_while O.xe ((snd n).T C X G k _ t O (by simpa using hc) h1) (s.B C X G k _ b O h2)
  · cases h
    exact sp_next (fun _ _ => rfl) ps_pass
  · cases h
    exact sp_brk
  · cases h
    exact sp_cont
  · cases h
    exact sp_never
end
theorem sndS : ∀ n, SndS n
  | 0 => ⟨fun C X G k st c _ h => by simp [cS] at h, fun C X G k st c _ h => by simp [cSs] at h⟩
  | n + 1 => ⟨fun C X G k st c O h => bS (sndS n) O h, fun C X G k st c O h => bB (sndS n) O h⟩
end VC

/-! VP: the text's defs, all at once. -/
namespace VC
open PySem PySem.Spec PyProof.Rows L2

def stName : Stmt → Str
  | .FunctionDef n _ _ _ _ _ _ _ _ _ => n
  | _ => ""
def plainA (as : List Arg) : Arguments := { posonlyargs := [], args := as, vararg := none, kwonlyargs := [], kw_defaults := [], kwarg := none, defaults := [] }
theorem fm_congr {α β : Type} {f g : α → Option β} : ∀ {l : List α}, (∀ a ∈ l, f a = g a) → l.filterMap f = l.filterMap g
  | [], _ => rfl
  | a :: r, h => by rw [List.filterMap_cons, List.filterMap_cons, h a List.mem_cons_self, fm_congr fun x hx => h x (List.mem_cons_of_mem _ hx)]
theorem zip_look : ∀ {ns : List Str} {us : List Value}, us.length = ns.length → ∀ n ∈ ns, ∃ u, (ns.zip us).lookup n = some u
  | m :: ns, u :: us, h, n, hn => by
    rw [List.zip_cons_cons, List.lookup_cons]
    cases q : n == m with
    | true => exact ⟨u, rfl⟩
    | false =>
      rcases List.mem_cons.mp hn with e | hn
      · rw [e] at q; simp at q
      · exact zip_look (by simpa using h) n hn
theorem zip_all : ∀ {ns : List Str} {us : List Value}, ns.Nodup → us.length = ns.length → ns.filterMap (fun n => ((ns.zip us).lookup n).map (n, ·)) = ns.zip us
  | [], [], _, _ => rfl
  | m :: ns, u :: us, nd, h => by
    obtain ⟨h1, h2⟩ := List.nodup_cons.mp nd
    have ih := zip_all (ns := ns) (us := us) h2 (by simpa using h)
    rw [List.filterMap_cons]
    have e0 : ((m :: ns).zip (u :: us)).lookup m = some u := by rw [List.zip_cons_cons, List.lookup_cons]; simp
    rw [e0]
    show (m, u) :: _ = (m, u) :: ns.zip us
    congr 1
    refine Eq.trans ?_ ih
    apply fm_congr
    intro n hn
    have : (n == m) = false := by
      cases q : n == m with
      | false => rfl
      | true => rw [beq_iff_eq] at q; subst q; exact absurd hn h1
    rw [List.zip_cons_cons, List.lookup_cons, this]
theorem bind_plain {x qual : Str} {body : List Stmt} {scope : Scope} {kV doc pm cdv ct : Value} {an : Option Addr} (as : List Arg) (us : List Value) (nd : (as.map (·.arg)).Nodup) (h' : us.length = (as.map (·.arg)).length) :
    bindArgs (PySem.W.fnOf x qual (plainA as) body scope .none kV doc pm an cdv ct) ⟨us, []⟩ = pure ((as.map (·.arg)).zip us) := by
  have e1 := zip_all nd h'
  have e2 := zip_look h'
  generalize hns : as.map (·.arg) = ns at *
  have n0 : notAStandIn Value.none = pure () := rfl
  have d0 : decide (us.length > ns.length) = false := decide_eq_false (by omega)
  have f0 : (ns.take ns.length).filter (fun n => ((ns.zip us).lookup n).isNone) = [] := by
    rw [List.take_length, List.filter_eq_nil_iff]
    intro n hn
    obtain ⟨u, hu⟩ := e2 n hn
    rw [hu]
    simp
  unfold bindArgs PySem.W.fnOf plainA
  simp only [List.map_nil, List.nil_append, List.append_nil, List.forIn_nil, seqItems?, pure_bind, hns, n0, d0, Bool.false_and, Bool.false_eq_true, if_false, Option.getD_none, List.drop_nil, List.length_nil, Nat.sub_zero, f0, List.isEmpty_nil, Bool.not_true, List.zip_nil_right, e1]
  first | rfl | trace_state
/-- a def of the text: its statement, its slots, its code -/
structure Dat where
  st : Stmt
  N : List Str
  fn : Fn
def Dat.name (d : Dat) : Str := stName d.st
def Dat.as (d : Dat) : List Arg := (defArgs d.st).args
def Dat.ps (d : Dat) : List Str := d.as.map (·.arg)
/-- the text's names: its defs, constants, the built-ins that it uses, its cells' names -/
structure Txt where
  fns : List Str
  gls : List Str
  bls : List Str
  cells : List Str
def Txt.cc (t : Txt) (d : Dat) : Cc := { N := d.N, sc := defScope d.st, fn := fun _ => true, fns := t.fns, gls := t.gls, bls := t.bls, cells := t.cells }
def isPlain : Arguments → Bool
  | { posonlyargs := [], args := as, vararg := none, kwonlyargs := [], kw_defaults := [], kwarg := none, defaults := [] } => true
  | _ => false
def fnKind : ScopeKind → Bool
  | .function => true
  | _ => false
def Dat.okB (t : Txt) (d : Dat) : Bool :=
  isPlain (defArgs d.st) && fnKind (defScope d.st).kind && !(defScope d.st).isCoroutine && !(defScope d.st).isGenerator && decide d.N.Nodup && decide (d.N.take d.ps.length = d.ps) &&
  d.ps.all (fun x => match (defScope d.st).names.lookup x with | some .local => true | some .cell => true | _ => false) && (defScope d.st).names.all (fun y => match y.2 with | .free => false | _ => true) &&
  decide (cSs 100 (t.cc d) (defBody d.st) = some d.fn.body) && decide (d.fn.slots = d.N.length) && decide (d.fn.pars = d.ps.length)
theorem isPlain_ok {a : Arguments} (h : isPlain a = true) : a = plainA a.args := by
  unfold isPlain at h
  split at h
  · rfl
  · cases h
structure Dat.Ok (t : Txt) (d : Dat) : Prop where
  plain : defArgs d.st = plainA d.as
  sc : FnScope d.N d.ps (defScope d.st)
  code : cSs 100 (t.cc d) (defBody d.st) = some d.fn.body
  slots : d.fn.slots = d.N.length
  pars : d.fn.pars = d.ps.length
theorem Dat.ok {t : Txt} {d : Dat} (h : d.okB t = true) : d.Ok t := by
  unfold Dat.okB at h
  simp only [Bool.and_eq_true, decide_eq_true_eq, Bool.not_eq_true'] at h
  obtain ⟨⟨⟨⟨⟨⟨⟨⟨⟨⟨h1, h2⟩, h3⟩, h4⟩, h5⟩, h6⟩, h7⟩, h8⟩, h9⟩, h10⟩, h11⟩ := h
  refine ⟨isPlain_ok h1, ⟨?_, h3, h4, h5, h6, fun x hx => ?_, fun y hy e => ?_⟩, h9, h10, h11⟩
  · unfold fnKind at h2
    split at h2
    · assumption
    · cases h2
  · have q := List.all_eq_true.mp h7 x hx
    split at q
    · exact .inl (by assumption)
    · exact .inr (by assumption)
    · cases q
  · have q := List.all_eq_true.mp h8 y hy
    rw [e] at q
    cases q

/-- the promise of a def's run -/
def spR (K : PySem.W.Frag) (G : Gx) (f : Fn) : Sp := fun vs H Q _ => ∃ ω S ps p S', Wok K ω S H ∧ RepAll K ω ps vs ∧ runFn G f ps S = some (p, S') ∧ Aft K ω S' H p Q

section
variable {K : PySem.W.Frag} {ω : Wd} {H : Hp}
theorem start_env {d : Dat} {t : Txt} (O : d.Ok t) {ps : List PV} {vs : List V} (r : RepAll K ω ps vs) (hl : ps.length = d.fn.pars) : EnvS K H ω H (L2.start d.N vs) (startE d.fn ps) := by
  have lv : ps.length = vs.length := paired_len r
  have nown : ∀ (i : Nat) (xs : List PyData), (startE d.fn ps)[i]? ≠ some (some (.own xs)) := fun i xs h => by
    unfold startE at h
    by_cases hi : i < (ps.map some).length
    · rw [List.getElem?_append_left hi, List.getElem?_map] at h
      obtain ⟨q, hq, e⟩ := Option.map_eq_some_iff.mp h
      cases e
      obtain ⟨v, hv, rv⟩ := paired_at r i _ hq
      exact rv.elim
    · rw [List.getElem?_append_right (Nat.le_of_not_lt hi)] at h
      have := List.mem_of_getElem? h
      rw [List.mem_replicate] at this
      cases this.2
  refine ⟨⟨?_, fun i p h => ?_, fun i j xs ys a h _ _ _ => absurd h (nown i xs)⟩, fun i xs a h _ => absurd h (nown i xs)⟩
  · show (vs.map some ++ List.replicate (d.N.length - vs.length) none).length = (ps.map some ++ List.replicate (d.fn.slots - d.fn.pars) none).length
    rw [List.length_append, List.length_append, List.length_map, List.length_map, List.length_replicate, List.length_replicate, O.slots, lv, ← hl, lv]
  · unfold startE at h
    by_cases hi : i < (ps.map some).length
    · rw [List.getElem?_append_left hi, List.getElem?_map] at h
      obtain ⟨q, hq, e⟩ := Option.map_eq_some_iff.mp h
      cases e
      obtain ⟨v, hv, rv⟩ := paired_at r i _ hq
      refine ⟨v, ?_, RepE.of rv⟩
      show (vs.map some ++ List.replicate (d.N.length - vs.length) none)[i]? = _
      rw [List.getElem?_append_left (by rw [List.length_map, ← lv]; simpa using hi), List.getElem?_map, hv]
      rfl
    · rw [List.getElem?_append_right (Nat.le_of_not_lt hi)] at h
      have := List.mem_of_getElem? h
      rw [List.mem_replicate] at this
      cases this.2
end

section
variable {P : Program} {w : World} {K : PySem.W.Frag} {mg : Str → Option Value} {base : Heap} {t : Txt} {G : Gx} {k : Nat}
/-- what the text's names are, and what its defs do when they are called at level k -/
structure Facts (P : Program) (w : World) (K : PySem.W.Frag) (mg : Str → Option Value) (base : Heap) (t : Txt) (G : Gx) (k : Nat) : Prop where
  fns : ∀ (j : Nat) (f : Str), t.fns[j]? = some f → ∃ a fd ps, mg f = some (.ref a) ∧ PySem.W.keepIn K (.ref a) = true ∧ Binds K fd ps [] ∧ FnOk P w K mg base CX0 k a fd ps (spF K G j)
  gls : ∀ (j : Nat) (x : Str), t.gls[j]? = some x → ∃ u v d, mg x = some u ∧ RelV v u ∧ G.gl[j]? = some d ∧ ∀ H, Rp K H v d
  bls : ∀ x ∈ t.bls, mg x = none
theorem dat_fn {d : Dat} (O : d.Ok t) {f : Addr} {fd : FuncData} (F : FunD K d.name d.name (defArgs d.st) (defBody d.st) (defScope d.st) [] [] f fd) (A : Facts P w K mg base t G k) :
    FnOk P w K mg base CX0 (k + 1) f fd d.ps (spR K G d.fn) := by
  refine F.ok O.sc (fun vs H Q E h => ?_) fun cdv A' outer s H vs Q E hr h => ?_
  · obtain ⟨ω, S, ps, p, S', W, r, e, q⟩ := h
    unfold runFn at e
    split at e
    · rename_i hl
      rw [← paired_len r, hl, O.pars]
    · cases e
  · obtain ⟨ω, S, ps, p, S', W, r, e, q⟩ := h
    unfold runFn at e
    split at e
    · rename_i hl
      have ctx : CtxOk (cxOf CX0 P w K mg base d.N d.name (defScope d.st) f cdv A' outer s H E).nox (t.cc d) G k :=
        { N := rfl, nd := O.sc.nd, sc := rfl, kind := O.sc.kind, xe := rfl, fn := fun _ _ => rfl, calm := rfl, room := hr, fns := A.fns, gls := A.gls, bls := A.bls }
      refine ⟨_, ((sndS 100).B (t.cc d) _ G k _ _ ctx O.code).nox, ?_⟩
      have E0 := start_env (H := H) O r hl
      split at e <;> (first | (cases e; done) | skip)
      · rename_i pr ρ1 S1 e1
        cases e
        exact ⟨ω, H, ω, startE d.fn ps, S, _, _, _, Ext.refl _ _, W, E0, e1, fun ω' H' σ' x' s' W' E' v rv => q ω' H' v x' W' rv⟩
      · rename_i ρ1 S1 e1
        cases e
        exact ⟨ω, H, ω, startE d.fn ps, S, _, _, _, Ext.refl _ _, W, E0, e1, fun ω' H' σ' x' s' W' E' => q ω' H' _ x' W' Rp.non⟩
    · cases e
theorem dat_binds {d : Dat} (O : d.Ok t) {f : Addr} {fd : FuncData} (F : FunD K d.name d.name (defArgs d.st) (defBody d.st) (defScope d.st) [] [] f fd) : Binds K fd d.ps [] :=
  F.bindsN fun kV doc pm an cdv ct us hl => by
    rw [O.plain]
    have nd : d.ps.Nodup := by
      rw [← O.sc.pre]
      exact O.sc.nd.sublist (List.take_sublist _ _)
    exact bind_plain d.as us nd hl
/-- the whole text, called so deep -/
theorem tab_ok (T : List Dat) (gl : List PyData) (hT : ∀ d ∈ T, d.Ok t) (hn : t.fns = T.map Dat.name)
    (hf : ∀ (j : Nat) (d : Dat), T[j]? = some d → ∃ f fd, mg d.name = some (.ref f) ∧ FunD K d.name d.name (defArgs d.st) (defBody d.st) (defScope d.st) [] [] f fd)
    (hg : ∀ (j : Nat) (x : Str), t.gls[j]? = some x → ∃ u v d, mg x = some u ∧ RelV v u ∧ gl[j]? = some d ∧ ∀ H, Rp K H v d) (hb : ∀ x ∈ t.bls, mg x = none) :
    ∀ n, Facts P w K mg base t ⟨callN (T.map Dat.fn) gl n, gl⟩ n
  | 0 => by
    refine ⟨fun j f hj => ?_, hg, hb⟩
    rw [hn, List.getElem?_map] at hj
    obtain ⟨d, hd, rfl⟩ := Option.map_eq_some_iff.mp hj
    obtain ⟨a, fd, h1, F⟩ := hf j d hd
    refine ⟨a, fd, d.ps, h1, F.kp, dat_binds (hT d (List.mem_of_getElem? hd)) F, ⟨fun vs H Q E h => ?_, fun A outer s H args us vs Q E hr he hb hv h => ?_⟩⟩
    · obtain ⟨ω, S, ps, p, S', W, r, e, q⟩ := h
      cases e
    · obtain ⟨ω, S, ps, p, S', W, r, e, q⟩ := h
      cases e
  | n + 1 => by
    have ih := tab_ok T gl hT hn hf hg hb n
    refine ⟨fun j f hj => ?_, hg, hb⟩
    rw [hn, List.getElem?_map] at hj
    obtain ⟨d, hd, rfl⟩ := Option.map_eq_some_iff.mp hj
    obtain ⟨a, fd, h1, F⟩ := hf j d hd
    have O := hT d (List.mem_of_getElem? hd)
    refine ⟨a, fd, d.ps, h1, F.kp, dat_binds O F, (dat_fn O F ih).imp fun vs H Q E h => ?_⟩
    obtain ⟨ω, S, ps, p, S', W, r, e, q⟩ := h
    refine ⟨ω, S, ps, p, S', W, r, ?_, q⟩
    have e : callN (T.map Dat.fn) gl (n + 1) j ps S = some (p, S') := e
    simp only [callN, List.getElem?_map, hd, Option.map_some] at e
    exact e
end
end VC

/-! VQ: what the top has left, by a Hook of my own; the law's end. -/
namespace VC
open PySem PySem.Spec PyProof.Rows L2

def allB (f : Value → PyData → Bool) : List Value → List PyData → Bool
  | [], [] => true
  | v :: vs, d :: ds => f v d && allB f vs ds
  | _, _ => false
/-- a value of the written part is these data -/
def valB (K : PySem.W.Frag) : Nat → Value → PyData → Bool
  | 0, _, _ => false
  | n + 1, v, d => match v, d with
    | .none, .none => true
    | .bool b, .bool c => b == c
    | .int i _, .int j => decide (i = j)
    | .str x _, .str y => decide (x = y)
    | .ref a, .tuple ds => (match K.lookup a with
      | some ⟨.type c, none, .seq its _, _⟩ => decide (c = "tuple") && decide (its.size ≤ sizeLine) && allB (valB K n) its.toList ds
      | _ => false)
    | _, _ => false
theorem allB_ok {K : PySem.W.Frag} {f : Value → PyData → Bool} (h : ∀ v d, f v d = true → ∃ x, RelV x v ∧ ∀ H, Rp K H x d) : ∀ {vs : List Value} {ds : List PyData}, allB f vs ds = true → ∃ xs, Vals xs vs ∧ ∀ H, RpAll K H xs ds
  | [], [], _ => ⟨[], .nil, fun _ => .nil⟩
  | v :: vs, d :: ds, e => by
    have e : (f v d && allB f vs ds) = true := e
    rw [Bool.and_eq_true] at e
    obtain ⟨x, h1, h2⟩ := h v d e.1
    obtain ⟨xs, h3, h4⟩ := allB_ok h e.2
    exact ⟨x :: xs, .cons h1 h3, fun H => .cons (h2 H) (h4 H)⟩
  | [], _ :: _, e => by cases e
  | _ :: _, [], e => by cases e
theorem valB_ok {K : PySem.W.Frag} : ∀ (n : Nat) (v : Value) (d : PyData), valB K n v d = true → ∃ x, RelV x v ∧ ∀ H, Rp K H x d
  | 0, _, _, e => by cases e
  | n + 1, v, d, e => by
    unfold valB at e
    split at e
    · exact ⟨.non, rfl, fun _ => .non⟩
    · rename_i b c
      have e2 : b = c := by simpa using e
      subst e2
      exact ⟨.bl b, rfl, fun _ => .bl b⟩
    · have e2 := of_decide_eq_true e
      subst e2
      exact ⟨.int _, ⟨_, rfl⟩, fun _ => .int _⟩
    · have e2 := of_decide_eq_true e
      subst e2
      exact ⟨.str _, ⟨_, rfl⟩, fun _ => .str _⟩
    · split at e
      · rename_i hk
        rw [Bool.and_eq_true, Bool.and_eq_true] at e
        obtain ⟨⟨h1, h2⟩, h3⟩ := e
        obtain ⟨xs, h4, h5⟩ := allB_ok (valB_ok n) h3
        exact ⟨.ref _, rfl, fun H => .tup (.inr ⟨_, _, _, hk, congrArg Value.type (of_decide_eq_true h1), rfl, rfl, of_decide_eq_true h2, h4⟩) (h5 H)⟩
      · cases e
    · cases e
def gdB (K : PySem.W.Frag) (p : Str × PyData) : Bool := match PySem.W.nsIn K mainGlobals p.1 with
  | some (some v) => valB K 20 v p.2
  | _ => false
theorem gdB_ok {K : PySem.W.Frag} {h : Heap} {mg : Str → Option Value} (X : K.In h) (G : h.Ns mainGlobals mg) {p : Str × PyData} (c : gdB K p = true) : ∃ u v, mg p.1 = some u ∧ RelV v u ∧ ∀ H, Rp K H v p.2 := by
  unfold gdB at c
  split at c
  · rename_i v e
    obtain ⟨x, h1, h2⟩ := valB_ok 20 v p.2 c
    exact ⟨v, x, PySem.W.mg_of X G e, h1, h2⟩
  · cases c

/-! ### the Hook -/
abbrev AlV : Type := Bool × He.AlD
def obsV (fa : List He.Fa) (fn : List He.DefD) (gd : List (Str × PyData)) (K : PySem.W.Frag) : AlV := (gd.all fun p => gdB K p, He.obsD fa fn K)
def obsVG (n : Nat) (fa : List He.Fa) (fn : List He.DefD) (gd : List (Str × PyData)) (g : Addr → Option Obj) : AlV := obsV fa fn gd (He.frG g (He.asD g n))
def hookV (n : Nat) (fa : List He.Fa) (fn : List He.DefD) (gd : List (Str × PyData)) : PySem.W.Hook where
  α := AlV
  obs := fun s => obsVG n fa fn gd s.heap.get?
  val := fun _ => (true, He.valD fn)
  says := fun _ h => ∃ K : PySem.W.Frag, K.In h ∧ He.SaysD fa fn K ∧ (gd.all fun p => gdB K p) = true
  of := fun _ _ e => ⟨_, He.frG_in, congrArg (fun z : AlV => z.2) e, congrArg (fun z : AlV => z.1) e⟩
  keeps := fun _ _ _ ⟨K, hK, c⟩ k => ⟨K, PySem.W.Frag.In.keeps hK k, c⟩
theorem obsVG_eq {n : Nat} {fa : List He.Fa} {fn : List He.DefD} {gd : List (Str × PyData)} {g : Addr → Option Obj} {s : Shared} (h : ∀ a, g a = s.heap.get? a) : obsVG n fa fn gd g = (hookV n fa fn gd).obs s := by
  have e : g = s.heap.get? := funext h
  rw [e] <;> rfl

/-! ### the facts of a text -/
def Dat.dD (d : Dat) : He.DefD := ⟨(d.name, none), d.name, d.name, defArgs d.st, defBody d.st, defScope d.st, [], []⟩
def faOf (T : List Dat) (t : Txt) : List He.Fa := (T.map fun d => He.Fa.glo d.name) ++ t.bls.map He.Fa.free
section
variable {T : List Dat} {t : Txt} {gl : List PyData} {K : PySem.W.Frag} {h : Heap} {mg : Str → Option Value}
theorem says_glo (c : He.SaysD (faOf T t) (T.map Dat.dD) K) (X : K.In h) (G : h.Ns mainGlobals mg) {j : Nat} {d : Dat} (hj : T[j]? = some d) :
    ∃ fd, mg d.name = some (.ref (He.ga K d.name)) ∧ FunD K d.name d.name (defArgs d.st) (defBody d.st) (defScope d.st) [] [] (He.ga K d.name) fd := by
  obtain ⟨fd, F⟩ := c.def_ j (d := d.dD) (by rw [List.getElem?_map, hj]; rfl)
  refine ⟨fd, He.glo_ok X G (c.fact j (f := .glo d.name) ?_), F⟩
  unfold faOf
  have hl : j < (T.map fun d => He.Fa.glo d.name).length := by rw [List.length_map]; exact (List.getElem?_eq_some_iff.mp hj).1
  rw [List.getElem?_append_left hl, List.getElem?_map, hj]
  rfl
theorem says_free (c : He.SaysD (faOf T t) (T.map Dat.dD) K) (X : K.In h) (G : h.Ns mainGlobals mg) {x : Str} (hx : x ∈ t.bls) : mg x = none := by
  obtain ⟨i, hi, e⟩ := List.getElem_of_mem hx
  refine He.free_ok X G (c.fact (T.length + i) (f := .free x) ?_)
  unfold faOf
  rw [List.getElem?_append_right (by rw [List.length_map]; omega), List.length_map, Nat.add_sub_cancel_left, List.getElem?_map, List.getElem?_eq_getElem hi, e]
  rfl
/-- the law's own end -/
theorem law_end {P : Program} {w : World} {n j k : Nat} {d : Dat} {x : Str} {fa : Addr} (X : K.In h) (G : h.Ns mainGlobals mg) (c : He.SaysD (faOf T t) (T.map Dat.dD) K) (cg : ((t.gls.zip gl).all fun p => gdB K p) = true)
    (hT : (T.all fun d => d.okB t) = true) (hn : t.fns = T.map Dat.name) (hgl : t.gls.length = gl.length) (hj : T[j]? = some d) (hd : d.ps = [x]) (hfa : mg d.name = some (.ref fa))
    (run : ∀ ns : List Int, ns.length ≤ n → ∃ S', callN (T.map Dat.fn) gl (k + 1) j [.d (.list (ns.map .int))] [] = some (.d (.bool true), S')) :
    ∃ (K : PySem.W.Frag) (fd : FuncData) (sp : Sp), K.In h ∧ (∀ (s : Shared) (u : Value), BindsTo s fd ⟨[u], []⟩ [(x, u)]) ∧
      (∀ (H : Hp) (a : Addr) (ns : List Int), ns.length ≤ n → Only H → SqL K H a (ns.map V.int) → sp [.ref a] H (fun v _ => v = .bl true) fun _ _ _ => False) ∧
      ∀ base : Heap, K.In base → base.Ns mainGlobals mg → FnOk P w K mg base CX0 (k + 1) fa fd [x] sp := by
  have hO : ∀ d ∈ T, d.Ok t := fun d hd => Dat.ok (List.all_eq_true.mp hT d hd)
  obtain ⟨fd, h1, F⟩ := says_glo c X G hj
  have e := hfa.symm.trans h1
  cases e
  have O := hO d (List.mem_of_getElem? hj)
  have nd : d.ps.Nodup := by
    rw [← O.sc.pre]
    exact O.sc.nd.sublist (List.take_sublist _ _)
  refine ⟨K, fd, spF K ⟨callN (T.map Dat.fn) gl (k + 1), gl⟩ j, X, fun s u => ?_, fun H a ns hl _ hS => ?_, fun base _ _ => ?_⟩
  · have b := F.bindsA (ps := d.ps) (fun kV doc pm an cdv ct us hl => by
      rw [O.plain]
      exact bind_plain d.as us nd hl) s [u] (by rw [hd]; rfl)
    rw [hd] at b
    exact b
  · obtain ⟨S', e⟩ := run ns hl
    refine ⟨⟨H, []⟩, [], [.d (.list (ns.map .int))], _, S', ⟨Same.refl _, List.Pairwise.nil, fun _ h => (by cases h), rfl, fun n a c e => (by cases e)⟩, .cons (Rp.lst hS (dp_of_ints ns)) .nil, e, fun ω' H' v _ _ r => rep_bool r⟩
  · have fc : Facts P w K mg base t ⟨callN (T.map Dat.fn) gl k, gl⟩ k := by
      refine tab_ok T gl hO hn (fun j d hj => ?_) (fun j y hy => ?_) (fun y hy => says_free c X G hy) k
      · obtain ⟨fd, q1, q2⟩ := says_glo c X G hj
        exact ⟨_, fd, q1, q2⟩
      · have hl : j < t.gls.length := (List.getElem?_eq_some_iff.mp hy).1
        have hz : (t.gls.zip gl)[j]? = some (y, gl[j]'(by omega)) := by
          rw [List.getElem?_eq_some_iff]
          refine ⟨by rw [List.length_zip]; omega, ?_⟩
          rw [List.getElem_zip]
          congr 1
          exact (List.getElem?_eq_some_iff.mp hy).2
        obtain ⟨u, v, q1, q2, q3⟩ := gdB_ok X G (List.all_eq_true.mp cg _ (List.mem_of_getElem? hz))
        exact ⟨u, v, _, q1, q2, List.getElem?_eq_getElem (by omega), q3⟩
    rw [← hd]
    refine (dat_fn O F fc).imp fun vs H Q E h => ?_
    obtain ⟨ω, S, ps, p, S', W, r, e, q⟩ := h
    refine ⟨ω, S, ps, p, S', W, r, ?_, q⟩
    have e : callN (T.map Dat.fn) gl (k + 1) j ps S = some (p, S') := e
    simp only [callN, List.getElem?_map, hj, Option.map_some] at e
    exact e
end
end VC

/-! VX: the laws' draws. -/
namespace VC
open PySem PySem.Spec PyProof.Rows L2
def cTaken : Fn := ⟨4, 2, (.cons (.ifs (.cmp .Gt (.ix (.var 0) (.ci 3)) (.ci 0)) (.cons (.set (.one 3) (.bin .Mod (.blt .int (.cons (.ix (.var 0) (.ci 3)) .nil)) (.var 1))) (.cons (.setIx (.var 0) (.ci 3) (.bin .FloorDiv (.ix (.var 0) (.ci 3)) (.var 1))) (.cons (.ret (.var 3)) .nil))) .nil) (.cons (.setIx (.var 0) (.ci 1) (.bin .Add (.ix (.var 0) (.ci 1)) (.ci 1))) (.cons (.ifs (.cmp .Gt (.ix (.var 0) (.ci 1)) (.blt .len (.cons (.ix (.var 0) (.ci 0)) .nil))) (.cons (.setIx (.var 0) (.ci 2) (.bin .Mod (.blt .int (.cons (.bin .Add (.bin .Mult (.ix (.var 0) (.ci 2)) (.ci 48271)) (.ci 11)) .nil)) (.ci 2147483647))) (.cons (.ret (.bin .Mod (.blt .int (.cons (.bin .FloorDiv (.ix (.var 0) (.ci 2)) (.ci 7)) .nil)) (.var 1))) .nil)) .nil) (.cons (.set (.one 2) (.ix (.ix (.var 0) (.ci 0)) (.bin .Sub (.ix (.var 0) (.ci 1)) (.ci 1)))) (.cons (.setIx (.var 0) (.ci 2) (.bin .Mod (.blt .int (.cons (.bin .Add (.bin .Add (.bin .Mult (.ix (.var 0) (.ci 2)) (.ci 48271)) (.var 2)) (.ci 11)) .nil)) (.ci 2147483647))) (.cons (.ifs (.cmp .GtE (.var 2) (.bin .Pow (.ci 10) (.ci 18))) (.cons (.setIx (.var 0) (.ci 3) (.bin .FloorDiv (.var 2) (.var 1))) .nil) .nil) (.cons (.ret (.bin .Mod (.blt .int (.cons (.var 2) .nil)) (.var 1))) .nil)))))))⟩
/-- the state of the draws: the script, a place, a seed, a rest -/
def drawC (ns : List Int) (i s r : Int) : Cell := .lst [.d (.list (ns.map .int)), .d (.int i), .d (.int s), .d (.int r)]
theorem cellItems_at {S : Store} {n : Nat} {ns : List Int} {i s r : Int} (h : S[n]? = some (drawC ns i s r)) : cellItems S n = some [.d (.list (ns.map .int)), .d (.int i), .d (.int s), .d (.int r)] := by
  unfold cellItems
  rw [h]
  rfl
theorem setCell_1 {S : Store} {n : Nat} {ns : List Int} {i s r v : Int} (h : S[n]? = some (drawC ns i s r)) : setCell S n 1 (.d (.int v)) = some (S.set n (drawC ns v s r)) := by
  unfold setCell
  rw [h]
  rfl
theorem setCell_2 {S : Store} {n : Nat} {ns : List Int} {i s r v : Int} (h : S[n]? = some (drawC ns i s r)) : setCell S n 2 (.d (.int v)) = some (S.set n (drawC ns i v r)) := by
  unfold setCell
  rw [h]
  rfl
theorem setCell_3 {S : Store} {n : Nat} {ns : List Int} {i s r v : Int} (h : S[n]? = some (drawC ns i s r)) : setCell S n 3 (.d (.int v)) = some (S.set n (drawC ns i s v)) := by
  unfold setCell
  rw [h]
  rfl
theorem set_at {S : Store} {n : Nat} {c c' : Cell} (h : S[n]? = some c) : (S.set n c')[n]? = some c' := List.getElem?_set_self (List.getElem?_eq_some_iff.mp h).1
theorem at0 {α} (a b c d : α) : atI [a, b, c, d] 0 = some a := rfl
theorem at1 {α} (a b c d : α) : atI [a, b, c, d] 1 = some b := rfl
theorem at2 {α} (a b c d : α) : atI [a, b, c, d] 2 = some c := rfl
theorem at3 {α} (a b c d : α) : atI [a, b, c, d] 3 = some d := rfl
theorem taken_ok (G : Gx) (S : Store) (n : Nat) (ns : List Int) (i s r m : Int) (h : S[n]? = some (drawC ns i s r)) (hi : 0 ≤ i) (hm : 1 ≤ m) (hm2 : m < 1073741824) :
    ∃ v i' s' r', runFn G cTaken [.ref n, .d (.int m)] S = some (.d (.int v), S.set n (drawC ns i' s' r')) ∧ 0 ≤ v ∧ v < m ∧ 0 ≤ i' := by
  have m0 : m ≠ 0 := by omega
  have m1 : m ≠ 0 ∧ m.natAbs < 1073741824 := ⟨m0, by omega⟩
  by_cases hr : 0 < r
  · refine ⟨r.fmod m, i, s, r.fdiv m, ?_, ?_, ?_, hi⟩
    · simp [runFn, cTaken, startE, ex, ev, evs, cellItems_at h, at0, at1, at2, at3, cmpD, hr, bltD, binD, m0, m1, setTg, setCell_3 h]
    · rw [Int.fmod_eq_emod_of_nonneg _ (by omega)]
      exact Int.emod_nonneg _ m0
    · rw [Int.fmod_eq_emod_of_nonneg _ (by omega)]
      exact Int.emod_lt_of_pos _ (by omega)
  · have h1 : (S.set n (drawC ns (i + 1) s r))[n]? = some (drawC ns (i + 1) s r) := set_at h
    have e1 := cellItems_at h1
    by_cases hl : (ns.length : Int) < i + 1
    · have h2 : ((S.set n (drawC ns (i + 1) s r)).set n (drawC ns (i + 1) ((s * 48271 + 11).fmod 2147483647) r))[n]? = some (drawC ns (i + 1) ((s * 48271 + 11).fmod 2147483647) r) := set_at h1
      have e2 := cellItems_at h2
      refine ⟨(((s * 48271 + 11).fmod 2147483647).fdiv 7).fmod m, i + 1, (s * 48271 + 11).fmod 2147483647, r, ?_, ?_, ?_, by omega⟩
      · rw [List.set_set] at e2
        simp [runFn, cTaken, startE, ex, ev, evs, cellItems_at h, e1, e2, at0, at1, at2, at3, cmpD, hr, hl, bltD, binD, m0, setTg, setCell_1 h, setCell_2 h1, seqOf]
      · rw [Int.fmod_eq_emod_of_nonneg _ (by omega)]
        exact Int.emod_nonneg _ m0
      · rw [Int.fmod_eq_emod_of_nonneg _ (by omega)]
        exact Int.emod_lt_of_pos _ (by omega)
    · have hin : i.toNat < ns.length := by omega
      have hat : atI (ns.map PyData.int) i = some (.int ns[i.toNat]) := by
        have e : ((i.toNat : Nat) : Int) = i := by omega
        have t : atI (ns.map PyData.int) ((i.toNat : Nat) : Int) = some (.int ns[i.toNat]) := by
          refine atI_nat ?_
          rw [List.getElem?_map, List.getElem?_eq_getElem hin]
          rfl
        rwa [e] at t
      generalize ns[i.toNat] = c at hat
      have h2 : ((S.set n (drawC ns (i + 1) s r)).set n (drawC ns (i + 1) ((s * 48271 + c + 11).fmod 2147483647) r))[n]? = some (drawC ns (i + 1) ((s * 48271 + c + 11).fmod 2147483647) r) := set_at h1
      have e2 := cellItems_at h2
      have s3 := fun v => setCell_3 (v := v) h2
      rw [List.set_set] at e2 s3
      refine ⟨c.fmod m, i + 1, (s * 48271 + c + 11).fmod 2147483647, if 1000000000000000000 ≤ c then c.fdiv m else r, ?_, ?_, ?_, by omega⟩
      · by_cases hc : 1000000000000000000 ≤ c
        · simp [runFn, cTaken, startE, ex, ev, evs, cellItems_at h, e1, e2, at0, at1, at2, at3, hat, cmpD, hr, hl, bltD, binD, m0, m1, setTg, setCell_1 h, setCell_2 h1, s3, seqOf, hc]
        · simp [runFn, cTaken, startE, ex, ev, evs, cellItems_at h, e1, e2, at0, at1, at2, at3, hat, cmpD, hr, hl, bltD, binD, m0, m1, setTg, setCell_1 h, setCell_2 h1, s3, seqOf, hc]
      · rw [Int.fmod_eq_emod_of_nonneg _ (by omega)]
        exact Int.emod_nonneg _ m0
      · rw [Int.fmod_eq_emod_of_nonneg _ (by omega)]
        exact Int.emod_lt_of_pos _ (by omega)
end VC

namespace VC
open PySem PySem.Spec PyProof.Rows L2
/-! the codes of the defs (written by tools/gen.py) -/
def c_is_integer : Fn := ⟨1, 1, (.cons (.ret (.and (.isi (.var 0) [.int]) (.not (.isi (.var 0) [.bool])))) .nil)⟩
def c_need_size : Fn := ⟨2, 2, (.cons (.ifs (.or (.not (.call 0 (.cons (.var 0) .nil))) (.or (.not (.call 0 (.cons (.var 1) .nil))) (.cmp .NotIn (.tup (.cons (.var 0) (.cons (.var 1) .nil))) (.glob 0)))) (.cons .never .nil) .nil) .nil)⟩
def c_orders_of : Fn := ⟨5, 1, (.cons (.set (.one 1) (.lst (.cons (.tup .nil) .nil))) (.cons (.for_ (.one 2) (.blt .range (.cons (.var 0) .nil)) (.cons (.set (.one 1) (.lc2 (.tup (.star (.sl (.var 3) .no (.var 4)) (.cons (.var 2) (.star (.sl (.var 3) (.var 4) .no) .nil)))) (.one 3) (.var 1) .no (.one 4) (.blt .range (.cons (.bin .Add (.blt .len (.cons (.var 3) .nil)) (.ci 1)) .nil)) .no [3, 4] [4])) .nil)) (.cons (.ret (.blt .sorted (.cons (.var 1) .nil))) .nil)))⟩
def c_rankings : Fn := ⟨1, 1, (.cons (.ifs (.or (.not (.call 0 (.cons (.var 0) .nil))) (.cmp .NotIn (.var 0) (.tup (.cons (.ci 2) (.cons (.ci 3) .nil))))) (.cons .never .nil) .nil) (.cons (.ret (.blt .tuple (.cons (.call 2 (.cons (.var 0) .nil)) .nil))) .nil))⟩
def c_rows_of : Fn := ⟨6, 2, (.cons (.set (.one 2) (.lst (.cons (.tup .nil) .nil))) (.cons (.for_ (.one 3) (.blt .range (.cons (.var 0) .nil)) (.cons (.set (.one 2) (.lc2 (.tup (.star (.var 4) (.cons (.var 5) .nil))) (.one 4) (.var 2) .no (.one 5) (.call 2 (.cons (.var 1) .nil)) .no [4, 5] [5])) .nil)) (.cons (.ret (.var 2)) .nil)))⟩
def c_rows : Fn := ⟨2, 2, (.cons (.drop (.call 1 (.cons (.var 0) (.cons (.var 1) .nil)))) (.cons (.ret (.blt .tuple (.cons (.call 4 (.cons (.var 0) (.cons (.var 1) .nil))) .nil))) .nil))⟩
def c_is_ranking : Fn := ⟨2, 1, (.cons (.ifs (.or (.not (.isi (.var 0) [.tuple])) (.cmp .NotIn (.blt .len (.cons (.var 0) .nil)) (.tup (.cons (.ci 2) (.cons (.ci 3) .nil))))) (.cons (.ret (.cb false)) .nil) .nil) (.cons (.ret (.and (.blt .all (.cons (.lc (.call 0 (.cons (.var 1) .nil)) (.one 1) (.var 0) .no [1]) .nil)) (.cmp .Eq (.blt .sorted (.cons (.var 0) .nil)) (.blt .list (.cons (.blt .range (.cons (.blt .len (.cons (.var 0) .nil)) .nil)) .nil))))) .nil))⟩
def c_need_row : Fn := ⟨3, 1, (.cons (.ifs (.or (.not (.isi (.var 0) [.tuple])) (.not (.blt .all (.cons (.lc (.call 6 (.cons (.var 1) .nil)) (.one 1) (.var 0) .no [1]) .nil)))) (.cons .never .nil) .nil) (.cons (.ifs (.or (.cmp .Eq (.var 0) (.tup .nil)) (.or (.cmp .NotIn (.tup (.cons (.blt .len (.cons (.var 0) .nil)) (.cons (.blt .len (.cons (.ix (.var 0) (.ci 0)) .nil)) .nil))) (.glob 0)) (.not (.blt .all (.cons (.lc (.cmp .Eq (.blt .len (.cons (.var 2) .nil)) (.blt .len (.cons (.ix (.var 0) (.ci 0)) .nil))) (.one 2) (.var 0) .no [2]) .nil))))) (.cons .never .nil) .nil) .nil))⟩
def c_is_ahead : Fn := ⟨3, 3, (.cons (.ret (.cmp .Lt (.mt .index (.var 0) (.cons (.var 1) .nil)) (.mt .index (.var 0) (.cons (.var 2) .nil)))) .nil)⟩
def c_ahead_count : Fn := ⟨4, 3, (.cons (.ret (.blt .len (.cons (.lc (.var 3) (.one 3) (.var 0) (.call 8 (.cons (.var 3) (.cons (.var 1) (.cons (.var 2) .nil)))) [3]) .nil))) .nil)⟩
def c_beater : Fn := ⟨4, 1, (.cons (.set (.one 1) (.blt .range (.cons (.blt .len (.cons (.ix (.var 0) (.ci 0)) .nil)) .nil))) (.cons (.for_ (.one 2) (.var 1) (.cons (.ifs (.blt .all (.cons (.lc (.or (.cmp .Eq (.var 2) (.var 3)) (.cmp .Gt (.bin .Mult (.ci 2) (.call 9 (.cons (.var 0) (.cons (.var 2) (.cons (.var 3) .nil))))) (.blt .len (.cons (.var 0) .nil)))) (.one 3) (.var 1) .no [3]) .nil)) (.cons (.ret (.var 2)) .nil) .nil) .nil)) (.cons (.ret .cn) .nil)))⟩
def c_beats_all : Fn := ⟨1, 1, (.cons (.drop (.call 7 (.cons (.var 0) .nil))) (.cons (.ret (.call 10 (.cons (.var 0) .nil))) .nil))⟩
def c_sums_of : Fn := ⟨3, 1, (.cons (.ret (.lc (.blt .sum (.cons (.lc (.mt .index (.var 2) (.cons (.var 1) .nil)) (.one 2) (.var 0) .no [2]) .nil)) (.one 1) (.blt .range (.cons (.blt .len (.cons (.ix (.var 0) (.ci 0)) .nil)) .nil)) .no [1])) .nil)⟩
def c_place_sums : Fn := ⟨1, 1, (.cons (.drop (.call 7 (.cons (.var 0) .nil))) (.cons (.ret (.blt .tuple (.cons (.call 12 (.cons (.var 0) .nil)) .nil))) .nil))⟩
def c_law_taken : Fn := ⟨4, 2, (.cons (.ifs (.cmp .Gt (.ix (.var 0) (.ci 3)) (.ci 0)) (.cons (.set (.one 3) (.bin .Mod (.blt .int (.cons (.ix (.var 0) (.ci 3)) .nil)) (.var 1))) (.cons (.setIx (.var 0) (.ci 3) (.bin .FloorDiv (.ix (.var 0) (.ci 3)) (.var 1))) (.cons (.ret (.var 3)) .nil))) .nil) (.cons (.setIx (.var 0) (.ci 1) (.bin .Add (.ix (.var 0) (.ci 1)) (.ci 1))) (.cons (.ifs (.cmp .Gt (.ix (.var 0) (.ci 1)) (.blt .len (.cons (.ix (.var 0) (.ci 0)) .nil))) (.cons (.setIx (.var 0) (.ci 2) (.bin .Mod (.blt .int (.cons (.bin .Add (.bin .Mult (.ix (.var 0) (.ci 2)) (.ci 48271)) (.ci 11)) .nil)) (.ci 2147483647))) (.cons (.ret (.bin .Mod (.blt .int (.cons (.bin .FloorDiv (.ix (.var 0) (.ci 2)) (.ci 7)) .nil)) (.var 1))) .nil)) .nil) (.cons (.set (.one 2) (.ix (.ix (.var 0) (.ci 0)) (.bin .Sub (.ix (.var 0) (.ci 1)) (.ci 1)))) (.cons (.setIx (.var 0) (.ci 2) (.bin .Mod (.blt .int (.cons (.bin .Add (.bin .Add (.bin .Mult (.ix (.var 0) (.ci 2)) (.ci 48271)) (.var 2)) (.ci 11)) .nil)) (.ci 2147483647))) (.cons (.ifs (.cmp .GtE (.var 2) (.bin .Pow (.ci 10) (.ci 18))) (.cons (.setIx (.var 0) (.ci 3) (.bin .FloorDiv (.var 2) (.var 1))) .nil) .nil) (.cons (.ret (.bin .Mod (.blt .int (.cons (.var 2) .nil)) (.var 1))) .nil)))))))⟩
def c_law_pick : Fn := ⟨2, 2, (.cons (.ret (.ix (.var 1) (.call 14 (.cons (.var 0) (.cons (.blt .len (.cons (.var 1) .nil)) .nil))))) .nil)⟩
def c_law_alike : Fn := ⟨3, 2, (.cons (.ifs (.isi (.var 1) [.tuple, .list]) (.cons (.ifs (.or (.not (.isi (.var 0) [.tuple, .list])) (.cmp .NotEq (.isi (.var 0) [.list]) (.isi (.var 1) [.list]))) (.cons (.ret (.cb false)) .nil) .nil) (.cons (.ifs (.cmp .NotEq (.blt .len (.cons (.var 0) .nil)) (.blt .len (.cons (.var 1) .nil))) (.cons (.ret (.cb false)) .nil) .nil) (.cons (.ret (.cmp .Eq (.lc (.var 2) (.one 2) (.blt .range (.cons (.blt .len (.cons (.var 1) .nil)) .nil)) (.not (.call 16 (.cons (.ix (.var 0) (.var 2)) (.cons (.ix (.var 1) (.var 2)) .nil)))) [2]) (.lst .nil))) .nil))) .nil) (.cons (.ifs (.or (.cmp .Is (.var 1) .cn) (.isi (.var 1) [.str])) (.cons (.ret (.and (.cmp .Eq (.var 0) (.var 1)) (.cmp .Eq (.isi (.var 0) [.str]) (.isi (.var 1) [.str])))) .nil) .nil) (.cons (.ret (.and (.isi (.var 0) [.int]) (.and (.cmp .Eq (.isi (.var 0) [.bool]) (.isi (.var 1) [.bool])) (.cmp .Eq (.var 0) (.var 1))))) .nil)))⟩
def c_law_orders : Fn := ⟨6, 1, (.cons (.set (.one 1) (.lst (.cons (.tup .nil) .nil))) (.cons (.for_ (.one 2) (.blt .range (.cons (.var 0) .nil)) (.cons (.set (.one 3) (.lst .nil)) (.cons (.for_ (.one 4) (.var 1) (.cons (.set (.one 3) (.bin .Add (.var 3) (.lc (.bin .Add (.var 4) (.tup (.cons (.var 5) .nil))) (.one 5) (.blt .range (.cons (.var 0) .nil)) (.cmp .NotIn (.var 5) (.var 4)) [5]))) .nil)) (.cons (.set (.one 1) (.var 3)) .nil)))) (.cons (.ret (.var 1)) .nil)))⟩
def c_law_rows : Fn := ⟨7, 2, (.cons (.set (.one 2) (.lst (.cons (.tup .nil) .nil))) (.cons (.for_ (.one 3) (.blt .range (.cons (.var 0) .nil)) (.cons (.set (.one 4) (.lst .nil)) (.cons (.for_ (.one 5) (.var 2) (.cons (.set (.one 4) (.bin .Add (.var 4) (.lc (.bin .Add (.var 5) (.tup (.cons (.var 6) .nil))) (.one 6) (.call 17 (.cons (.var 1) .nil)) .no [6]))) .nil)) (.cons (.set (.one 2) (.var 4)) .nil)))) (.cons (.ret (.var 2)) .nil)))⟩
def c_law_size : Fn := ⟨1, 1, (.cons (.ret (.call 15 (.cons (.var 0) (.cons (.lst (.cons (.tup (.cons (.ci 2) (.cons (.ci 2) .nil))) (.cons (.tup (.cons (.ci 2) (.cons (.ci 3) .nil))) (.cons (.tup (.cons (.ci 2) (.cons (.ci 3) .nil))) (.cons (.tup (.cons (.ci 3) (.cons (.ci 2) .nil))) .nil))))) .nil)))) .nil)⟩
def c_law_before : Fn := ⟨3, 3, (.cons (.ret (.cmp .Lt (.mt .index (.blt .list (.cons (.var 0) .nil)) (.cons (.var 1) .nil)) (.mt .index (.blt .list (.cons (.var 0) .nil)) (.cons (.var 2) .nil)))) .nil)⟩
def c_law : Fn := ⟨11, 1, (.cons (.setC 1 (.cons (.var 0) (.cons (.ci 0) (.cons (.ci 15680) (.cons (.ci 0) .nil))))) (.cons (.set (.tup [6, 7]) (.call 19 (.cons (.var 1) .nil))) (.cons (.ifs (.or (.not (.call 16 (.cons (.call 3 (.cons (.var 7) .nil)) (.cons (.blt .tuple (.cons (.call 17 (.cons (.var 7) .nil)) .nil)) .nil)))) (.not (.call 16 (.cons (.call 5 (.cons (.var 6) (.cons (.var 7) .nil))) (.cons (.blt .tuple (.cons (.call 18 (.cons (.var 6) (.cons (.var 7) .nil))) .nil)) .nil))))) (.cons (.ret (.cb false)) .nil) .nil) (.cons (.set (.one 2) (.call 15 (.cons (.var 1) (.cons (.call 18 (.cons (.var 6) (.cons (.var 7) .nil))) .nil)))) (.cons (.set (.one 3) (.blt .tuple (.cons (.lc (.blt .sum (.cons (.lc (.mt .index (.blt .list (.cons (.var 10) .nil)) (.cons (.var 5) .nil)) (.one 10) (.var 2) .no [10]) .nil)) (.one 5) (.blt .range (.cons (.var 7) .nil)) .no [5]) .nil))) (.cons (.ifs (.not (.call 16 (.cons (.call 13 (.cons (.var 2) .nil)) (.cons (.var 3) .nil)))) (.cons (.ret (.cb false)) .nil) .nil) (.cons (.set (.one 4) (.lst .nil)) (.cons (.for_ (.one 5) (.blt .range (.cons (.var 7) .nil)) (.cons (.set (.one 8) (.lc (.var 9) (.one 9) (.blt .range (.cons (.var 7) .nil)) (.and (.cmp .NotEq (.var 9) (.var 5)) (.cmp .Gt (.bin .Mult (.blt .len (.cons (.lc (.var 10) (.one 10) (.var 2) (.call 20 (.cons (.var 10) (.cons (.var 5) (.cons (.var 9) .nil)))) [10]) .nil)) (.ci 2)) (.var 6))) [9])) (.cons (.set (.one 4) (.bin .Add (.var 4) (.ite (.cmp .Eq (.blt .len (.cons (.var 8) .nil)) (.bin .Sub (.var 7) (.ci 1))) (.lst (.cons (.var 5) .nil)) (.lst .nil)))) .nil))) (.cons (.ret (.call 16 (.cons (.call 11 (.cons (.var 2) .nil)) (.cons (.ite (.cmp .NotEq (.var 4) (.lst .nil)) (.ix (.var 4) (.ci 0)) .cn) .nil)))) .nil)))))))))⟩
def fnL : List Fn := [c_is_integer, c_need_size, c_orders_of, c_rankings, c_rows_of, c_rows, c_is_ranking, c_need_row, c_is_ahead, c_ahead_count, c_beater, c_beats_all, c_sums_of, c_place_sums, c_law_taken, c_law_pick, c_law_alike, c_law_orders, c_law_rows, c_law_size, c_law_before, c_law]
def glL : List PyData := [(.tuple [(.tuple [(.int 2), (.int 2)]), (.tuple [(.int 2), (.int 3)]), (.tuple [(.int 3), (.int 2)])])]
def tx : Txt := ⟨["is_integer", "need_size", "orders_of", "rankings", "rows_of", "rows", "is_ranking", "need_row", "is_ahead", "ahead_count", "beater", "beats_all", "sums_of", "place_sums", "_law_taken", "_law_pick", "_law_alike", "_law_orders", "_law_rows", "_law_size", "_law_before", "law"], ["SIZES"], ["len", "tuple", "list", "range", "sorted", "sum", "int", "str", "all", "isinstance", "bool"], ["_law_row"]⟩
def top (i : Nat) : Stmt := PySem.Challenge.pw_voteclashes_k00_whole_rows.main.body.getD i (.Pass ⟨0, 0, 0, 0⟩)
def dat : List Dat := [⟨top 6, ["value"], c_is_integer⟩,
  ⟨top 7, ["people", "things"], c_need_size⟩,
  ⟨top 8, ["many", "found", "number", "one", "at"], c_orders_of⟩,
  ⟨top 9, ["things"], c_rankings⟩,
  ⟨top 10, ["people", "things", "found", "person", "row", "ranking"], c_rows_of⟩,
  ⟨top 11, ["people", "things"], c_rows⟩,
  ⟨top 12, ["value", "one"], c_is_ranking⟩,
  ⟨top 13, ["row", "ranking", "one"], c_need_row⟩,
  ⟨top 14, ["ranking", "one", "other"], c_is_ahead⟩,
  ⟨top 15, ["row", "one", "other", "ranking"], c_ahead_count⟩,
  ⟨top 16, ["row", "things", "one", "other"], c_beater⟩,
  ⟨top 17, ["row"], c_beats_all⟩,
  ⟨top 18, ["row", "thing", "ranking"], c_sums_of⟩,
  ⟨top 19, ["row"], c_place_sums⟩,
  ⟨top 21, ["_law_row", "_law_many", "_law_cell", "_law_found"], c_law_taken⟩,
  ⟨top 22, ["_law_row", "_law_kinds"], c_law_pick⟩,
  ⟨top 23, ["_law_found", "_law_due", "_law_k"], c_law_alike⟩,
  ⟨top 24, ["_law_many", "_law_found", "_law_turn", "_law_longer", "_law_one", "_law_number"], c_law_orders⟩,
  ⟨top 25, ["_law_people", "_law_things", "_law_found", "_law_turn", "_law_longer", "_law_one", "_law_ranking"], c_law_rows⟩,
  ⟨top 26, ["_law_row"], c_law_size⟩,
  ⟨top 27, ["_law_ranking", "_law_one", "_law_other"], c_law_before⟩,
  ⟨top 28, ["_law_script", "_law_row", "_law_one", "_law_sums", "_law_best", "_law_thing", "_law_people", "_law_things", "_law_beaten", "_law_two", "_law_ranking"], c_law⟩]
end VC

namespace VC
open PySem PySem.Spec PyProof.Rows L2
theorem dat_ok : (dat.all fun d => d.okB tx) = true := by decide +kernel
theorem dat_names : tx.fns = dat.map Dat.name := by decide +kernel
example : (callN fnL glL 20 2 [.d (.int 3)] []) = some (.d (.list [.tuple [.int 0, .int 1, .int 2], .tuple [.int 0, .int 2, .int 1], .tuple [.int 1, .int 0, .int 2], .tuple [.int 1, .int 2, .int 0], .tuple [.int 2, .int 0, .int 1], .tuple [.int 2, .int 1, .int 0]]), []) := by rfl
end VC

namespace VC
open PySem PySem.Spec PyProof.Rows L2
abbrev RL : PySem.W.OpenLaw := PySem.Challenge.rw_voteclashes_k00_whole_rows
abbrev RR : PySem.W.OpenRow := PySem.W.OpenLaw.row RL
abbrev hk : PySem.W.Hook := hookV 4 (faOf dat tx) (dat.map Dat.dD) (tx.gls.zip glL)
def ob (s : PySem.W.SharedT) : AlV := obsVG 4 (faOf dat tx) (dat.map Dat.dD) (tx.gls.zip glL) (HandSHeadRun.getT s)
theorem ob_eq (s : PySem.W.SharedT) : ob s = hk.obs s.abs := obsVG_eq (HandSHeadRun.getT_eq s)
def loose : List Str := ["__name__", "VoteError", "BadSize", "BadRow", "SIZES", "is_integer", "need_size", "orders_of", "rankings", "rows_of", "rows", "is_ranking", "need_row", "is_ahead", "ahead_count", "beater", "beats_all", "sums_of", "place_sums", "_law_taken", "_law_pick", "_law_alike", "_law_orders", "_law_rows", "_law_size", "_law_before"]
theorem run (w : World) : HandSHeadRun.RunEq RR (PySem.W.view RR.prog [28]) hk ob 1500 loose w := by
  intro os
  kernel_rfl
end VC

namespace VC
open PySem PySem.Spec PyProof.Rows L2
def cPick : Fn := ⟨2, 2, (.cons (.ret (.ix (.var 1) (.call 14 (.cons (.var 0) (.cons (.blt .len (.cons (.var 1) .nil)) .nil))))) .nil)⟩
theorem pick_ok (G : Gx) (S : Store) (n : Nat) (ns : List Int) (i s r : Int) (ks : List PyData) (h : S[n]? = some (drawC ns i s r)) (hi : 0 ≤ i) (hk : 1 ≤ ks.length) (hk2 : ks.length < 1073741824)
    (hG : ∃ G', G.fn 14 = runFn G' cTaken) :
    ∃ k ∈ ks, ∃ i' s' r', runFn G cPick [.ref n, .d (.list ks)] S = some (.d k, S.set n (drawC ns i' s' r')) ∧ 0 ≤ i' := by
  obtain ⟨G', hG⟩ := hG
  obtain ⟨v, i', s', r', e, v0, v1, i0⟩ := taken_ok G' S n ns i s r ks.length h hi (by omega) (by omega)
  have hv : v.toNat < ks.length := by omega
  have hat : atI ks v = some ks[v.toNat] := by
    have e : ((v.toNat : Nat) : Int) = v := by omega
    have t : atI ks ((v.toNat : Nat) : Int) = some ks[v.toNat] := by
      refine atI_nat ?_
      rw [List.getElem?_eq_getElem hv]
    rwa [e] at t
  refine ⟨ks[v.toNat], List.getElem_mem hv, i', s', r', ?_, i0⟩
  rw [← hG] at e
  simp [runFn, cPick, startE, ex, ev, evs, bltD, seqOf, e, hat]
def G40 : Gx := ⟨callN fnL glL 40, glL⟩
def tl1 : SCode := match c_law.body with | .cons _ (.cons _ t) => t | _ => .nil
def tl2 : SCode := match tl1 with | .cons _ (.cons _ t) => t | _ => .nil
def rowsL (p t : Int) : List PyData := match callN fnL glL 30 18 [.d (.int p), .d (.int t)] [] with
  | some (.d (.list xs), _) => xs
  | _ => []
def isT : Out → Bool
  | .rt (.d (.bool b)) => b
  | _ => false
theorem isT_ok {o : Out} (h : isT o = true) : o = .rt (.d (.bool true)) := by
  unfold isT at h
  split at h
  · rw [h]
  · cases h
def rho (x : PyData) (p t : Int) (k : Option PV) : Env := [some (.d x), some (.ref 0), k, none, none, none, some (.d (.int p)), some (.d (.int t)), none, none, none]
def good (x : PyData) (p t : Int) (c : Cell) (k : PyData) : Option (Bool × Store) := (ex G40 tl2 (rho x p t (some (.d k))) [c]).map fun r => (isT r.1, r.2.2)
theorem rows22 (x : PyData) (c : Cell) : (rowsL 2 2).map (good x 2 2 c) = List.replicate 4 (some (true, [c])) := by kernel_rfl
theorem rows23 (x : PyData) (c : Cell) : (rowsL 2 3).map (good x 2 3 c) = List.replicate 36 (some (true, [c])) := by kernel_rfl
theorem rows32 (x : PyData) (c : Cell) : (rowsL 3 2).map (good x 3 2 c) = List.replicate 8 (some (true, [c])) := by kernel_rfl
def sizes4 : List PyData := [.tuple [.int 2, .int 2], .tuple [.int 2, .int 3], .tuple [.int 2, .int 3], .tuple [.int 3, .int 2]]
theorem ex_cons {G : Gx} {s r : SCode} {ρ ρ1 : Env} {S S1 : Store} (h : ex G s ρ S = some (.nx, ρ1, S1)) : ex G (.cons s r) ρ S = ex G r ρ1 S1 := by
  simp only [ex, h]
theorem ex_set {G : Gx} {g : Tg} {e : Code} {ρ ρ1 : Env} {S S1 : Store} {p : PV} (h : ev G e ρ S = some (p, S1)) (hg : setTg g p ρ = some ρ1) : ex G (.set g e) ρ S = some (.nx, ρ1, S1) := by
  simp only [ex, h, hg, Option.map_some]
theorem ev_call {G : Gx} {k : Nat} {l : Code} {ρ : Env} {S S1 : Store} {ps : List PV} (h : evs G l ρ S = some (ps, S1)) : ev G (.call k l) ρ S = G.fn k ps S1 := by
  simp only [ev, h]
theorem evs_cons {G : Gx} {a r : Code} {ρ : Env} {S S1 S2 : Store} {p : PV} {ps : List PV} (h : ev G a ρ S = some (p, S1)) (h2 : evs G r ρ S1 = some (ps, S2)) : evs G (.cons a r) ρ S = some (p :: ps, S2) := by
  simp only [evs, h, h2]
def cSize : Fn := ⟨1, 1, (.cons (.ret (.call 15 (.cons (.var 0) (.cons (.lst (.cons (.tup (.cons (.ci 2) (.cons (.ci 2) .nil))) (.cons (.tup (.cons (.ci 2) (.cons (.ci 3) .nil))) (.cons (.tup (.cons (.ci 2) (.cons (.ci 3) .nil))) (.cons (.tup (.cons (.ci 3) (.cons (.ci 2) .nil))) .nil))))) .nil)))) .nil)⟩
theorem run_ret {G : Gx} {f : Fn} {e : Code} {ps : List PV} {S S1 : Store} {p : PV} (hl : ps.length = f.pars) (hb : f.body = .cons (.ret e) .nil) (h : ev G e (startE f ps) S = some (p, S1)) : runFn G f ps S = some (p, S1) := by
  simp only [runFn, hl, hb, ex, h, if_true]
theorem size_ok (S : Store) (ns : List Int) (i s r : Int) (h : S[0]? = some (drawC ns i s r)) (hi : 0 ≤ i) :
    ∃ k ∈ sizes4, ∃ i' s' r', G40.fn 19 [.ref 0] S = some (.d k, S.set 0 (drawC ns i' s' r')) ∧ 0 ≤ i' := by
  obtain ⟨k, hk, i', s', r', e, z⟩ := pick_ok ⟨callN fnL glL 38, glL⟩ S 0 ns i s r sizes4 h hi (by decide) (by decide) ⟨⟨callN fnL glL 37, glL⟩, rfl⟩
  refine ⟨k, hk, i', s', r', ?_, z⟩
  show runFn ⟨callN fnL glL 39, glL⟩ cSize [.ref 0] S = _
  refine run_ret rfl rfl ?_
  rw [ev_call (ps := [.ref 0, .d (.list sizes4)]) (S1 := S) rfl]
  exact e
def nxE (r : SR) : Option (Bool × Env × Store) := r.map fun z => (match z.1 with | .nx => true | _ => false, z.2)
theorem nxE_ok {r : SR} {ρ : Env} {S : Store} (h : nxE r = some (true, ρ, S)) : r = some (.nx, ρ, S) := by
  obtain _ | ⟨o, ρ1, S1⟩ := r
  · simp [nxE] at h
  · cases o <;> simp [nxE] at h
    rw [h.1, h.2]
def stA : SCode := match c_law.body with | .cons a _ => a | _ => .nil
def stB : SCode := .set (.tup [6, 7]) (.call 19 (.cons (.var 1) .nil))
def stC : SCode := match tl1 with | .cons a _ => a | _ => .nil
def stD : SCode := .set (.one 2) (.call 15 (.cons (.var 1) (.cons (.call 18 (.cons (.var 6) (.cons (.var 7) .nil))) .nil)))
theorem law_eq : c_law.body = .cons stA (.cons stB (.cons stC (.cons stD tl2))) := by kernel_rfl
def rhoA (x : PyData) : Env := [some (.d x), some (.ref 0), none, none, none, none, none, none, none, none, none]
theorem tail_ok (ns : List Int) (p t : Int) (i s r : Int) (n : Nat) (hi : 0 ≤ i) (x : PyData)
    (h1 : ∀ c, nxE (ex G40 stC (rho x p t none) [c]) = some (true, rho x p t none, [c]))
    (h2 : ∀ c, evs G40 (.cons (.var 1) (.cons (.call 18 (.cons (.var 6) (.cons (.var 7) .nil))) .nil)) (rho x p t none) [c] = some ([.ref 0, .d (.list (rowsL p t))], [c]))
    (h3 : ∀ c, (rowsL p t).map (good x p t c) = List.replicate n (some (true, [c]))) (hn : 1 ≤ (rowsL p t).length) (hn2 : (rowsL p t).length < 1073741824) :
    ∃ ρ S, ex G40 (.cons stC (.cons stD tl2)) (rho x p t none) [drawC ns i s r] = some (.rt (.d (.bool true)), ρ, S) := by
  rw [ex_cons (nxE_ok (h1 _))]
  obtain ⟨k, hk, i', s', r', e, z⟩ := pick_ok ⟨callN fnL glL 39, glL⟩ [drawC ns i s r] 0 ns i s r (rowsL p t) rfl hi hn hn2 ⟨⟨callN fnL glL 38, glL⟩, rfl⟩
  have eD : ex G40 stD (rho x p t none) [drawC ns i s r] = some (.nx, rho x p t (some (.d k)), [drawC ns i' s' r']) := by
    refine ex_set (p := .d k) ?_ rfl
    rw [ev_call (h2 _)]
    exact e
  rw [ex_cons eD]
  have e3 := h3 (drawC ns i' s' r')
  have e4 : good x p t (drawC ns i' s' r') k = some (true, [drawC ns i' s' r']) := by
    have m : good x p t (drawC ns i' s' r') k ∈ List.replicate n (some (true, [drawC ns i' s' r'])) := by
      rw [← e3]
      exact List.mem_map_of_mem hk
    exact (List.mem_replicate.mp m).2
  unfold good at e4
  generalize ex G40 tl2 (rho x p t (some (.d k))) [drawC ns i' s' r'] = o at e4 ⊢
  obtain _ | ⟨o, ρ1, S1⟩ := o
  · simp at e4
  · simp at e4
    rw [isT_ok e4.1]
    exact ⟨_, _, rfl⟩
theorem law_go (ns : List Int) : ∃ ρ S, ex G40 c_law.body (startE c_law [.d (.list (ns.map .int))]) [] = some (.rt (.d (.bool true)), ρ, S) := by
  rw [law_eq]
  rw [ex_cons (ρ1 := rhoA (.list (ns.map .int))) (S1 := [drawC ns 0 15680 0]) rfl]
  obtain ⟨k, hk, i, s, r, e, hi⟩ := size_ok [drawC ns 0 15680 0] ns 0 15680 0 rfl (by decide)
  have hB : ∀ p t, k = .tuple [.int p, .int t] → ex G40 stB (rhoA (.list (ns.map .int))) [drawC ns 0 15680 0] = some (.nx, rho (.list (ns.map .int)) p t none, [drawC ns i s r]) := by
    intro p t hk
    subst hk
    refine ex_set (p := .d (.tuple [.int p, .int t])) ?_ rfl
    rw [ev_call (ps := [.ref 0]) (S1 := [drawC ns 0 15680 0]) rfl]
    exact e
  have hk2 : k = .tuple [.int 2, .int 2] ∨ k = .tuple [.int 2, .int 3] ∨ k = .tuple [.int 3, .int 2] := by
    simp [sizes4] at hk
    rcases hk with z | z | z <;> simp [z]
  rcases hk2 with h | h | h
  · rw [ex_cons (hB 2 2 h)]
    exact tail_ok ns 2 2 i s r 4 hi _ (fun c => by kernel_rfl) (fun c => by kernel_rfl) (fun c => rows22 _ _) (by decide +kernel) (by decide +kernel)
  · rw [ex_cons (hB 2 3 h)]
    exact tail_ok ns 2 3 i s r 36 hi _ (fun c => by kernel_rfl) (fun c => by kernel_rfl) (fun c => rows23 _ _) (by decide +kernel) (by decide +kernel)
  · rw [ex_cons (hB 3 2 h)]
    exact tail_ok ns 3 2 i s r 8 hi _ (fun c => by kernel_rfl) (fun c => by kernel_rfl) (fun c => rows32 _ _) (by decide +kernel) (by decide +kernel)
theorem law_runs (ns : List Int) (h : ns.length ≤ 63) : ∃ S', callN (dat.map Dat.fn) glL (40 + 1) 21 [.d (.list (ns.map .int))] [] = some (.d (.bool true), S') := by
  obtain ⟨ρ, S, e⟩ := law_go ns
  refine ⟨S, ?_⟩
  show runFn G40 c_law [.d (.list (ns.map .int))] [] = _
  have hl : ([.d (.list (ns.map .int))] : List PV).length = c_law.pars := rfl
  simp only [runFn, hl, e, if_true]
end VC

open PySem PySem.W PySem.Calls PyProof.Rows
theorem PySem.Challenge.cw_voteclashes_k00_whole_rows_holds : PySem.Challenge.rw_voteclashes_k00_whole_rows.Holds := by
  w_on; o_law
  refine HandSHeadRun.head_any (r := VC.RR) (q := view VC.RR.prog [28]) (H := VC.hk) (ob := VC.ob) (M := 1500) (loose := VC.loose) (d := HandSHeadRun.topDef VC.RR.prog 28) (kwd := []) VC.ob_eq
    (by kernel_rfl) (fun s => by kernel_rfl) VC.run (by kernel_rfl) (by kernel_rfl) (by kernel_rfl) (by rfl) (by first | assumption | decide +kernel) (by decide +kernel) ⟨rfl, rfl, rfl, rfl, rfl, by decide +kernel⟩ ?hw ?hc
  case hw => w_witness2
  case hc =>
    refine L2.walk_ofE (l := VC.RL) (n := 63) (k := 40 + 1) (x := "_law_script") (CX := L2.CX0) rfl (by decide) (by kernel_rfl) ⟨rfl, by decide, by decide⟩ ?F (fun _ _ _ _ z => z)
    intro w mg fa h Y G hmg0
    obtain ⟨K, KX, c, cg⟩ := Y
    have hmg : mg ("law" : PySem.Str) = some (.ref fa) := by
      have e : (HandSHeadRun.topDef VC.RR.prog 28).name = ("law" : PySem.Str) := by kernel_rfl
      rw [← e]
      exact hmg0
    exact VC.law_end (T := VC.dat) (t := VC.tx) (gl := VC.glL) (j := 21) (d := ⟨VC.top 28, ["_law_script", "_law_row", "_law_one", "_law_sums", "_law_best", "_law_thing", "_law_people", "_law_things", "_law_beaten", "_law_two", "_law_ranking"], VC.c_law⟩) KX G c cg VC.dat_ok VC.dat_names rfl rfl (by kernel_rfl) (by
      have e : (VC.Dat.name ⟨VC.top 28, ["_law_script", "_law_row", "_law_one", "_law_sums", "_law_best", "_law_thing", "_law_people", "_law_things", "_law_beaten", "_law_two", "_law_ranking"], VC.c_law⟩) = ("law" : PySem.Str) := by kernel_rfl
      rw [e]
      exact hmg) VC.law_runs
