import PyProof.Rows.All
import Wide.All
import OpenK.AllK
import Wide.FinOn
import HandS.ForMost
import HandS.Deep
import HandS.IsInst
import HandS.TupLe
import HandS.Flow
import HandS.Style
import KE.SortData
import HandS.TupSets
import HandS.Head0
import HandS.Head1
import HandS.Head2
import HandS.HeadHook1
import HandS.HeadHook2
import HandS.HeadHook3
import HandS.HeadHook4
import HandS.HeadNt
import HandS.HeadEnd
import HandS.HeadWalk
import KE.KStateDown
import PySem.Challenge.RW_warnloop_k55_joined_claims
set_option Elab.async false
set_option linter.all false
set_option maxRecDepth 100000
set_option maxHeartbeats 4000000
/-! G1: data, stores, the pure evaluator's parts. -/
namespace G
open PySem

/-- data: what never changes stands in line; what may change is a place of the store -/
inductive D where
  | non | bl (b : Bool) | int (i : Int) | str (x : Str)
  | tup (ds : List D) | fl (ds : List D) | sc (ds : List D) | ref (n : Nat)
  deriving Inhabited

inductive Ob where
  | lst (ds : List D)
  | dic (kvs : List (D × D))
  | ins (c : Str) (fs : List (Str × D))
  deriving Inhabited

abbrev Mu := List Ob
abbrev Fr := List (Option D)
abbrev R (α : Type) := Option (α × Mu)

mutual
def D.beq : D → D → Bool
  | .non, .non => true
  | .bl a, .bl b => a == b
  | .int a, .int b => decide (a = b)
  | .str a, .str b => decide (a = b)
  | .tup a, .tup b => D.beqL a b
  | .fl a, .fl b => D.beqL a b
  | .sc a, .sc b => D.beqL a b
  | .ref a, .ref b => decide (a = b)
  | _, _ => false
def D.beqL : List D → List D → Bool
  | [], [] => true
  | a :: r, b :: s => D.beq a b && D.beqL r s
  | _, _ => false
end
mutual
theorem D.beq_refl : ∀ d : D, D.beq d d = true
  | .non => by simp [D.beq]
  | .bl b => by simp [D.beq]
  | .int i => by simp [D.beq]
  | .str x => by simp [D.beq]
  | .tup ds => by simp [D.beq, D.beqL_refl ds]
  | .fl ds => by simp [D.beq, D.beqL_refl ds]
  | .sc ds => by simp [D.beq, D.beqL_refl ds]
  | .ref n => by simp [D.beq]
theorem D.beqL_refl : ∀ ds : List D, D.beqL ds ds = true
  | [] => by simp [D.beqL]
  | d :: r => by simp [D.beqL, D.beq_refl d, D.beqL_refl r]
end
mutual
theorem D.eq_of_beq : ∀ a b : D, D.beq a b = true → a = b
  | .non, b, h => by cases b <;> simp_all [D.beq]
  | .bl x, b, h => by cases b <;> simp_all [D.beq]
  | .int x, b, h => by cases b <;> simp_all [D.beq]
  | .str x, b, h => by cases b <;> simp_all [D.beq]
  | .tup x, b, h => by
    cases b with
    | tup y =>
      simp only [D.beq] at h
      rw [D.eq_of_beqL x y h]
    | _ => simp [D.beq] at h
  | .fl x, b, h => by
    cases b with
    | fl y =>
      simp only [D.beq] at h
      rw [D.eq_of_beqL x y h]
    | _ => simp [D.beq] at h
  | .sc x, b, h => by
    cases b with
    | sc y =>
      simp only [D.beq] at h
      rw [D.eq_of_beqL x y h]
    | _ => simp [D.beq] at h
  | .ref x, b, h => by cases b <;> simp_all [D.beq]
theorem D.eq_of_beqL : ∀ a b : List D, D.beqL a b = true → a = b
  | [], b, h => by cases b <;> simp_all [D.beqL]
  | x :: r, b, h => by
    cases b with
    | nil => simp [D.beqL] at h
    | cons y s =>
      simp only [D.beqL, Bool.and_eq_true] at h
      rw [D.eq_of_beq x y h.1, D.eq_of_beqL r s h.2]
end
instance : DecidableEq D := fun a b => if h : D.beq a b = true then isTrue (D.eq_of_beq a b h) else isFalse (fun e => h (by rw [e]; exact D.beq_refl b))
instance : DecidableEq Ob := fun a b => match a, b with
  | .lst x, .lst y => if h : x = y then isTrue (by rw [h]) else isFalse (fun e => h (by cases e; rfl))
  | .dic x, .dic y => if h : x = y then isTrue (by rw [h]) else isFalse (fun e => h (by cases e; rfl))
  | .ins c x, .ins d y => if h : c = d ∧ x = y then isTrue (by rw [h.1, h.2]) else isFalse (fun e => h (by cases e; exact ⟨rfl, rfl⟩))
  | .lst _, .dic _ => isFalse (fun e => nomatch e)
  | .lst _, .ins _ _ => isFalse (fun e => nomatch e)
  | .dic _, .lst _ => isFalse (fun e => nomatch e)
  | .dic _, .ins _ _ => isFalse (fun e => nomatch e)
  | .ins _ _, .lst _ => isFalse (fun e => nomatch e)
  | .ins _ _, .dic _ => isFalse (fun e => nomatch e)

def mapO {α β : Type} (f : α → Option β) : List α → Option (List β)
  | [] => some []
  | a :: r => (f a).bind fun b => (mapO f r).map fun s => b :: s
/-! ### data of the model's comparisons -/
def dat (μ : Mu) : Nat → D → Option PyData
  | _, .non => some .none
  | _, .bl b => some (.bool b)
  | _, .int i => some (.int i)
  | _, .str x => some (.str x)
  | 0, _ => none
  | n + 1, .tup ds => (mapO (dat μ n) ds).map .tuple
  | n + 1, .fl ds => (mapO (dat μ n) ds).map .list
  | n + 1, .sc ds => (mapO (dat μ n) ds).map .list
  | n + 1, .ref k => match μ[k]? with
    | some (.lst ds) => (mapO (dat μ n) ds).map .list
    | _ => none
def deep : Nat := 40
def eqD (μ : Mu) (x y : D) : Option Bool := match x, y with
  | .str a, .str b => some (decide (a = b))
  | .int a, .int b => some (decide (a = b))
  | .bl a, .bl b => some (decide (a = b))
  | _, _ => (dat μ deep x).bind fun p => (dat μ deep y).bind fun q => if SeqAt.shaped p && SeqAt.shaped q then some (p.eqv q) else none

/-- the items of a list or tuple -/
def itemsOf (μ : Mu) : D → Option (List D)
  | .tup ds => some ds
  | .fl ds => some ds
  | .sc ds => some ds
  | .ref n => match μ[n]? with
    | some (.lst ds) => some ds
    | _ => none
  | _ => none

/-! ### operators -/
def okInt (i : Int) : Bool := decide (-(2 ^ 64) < i ∧ i < 2 ^ 64)
def addD (x y : D) (μ : Mu) : R D := match x, y with
  | .int i, .int j => some (.int (i + j), μ)
  | .str i, .str j => if i.length + j.length ≤ sizeLine then some (.str (i ++ j), μ) else none
  | .fl xs, .fl ys => if xs.length + ys.length ≤ sizeLine then some (.fl (xs ++ ys), μ) else none
  | .fl xs, .ref n => match μ[n]? with
    | some (.lst ys) => if xs.length + ys.length ≤ sizeLine then some (.fl (xs ++ ys), μ) else none
    | _ => none
  | .ref n, .fl ys => match μ[n]? with
    | some (.lst xs) => if xs.length + ys.length ≤ sizeLine then some (.fl (xs ++ ys), μ) else none
    | _ => none
  | .ref n, .ref m => match μ[n]?, μ[m]? with
    | some (.lst xs), some (.lst ys) => if xs.length + ys.length ≤ sizeLine then some (.fl (xs ++ ys), μ) else none
    | _, _ => none
  | .tup (x :: xs), .tup ys => if (x :: xs).length + ys.length ≤ sizeLine then some (.tup (x :: xs ++ ys), μ) else none
  | _, _ => none
def subD (x y : D) (μ : Mu) : R D := match x, y with
  | .int i, .int j => some (.int (i - j), μ)
  | _, _ => none
/-- a text, n times -/
def timesS (z : Str) (n : Nat) : Str := ⟨(List.replicate n z.cps).foldl (· ++ ·) #[]⟩
def mulD (x y : D) (μ : Mu) : R D := match x, y with
  | .int i, .int j => if okInt i || okInt j then some (.int (i * j), μ) else none
  | .str z, .int j => if 2 ≤ j ∧ j ≤ 1000 ∧ 1 ≤ z.length ∧ z.length ≤ 1000 then some (.str (timesS z j.toNat), μ) else none
  | _, _ => none
def modD (x y : D) (μ : Mu) : R D := match x, y with
  | .int i, .int j => if 0 < j then some (.int (i % j), μ) else none
  | _, _ => none
def fdivD (x y : D) (μ : Mu) : R D := match x, y with
  | .int i, .int j => if 0 < j ∧ j < 1073741824 then some (.int (i / j), μ) else none
  | _, _ => none
def powD (x y : D) (μ : Mu) : R D := match x, y with
  | .int i, .int j => if 0 ≤ j ∧ j ≤ 1000000 ∧ i.natAbs < 2 ^ 64 then some (.int (i ^ j.toNat), μ) else none
  | _, _ => none
def binD : Operator → Option (D → D → Mu → R D)
  | .Add => some addD
  | .Sub => some subD
  | .Mult => some mulD
  | .Mod => some modD
  | .FloorDiv => some fdivD
  | .Pow => some powD
  | _ => none

/-! ### comparisons -/
def b2 (o : Option Bool) (μ : Mu) : R D := o.map fun b => (.bl b, μ)
def ltI (p : Int → Int → Bool) (x y : D) (μ : Mu) : R D := match x, y with
  | .int i, .int j => some (.bl (p i j), μ)
  | _, _ => none
/-- data that can be put in order -/
def tyd (p : PyData) : Bool := match p with
  | .none => false
  | _ => true
def ltO (μ : Mu) (x y : D) : Option Bool := match x, y with
  | .int i, .int j => some (decide (i < j))
  | x, y => (dat μ deep x).bind fun p => (dat μ deep y).bind fun q =>
      if (SeqAt.shaped p && SeqAt.shaped q) && (PySem.W.alike p q && tyd p) then some (PySem.W.dataLt p q) else none
def inD (μ : Mu) (x y : D) : Option Bool := match x, y with
  | .str c, .str z => some (!(Builtin.Str.occurrences z c 0 z.length 1).isEmpty)
  | x, y => (itemsOf μ y).bind fun ys => (dat μ deep x).bind fun p => (mapO (dat μ deep) ys).bind fun qs =>
      if SeqAt.shaped p && SeqAt.shaped (.list qs) then some (qs.any fun q => q.eqv p) else none
def cmpD : CmpOp → Option (D → D → Mu → R D)
  | .Eq => some fun x y μ => b2 (eqD μ x y) μ
  | .NotEq => some fun x y μ => b2 ((eqD μ x y).map (!·)) μ
  | .Lt => some fun x y μ => b2 (ltO μ x y) μ
  | .LtE => some (ltI fun i j => decide (i ≤ j))
  | .Gt => some (ltI fun i j => decide (j < i))
  | .GtE => some (ltI fun i j => decide (j ≤ i))
  | .In => some fun x y μ => b2 (inD μ x y) μ
  | .NotIn => some fun x y μ => b2 ((inD μ x y).map (!·)) μ
  | _ => none

/-! ### subscripts -/
def ixD (x y : D) (μ : Mu) : R D := match x, y with
  | .str z, .int i => if z.length ≤ sizeLine then (L2.atI z.cps.toList i).map fun c => (.str ⟨#[c]⟩, μ) else none
  | x, .int i => (itemsOf μ x).bind fun xs => (L2.atI xs i).map fun d => (d, μ)
  | _, _ => none
def cutD (xs : List D) (lo hi : Option Int) : List D := (xs.drop (_root_.HT.sIx xs.length 0 lo)).take (_root_.HT.sIx xs.length xs.length hi - _root_.HT.sIx xs.length 0 lo)
end G
set_option Elab.async false
set_option linter.all false
set_option maxRecDepth 100000
set_option maxHeartbeats 4000000
/-! G2: what data stand for over the abstract heap; what a reading comes to. -/
namespace G
open PySem L2
abbrev HV := L2.V

/-- a list that never changes: the script, or one that the program's text holds -/
def ScAt (K : PySem.W.Frag) (al : List Addr) (H : Hp) (a : Addr) (xs : List HV) : Prop := ((∃ o, H a = some (.frz o (.lst xs))) ∧ a ∉ al) ∨
  ∃ (o : Obj) (its : Array Value) (n : Nat), K.lookup a = some o ∧ o.cls = .type "list" ∧ o.dict = none ∧ o.data = .seq its n ∧ its.size ≤ sizeLine ∧ Vals xs its.toList
theorem ScAt.sq {K : PySem.W.Frag} {al : List Addr} {H : Hp} {a : Addr} {xs : List HV} (h : ScAt K al H a xs) : SqL K H a xs := h.imp (fun ⟨⟨o, e⟩, _⟩ => .inr ⟨o, e⟩) id
mutual
inductive Rep (K : PySem.W.Frag) (al : List Addr) (H : Hp) : HV → D → Prop
  | non : Rep K al H .non .non
  | bl (b : Bool) : Rep K al H (.bl b) (.bl b)
  | int (i : Int) : Rep K al H (.int i) (.int i)
  | str (x : Str) : Rep K al H (.str x) (.str x)
  | tup {a : Addr} {xs : List HV} {ds : List D} : SqT K H a xs → RepL K al H xs ds → Rep K al H (.ref a) (.tup ds)
  | fl {a : Addr} {xs : List HV} {ds : List D} : H a = some (.lst xs) → a ∉ al → RepL K al H xs ds → Rep K al H (.ref a) (.fl ds)
  | sc {a : Addr} {xs : List HV} {ds : List D} : ScAt K al H a xs → RepL K al H xs ds → Rep K al H (.ref a) (.sc ds)
  | ref {a : Addr} {n : Nat} : al[n]? = some a → Rep K al H (.ref a) (.ref n)
inductive RepL (K : PySem.W.Frag) (al : List Addr) (H : Hp) : List HV → List D → Prop
  | nil : RepL K al H [] []
  | cons {v : HV} {vs : List HV} {d : D} {ds : List D} : Rep K al H v d → RepL K al H vs ds → RepL K al H (v :: vs) (d :: ds)
end
def ObRep (K : PySem.W.Frag) (al : List Addr) (H : Hp) (a : Addr) : Ob → Prop
  | .lst ds => ∃ xs, H a = some (.lst xs) ∧ RepL K al H xs ds
  | .dic _ => False
  | .ins _ _ => False
structure Sim (K : PySem.W.Frag) (al : List Addr) (μ : Mu) (H : Hp) : Prop where
  len : al.length = μ.length
  nd : al.Nodup
  ob : ∀ (n : Nat) a o, al[n]? = some a → μ[n]? = some o → ObRep K al H a o
/-- what may have come of the heap: new places, and those that al tells may have changed -/
structure Nxt (al : List Addr) (H : Hp) (al' : List Addr) (H' : Hp) : Prop where
  pre : al <+: al'
  new : ∀ a, a ∈ al' → a ∈ al ∨ H a = none
  old : ∀ a o, H a = some o → a ∉ al → H' a = some o
theorem Nxt.refl {al : List Addr} {H : Hp} : Nxt al H al H := ⟨List.prefix_refl _, fun _ h => .inl h, fun _ _ h _ => h⟩
theorem Nxt.mem {al al' : List Addr} {H H' : Hp} (N : Nxt al H al' H') {a : Addr} (h : a ∈ al) : a ∈ al' := N.pre.subset h
theorem Nxt.out {al al' : List Addr} {H H' : Hp} (N : Nxt al H al' H') {a : Addr} {o : HO} (h : H a = some o) (n : a ∉ al) : a ∉ al' := fun z => by
  rcases N.new a z with q | q
  · exact n q
  · rw [h] at q; cases q
theorem Nxt.trans {al al1 al2 : List Addr} {H H1 H2 : Hp} (M : Nxt al H al1 H1) (N : Nxt al1 H1 al2 H2) : Nxt al H al2 H2 where
  pre := M.pre.trans N.pre
  new := fun a h => by
    by_cases q : a ∈ al
    · exact .inl q
    · refine .inr ?_
      rcases N.new a h with z | z
      · rcases M.new a z with y | y
        · exact absurd y q
        · exact y
      · cases e : H a with
        | none => rfl
        | some o => rw [M.old a o e q] at z; cases z
  old := fun a o h q => N.old a o (M.old a o h q) (M.out h q)
theorem Nxt.get {al al' : List Addr} {H H' : Hp} (N : Nxt al H al' H') {n : Nat} {a : Addr} (h : al[n]? = some a) : al'[n]? = some a := by
  obtain ⟨t, rfl⟩ := N.pre
  rw [List.getElem?_append_left (List.getElem?_eq_some_iff.mp h).1]
  exact h

section
variable {K : PySem.W.Frag} {al al' al1 : List Addr} {μ μ' μ1 : Mu} {H H' H1 : Hp}
theorem Sim.at (S : Sim K al μ H) {a : Addr} (h : a ∈ al) : ∃ (n : Nat) (o : Ob), al[n]? = some a ∧ μ[n]? = some o ∧ ObRep K al H a o := by
  obtain ⟨n, hn, e⟩ := List.mem_iff_getElem.mp h
  have h1 : al[n]? = some a := by rw [List.getElem?_eq_getElem hn, e]
  have hm : n < μ.length := by rw [← S.len]; exact hn
  exact ⟨n, μ[n], h1, List.getElem?_eq_getElem hm, S.ob n a _ h1 (List.getElem?_eq_getElem hm)⟩
theorem ObRep.not {a : Addr} {o : Ob} (h : ObRep K al H a o) : (∀ xs, H a ≠ some (.tup xs)) ∧ (∀ ob u, H a ≠ some (.frz ob u)) := by
  cases o with
  | lst ds =>
    obtain ⟨xs, e, _⟩ := h
    exact ⟨fun ys q => (by rw [e] at q; cases q), fun _ _ q => (by rw [e] at q; cases q)⟩
  | dic _ => exact h.elim
  | ins _ _ => exact h.elim
theorem Sim.noTup (S : Sim K al μ H) {a : Addr} {xs : List HV} (h : Rd H a (.tup xs)) : a ∉ al := fun z => by
  obtain ⟨n, o, _, _, r⟩ := S.at z
  rcases h with h | ⟨ob, h⟩
  · exact r.not.1 _ h
  · exact r.not.2 _ _ h
theorem Nxt.rd (N : Nxt al H al' H') {a : Addr} {u : HO} (h : Rd H a u) (n : a ∉ al) : Rd H' a u := by
  rcases h with h | ⟨ob, h⟩
  · exact .inl (N.old a _ h n)
  · exact .inr ⟨ob, N.old a _ h n⟩
theorem Rd.some {a : Addr} {u : HO} (h : Rd H a u) : ∃ o, H a = some o := by
  rcases h with h | ⟨ob, h⟩
  · exact ⟨_, h⟩
  · exact ⟨_, h⟩
theorem Nxt.sqT (N : Nxt al H al' H') (S : Sim K al μ H) {a : Addr} {xs : List HV} (h : SqT K H a xs) : SqT K H' a xs := by
  rcases h with h | h
  · exact .inl (N.rd h (S.noTup h))
  · exact .inr h
theorem ScAt.mono (N : Nxt al H al' H') {a : Addr} {xs : List HV} (h : ScAt K al H a xs) : ScAt K al' H' a xs := h.imp (fun ⟨⟨o, e⟩, n⟩ => ⟨⟨o, N.old _ _ e n⟩, N.out e n⟩) id
mutual
theorem Rep.mono (N : Nxt al H al' H') (S : Sim K al μ H) : ∀ (d : D) (v : HV), Rep K al H v d → Rep K al' H' v d
  | .non, _, h => by cases h; exact .non
  | .bl b, _, h => by cases h; exact .bl b
  | .int i, _, h => by cases h; exact .int i
  | .str x, _, h => by cases h; exact .str x
  | .tup ds, _, h => by
    cases h with
    | tup h1 h2 => exact .tup (N.sqT S h1) (Rep.monoL N S ds _ h2)
  | .fl ds, _, h => by
    cases h with
    | fl h1 n h2 => exact .fl (N.old _ _ h1 n) (N.out h1 n) (Rep.monoL N S ds _ h2)
  | .sc ds, _, h => by
    cases h with
    | sc h1 h2 => exact .sc (h1.mono N) (Rep.monoL N S ds _ h2)
  | .ref n, _, h => by
    cases h with
    | ref e => exact .ref (N.get e)
theorem Rep.monoL (N : Nxt al H al' H') (S : Sim K al μ H) : ∀ (ds : List D) (vs : List HV), RepL K al H vs ds → RepL K al' H' vs ds
  | [], _, h => by cases h; exact .nil
  | d :: ds, _, h => by
    cases h with
    | cons h1 h2 => exact .cons (Rep.mono N S d _ h1) (Rep.monoL N S ds _ h2)
end
theorem RepL.mono {ds : List D} {vs : List HV} (h : RepL K al H vs ds) (N : Nxt al H al' H') (S : Sim K al μ H) : RepL K al' H' vs ds := Rep.monoL N S ds vs h
theorem Rep.mono' {d : D} {v : HV} (h : Rep K al H v d) (N : Nxt al H al' H') (S : Sim K al μ H) : Rep K al' H' v d := Rep.mono N S d v h
theorem RepL.length : ∀ {ds : List D} {vs : List HV}, RepL K al H vs ds → vs.length = ds.length
  | [], _, h => by cases h; rfl
  | d :: ds, _, h => by
    cases h with
    | cons h1 h2 => simp [RepL.length h2]
theorem RepL.get : ∀ {ds : List D} {vs : List HV} {i : Nat} {d : D}, RepL K al H vs ds → ds[i]? = some d → ∃ v, vs[i]? = some v ∧ Rep K al H v d
  | [], _, i, d, h, e => by simp at e
  | x :: ds, _, 0, d, h, e => by
    cases h with
    | cons h1 h2 =>
      have q : x = d := Option.some.inj e
      subst q
      exact ⟨_, rfl, h1⟩
  | x :: ds, _, i + 1, d, h, e => by
    cases h with
    | cons h1 h2 =>
      obtain ⟨v, q, r⟩ := RepL.get (i := i) (d := d) h2 (by simpa using e)
      exact ⟨v, by simpa using q, r⟩
theorem RepL.getV : ∀ {ds : List D} {vs : List HV} {i : Nat} {v : HV}, RepL K al H vs ds → vs[i]? = some v → ∃ d, ds[i]? = some d ∧ Rep K al H v d
  | [], _, i, d, h, e => by cases h; simp at e
  | x :: ds, _, 0, d, h, e => by
    cases h with
    | cons h1 h2 =>
      have q := Option.some.inj e
      subst q
      exact ⟨_, rfl, h1⟩
  | x :: ds, _, i + 1, d, h, e => by
    cases h with
    | cons h1 h2 =>
      obtain ⟨v, q, r⟩ := RepL.getV (i := i) (v := d) h2 (by simpa using e)
      exact ⟨v, by simpa using q, r⟩
theorem RepL.append : ∀ {ds es : List D} {vs us : List HV}, RepL K al H vs ds → RepL K al H us es → RepL K al H (vs ++ us) (ds ++ es)
  | [], _, _, _, h, g => by cases h; exact g
  | d :: ds, _, _, _, h, g => by
    cases h with
    | cons h1 h2 => exact .cons h1 (RepL.append h2 g)
theorem RepL.drop : ∀ {ds : List D} {vs : List HV} (n : Nat), RepL K al H vs ds → RepL K al H (vs.drop n) (ds.drop n)
  | _, _, 0, h => h
  | [], _, n + 1, h => by cases h; exact .nil
  | d :: ds, _, n + 1, h => by
    cases h with
    | cons h1 h2 => exact RepL.drop n h2
theorem RepL.take : ∀ {ds : List D} {vs : List HV} (n : Nat), RepL K al H vs ds → RepL K al H (vs.take n) (ds.take n)
  | _, _, 0, h => .nil
  | [], _, n + 1, h => by cases h; exact .nil
  | d :: ds, _, n + 1, h => by
    cases h with
    | cons h1 h2 => exact .cons h1 (RepL.take n h2)
theorem RepL.set : ∀ {ds : List D} {vs : List HV} (n : Nat) {v : HV} {d : D}, RepL K al H vs ds → Rep K al H v d → RepL K al H (vs.set n v) (ds.set n d)
  | [], _, n, _, _, h, g => by cases h; exact .nil
  | x :: ds, _, 0, _, _, h, g => by
    cases h with
    | cons h1 h2 => exact .cons g h2
  | x :: ds, _, n + 1, _, _, h, g => by
    cases h with
    | cons h1 h2 => exact .cons h1 (RepL.set n h2 g)
theorem RepL.cut {ds : List D} {vs : List HV} (lo hi : Option Int) (h : RepL K al H vs ds) : RepL K al H (cutV vs lo hi) (cutD ds lo hi) := by
  unfold cutV cutD
  rw [h.length]
  exact (h.drop _).take _

/-- the frame's places -/
structure FrRep (K : PySem.W.Frag) (al : List Addr) (H : Hp) (σ : St) (ρ : Fr) : Prop where
  len : σ.length = ρ.length
  at_ : ∀ (i : Nat) d, ρ[i]? = some (some d) → ∃ v, σ[i]? = some (some v) ∧ Rep K al H v d
theorem FrRep.mono {σ : St} {ρ : Fr} (F : FrRep K al H σ ρ) (N : Nxt al H al' H') (S : Sim K al μ H) : FrRep K al' H' σ ρ :=
  ⟨F.len, fun i d e => let ⟨v, h, r⟩ := F.at_ i d e; ⟨v, h, r.mono N S d v⟩⟩
theorem FrRep.set {σ : St} {ρ : Fr} {v : HV} {d : D} (F : FrRep K al H σ ρ) (i : Nat) (r : Rep K al H v d) : FrRep K al H (σ.set i (some v)) (ρ.set i (some d)) where
  len := by rw [List.length_set, List.length_set, F.len]
  at_ := fun j e h => by
    by_cases q : i = j
    · subst q
      by_cases z : i < ρ.length
      · rw [List.getElem?_set_self z] at h
        have e1 : d = e := Option.some.inj (Option.some.inj h)
        subst e1
        exact ⟨v, List.getElem?_set_self (by rw [F.len]; exact z), r⟩
      · rw [List.getElem?_eq_none (by simpa using z)] at h; cases h
    · rw [List.getElem?_set_ne q] at h ⊢
      exact F.at_ j e h
end

/-! ### what is wanted behind -/
def Post {α β : Type} (K : PySem.W.Frag) (Rp : List Addr → Hp → β → α → Prop) (al : List Addr) (H : Hp) (Q : β → Hp → Prop) : R α → Prop
  | none => False
  | some (d, μ') => ∀ v al' H', Nxt al H al' H' → Sim K al' μ' H' → Rp al' H' v d → Q v H'
/-- a reading that does what m does -/
def tG {α β : Type} (K : PySem.W.Frag) (Rp : List Addr → Hp → β → α → Prop) (m : Fr → Mu → R α) : St → Hp → (β → Hp → Prop) → Prop := fun σ H Q =>
  ∃ al μ ρ, Sim K al μ H ∧ FrRep K al H σ ρ ∧ Post K Rp al H Q (m ρ μ)
abbrev tI (K : PySem.W.Frag) (m : Fr → Mu → R D) : TE := tG K (Rep K) m
abbrev tL (K : PySem.W.Frag) (m : Fr → Mu → R (List D)) : TA := tG K (RepL K) m
def RepB (_ : List Addr) (_ : Hp) (b : Bool) (d : D) : Prop := d = .bl b
abbrev tT (K : PySem.W.Frag) (m : Fr → Mu → R D) : TT := tG K RepB m
section
variable {α β γ δ : Type} {K : PySem.W.Frag} {Rp : List Addr → Hp → β → α → Prop} {Rq : List Addr → Hp → δ → γ → Prop} {al al1 : List Addr} {H H1 : Hp} {μ : Mu}
theorem Post.rebase {Q : β → Hp → Prop} {r : R α} (N : Nxt al H al1 H1) (h : Post K Rp al H Q r) : Post K Rp al1 H1 Q r := by
  cases r with
  | none => exact h
  | some p => exact fun v al' H' N' S' q => h v al' H' (N.trans N') S' q
theorem Post.imp {Q Q' : β → Hp → Prop} {r : R α} (h : Post K Rp al H Q r) (hq : ∀ v H', Q v H' → Q' v H') : Post K Rp al H Q' r := by
  cases r with
  | none => exact h
  | some p => exact fun v al' H' N' S' q => hq _ _ (h v al' H' N' S' q)
theorem Post.bind {r : R α} {f : α → Mu → R γ} {Q : δ → Hp → Prop} (h : Post K Rq al H Q (r.bind fun p => f p.1 p.2)) :
    Post K Rp al H (fun v H1 => ∃ al1 μ1 x, Nxt al H al1 H1 ∧ Sim K al1 μ1 H1 ∧ Rp al1 H1 v x ∧ Post K Rq al1 H1 Q (f x μ1)) r := by
  cases r with
  | none => exact h
  | some p => exact fun v al' H' N S q => ⟨al', p.2, p.1, N, S, q, Post.rebase N h⟩
/-- the value at once -/
theorem Post.now {Q : β → Hp → Prop} {v : β} {d : α} (h : Post K Rp al H Q (some (d, μ))) (S : Sim K al μ H) (r : Rp al H v d) : Q v H := h v al H .refl S r
end
section
variable {X : Cx} {e : Expr} {es : List Expr}
theorem _root_.L2.PE.imp {t t' : TE} (h : PE X e t) (hi : ∀ σ H Q, t' σ H Q → t σ H Q) : PE X e t' := ⟨fun pins s σ H Q I q => h.run pins s σ H Q I (hi σ H Q q)⟩
theorem _root_.L2.PT.imp {t t' : TT} (h : PT X e t) (hi : ∀ σ H Q, t' σ H Q → t σ H Q) : PT X e t' := ⟨fun pins s σ H Q I q => h.run pins s σ H Q I (hi σ H Q q)⟩
theorem _root_.L2.PW.imp {t t' : TT} (h : PW X e t) (hi : ∀ σ H Q, t' σ H Q → t σ H Q) : PW X e t' := ⟨fun wh pins s σ H Q I q => h.run wh pins s σ H Q I (hi σ H Q q)⟩
theorem _root_.L2.PA.imp {t t' : TA} (h : PA X es t) (hi : ∀ σ H Q, t' σ H Q → t σ H Q) : PA X es t' := ⟨fun pos pins s σ H Q I q => h.run pos pins s σ H Q I (hi σ H Q q)⟩
theorem _root_.L2.PS.imp {st : Stmt} {t t' : TS} (h : PS X st t) (hi : ∀ D σ H, t' D σ H → t D σ H) : PS X st t' := ⟨fun pins s σ H D I q => h.run pins s σ H D I (hi D σ H q)⟩
theorem _root_.L2.PSs.imp {st : List Stmt} {t t' : TS} (h : PSs X st t) (hi : ∀ D σ H, t' D σ H → t D σ H) : PSs X st t' := ⟨fun pins s σ H D I q => h.run pins s σ H D I (hi D σ H q)⟩
theorem _root_.L2.OpR.imp {f : Value → Value → Sem Value} {r r' : R2} (h : OpR X f r) (hi : ∀ x y H Q, r' x y H Q → r x y H Q) : OpR X f r' := fun pins s σ H x y v u Q I rx ry q => h pins s σ H x y v u Q I rx ry (hi x y H Q q)
theorem _root_.L2.CallR.imp {f : Value} {r r' : List HV → Hp → VK → Prop} (h : CallR X f r) (hi : ∀ xs H Q, r' xs H Q → r xs H Q) : CallR X f r' := fun pins s σ H xs us Q I rx q => h pins s σ H xs us Q I rx (hi xs H Q q)
end
end G
set_option Elab.async false
set_option linter.all false
set_option maxRecDepth 100000
set_option maxHeartbeats 4000000
/-! G3: expressions: what they do, and that their readings do it. -/
namespace G
open PySem L2
abbrev ME := Fr → Mu → R D
abbrev MA := Fr → Mu → R (List D)
def eCon (d : D) : ME := fun _ μ => some (d, μ)
def eVar (i : Nat) : ME := fun ρ μ => match ρ[i]? with
  | some (some d) => some (d, μ)
  | _ => none
def e1 (f : D → Mu → R D) (a : ME) : ME := fun ρ μ => (a ρ μ).bind fun p => f p.1 p.2
def e2 (f : D → D → Mu → R D) (a b : ME) : ME := fun ρ μ => (a ρ μ).bind fun p => (b ρ p.2).bind fun q => f p.1 q.1 q.2
def lNil : MA := fun _ μ => some ([], μ)
def lCons (a : ME) (as : MA) : MA := fun ρ μ => (a ρ μ).bind fun p => (as ρ p.2).bind fun q => some (p.1 :: q.1, q.2)
def eL (f : List D → Mu → R D) (as : MA) : ME := fun ρ μ => (as ρ μ).bind fun p => f p.1 p.2
def eAnd (a b : ME) : ME := fun ρ μ => (a ρ μ).bind fun p => match p.1 with
  | .bl true => b ρ p.2
  | .bl false => some (.bl false, p.2)
  | _ => none
def eOr (a b : ME) : ME := fun ρ μ => (a ρ μ).bind fun p => match p.1 with
  | .bl true => some (.bl true, p.2)
  | .bl false => b ρ p.2
  | _ => none
def notD (d : D) (μ : Mu) : R D := match d with
  | .bl b => some (.bl (!b), μ)
  | _ => none
def eNot (a : ME) : ME := e1 notD a
def eIf (c a b : ME) : ME := fun ρ μ => (c ρ μ).bind fun p => match p.1 with
  | .bl true => a ρ p.2
  | .bl false => b ρ p.2
  | _ => none
def negD (d : D) (μ : Mu) : R D := match d with
  | .int i => some (.int (-i), μ)
  | _ => none
def isNoneD (d : D) (μ : Mu) : R D := some (.bl (decide (d = .non)), μ)
def notNoneD (d : D) (μ : Mu) : R D := some (.bl (!decide (d = .non)), μ)
def tupD (ds : List D) (μ : Mu) : R D := if ds.length ≤ sizeLine then some (.tup ds, μ) else none
def flD (ds : List D) (μ : Mu) : R D := if ds.length ≤ sizeLine then some (.fl ds, μ) else none
/-- a list that may change -/
def newD (ds : List D) (μ : Mu) : R D := if ds.length ≤ sizeLine then some (.ref μ.length, μ ++ [.lst ds]) else none
def asB (r : R D) : R Bool := r.bind fun p => match p.1 with
  | .bl b => some (b, p.2)
  | _ => none
def eChain (f g : D → D → Mu → R D) (a b c : ME) : ME := fun ρ μ => (a ρ μ).bind fun p => (b ρ p.2).bind fun q => (f p.1 q.1 q.2).bind fun z => match z.1 with
  | .bl true => (c ρ z.2).bind fun w => g q.1 w.1 w.2
  | .bl false => some (.bl false, z.2)
  | _ => none

section
variable {K : PySem.W.Frag} {al al' al1 : List Addr} {μ μ' μ1 : Mu} {H H' H1 : Hp}
theorem Sim.fresh (S : Sim K al μ H) {p : Addr} (hp : H p = none) : p ∉ al := fun z => by
  obtain ⟨n, o, _, _, r⟩ := S.at z
  cases o with
  | lst ds =>
    obtain ⟨xs, e, _⟩ := r
    rw [hp] at e; cases e
  | dic _ => exact r.elim
  | ins _ _ => exact r.elim
theorem Nxt.add (S : Sim K al μ H) {p : Addr} (hp : H p = none) (o : HO) : Nxt al H al (upd H p o) :=
  ⟨List.prefix_refl _, fun _ h => .inl h, fun a u e _ => by rw [upd_ne (ne_of_none e hp)]; exact e⟩
theorem ObRep.mono (N : Nxt al H al' H') (S : Sim K al μ H) {a : Addr} (he : H' a = H a) {o : Ob} (h : ObRep K al H a o) : ObRep K al' H' a o := by
  cases o with
  | lst ds =>
    obtain ⟨xs, e, r⟩ := h
    exact ⟨xs, he.trans e, r.mono N S⟩
  | dic _ => exact h.elim
  | ins _ _ => exact h.elim
theorem Sim.add (S : Sim K al μ H) {p : Addr} (hp : H p = none) (o : HO) : Sim K al μ (upd H p o) :=
  ⟨S.len, S.nd, fun n a ob h1 h2 => (S.ob n a ob h1 h2).mono (Nxt.add S hp o) S (by
    rw [upd_ne]
    intro e
    subst e
    exact S.fresh hp (List.mem_of_getElem? h1))⟩
theorem new_fl (S : Sim K al μ H) {p : Addr} (hp : H p = none) {xs : List HV} {ds : List D} (r : RepL K al H xs ds) : Rep K al (upd H p (.lst xs)) (.ref p) (.fl ds) :=
  .fl upd_same (S.fresh hp) (r.mono (Nxt.add S hp _) S)
theorem new_tup (S : Sim K al μ H) {p : Addr} (hp : H p = none) {xs : List HV} {ds : List D} (r : RepL K al H xs ds) : Rep K al (upd H p (.tup xs)) (.ref p) (.tup ds) :=
  .tup (SqT.of upd_same) (r.mono (Nxt.add S hp _) S)
theorem Nxt.push (S : Sim K al μ H) {p : Addr} (hp : H p = none) (o : HO) : Nxt al H (al ++ [p]) (upd H p o) :=
  ⟨List.prefix_append _ _, fun a h => (List.mem_append.mp h).imp id fun z => by rw [List.mem_singleton.mp z]; exact hp, fun a u e _ => by rw [upd_ne (ne_of_none e hp)]; exact e⟩
theorem Sim.push (S : Sim K al μ H) {p : Addr} (hp : H p = none) {xs : List HV} {ds : List D} (r : RepL K al H xs ds) : Sim K (al ++ [p]) (μ ++ [.lst ds]) (upd H p (.lst xs)) := by
  have N := Nxt.push S hp (.lst xs)
  refine ⟨by simp [S.len], ?_, fun n a o h1 h2 => ?_⟩
  · rw [List.nodup_append]
    exact ⟨S.nd, by simp, fun a ha b hb => by
      rw [List.mem_singleton.mp hb]
      intro e
      subst e
      exact S.fresh hp ha⟩
  · by_cases hn : n < al.length
    · rw [List.getElem?_append_left hn] at h1
      rw [List.getElem?_append_left (by rw [← S.len]; exact hn)] at h2
      refine (S.ob n a o h1 h2).mono N S ?_
      rw [upd_ne]
      intro e
      subst e
      exact S.fresh hp (List.mem_of_getElem? h1)
    · have e1 : n = al.length := by
        have := (List.getElem?_eq_some_iff.mp h1).1
        simp at this
        omega
      subst e1
      have e2 : p = a := by simpa using h1
      have e3 : Ob.lst ds = o := by
        rw [S.len] at h2
        simpa using h2
      subst e2 e3
      exact ⟨xs, upd_same, r.mono N S⟩
theorem Sim.get {n : Nat} {ds : List D} {v : HV} (S : Sim K al μ H) (r : Rep K al H v (.ref n)) (e : μ[n]? = some (.lst ds)) : ∃ a xs, v = .ref a ∧ al[n]? = some a ∧ H a = some (.lst xs) ∧ RepL K al H xs ds := by
  cases r with
  | @ref a _ h =>
    obtain ⟨xs, q, z⟩ := S.ob n a _ h e
    exact ⟨a, xs, rfl, h, q, z⟩
/-- the items as the layer reads them -/
theorem items_of {d : D} {ds : List D} {v : HV} (S : Sim K al μ H) (r : Rep K al H v d) (e : itemsOf μ d = some ds) : ∃ a xs, v = .ref a ∧ RepL K al H xs ds ∧ ((SqL K H a xs ∧ ∀ es, d ≠ .tup es) ∨ (SqT K H a xs ∧ d = .tup ds)) := by
  cases r with
  | tup h1 h2 =>
    simp only [itemsOf, Option.some.injEq] at e
    subst e
    exact ⟨_, _, rfl, h2, .inr ⟨h1, rfl⟩⟩
  | fl h1 n h2 =>
    simp only [itemsOf, Option.some.injEq] at e
    subst e
    exact ⟨_, _, rfl, h2, .inl ⟨SqL.of h1, fun _ z => nomatch z⟩⟩
  | sc h1 h2 =>
    simp only [itemsOf, Option.some.injEq] at e
    subst e
    exact ⟨_, _, rfl, h2, .inl ⟨h1.sq, fun _ z => nomatch z⟩⟩
  | @ref a n h =>
    simp only [itemsOf] at e
    split at e
    · rename_i es he
      cases e
      obtain ⟨xs, q, z⟩ := S.ob n a _ h he
      exact ⟨a, xs, rfl, z, .inl ⟨SqL.of q, fun _ z => nomatch z⟩⟩
    · cases e
  | non => cases e
  | bl _ => cases e
  | int _ => cases e
  | str _ => cases e
theorem mapO_dp {f : D → Option PyData} (hf : ∀ d v p, Rep K al H v d → f d = some p → Dp K H v p) : ∀ {ds : List D} {vs : List HV} {ps : List PyData}, RepL K al H vs ds → mapO f ds = some ps → DpAll K H vs ps
  | [], _, _, h, e => by
    cases h
    cases e
    exact .nil
  | d :: ds, _, _, h, e => by
    cases h with
    | cons h1 h2 =>
      unfold mapO at e
      cases q : f d with
      | none => rw [q] at e; cases e
      | some p =>
        rw [q] at e
        cases q2 : mapO f ds with
        | none => rw [q2] at e; cases e
        | some ps =>
          rw [q2] at e
          cases e
          exact .cons (hf _ _ _ h1 q) (mapO_dp hf h2 q2)
theorem dat_dp (S : Sim K al μ H) : ∀ (n : Nat) (d : D) (v : HV) (p : PyData), Rep K al H v d → dat μ n d = some p → Dp K H v p := by
  intro n
  induction n with
  | zero =>
    intro d v p r e
    cases r with
    | non => cases e; exact .non
    | bl b => cases e; exact .bl b
    | int b => cases e; exact .int b
    | str b => cases e; exact .str b
    | _ => cases e
  | succ n ih =>
    intro d v p r e
    cases r with
    | non => cases e; exact .non
    | bl b => cases e; exact .bl b
    | int b => cases e; exact .int b
    | str b => cases e; exact .str b
    | tup h1 h2 =>
      simp only [dat, Option.map_eq_some_iff] at e
      obtain ⟨ps, e1, rfl⟩ := e
      exact .tup h1 (mapO_dp (fun d v p => ih d v p) h2 e1)
    | fl h1 _ h2 =>
      simp only [dat, Option.map_eq_some_iff] at e
      obtain ⟨ps, e1, rfl⟩ := e
      exact .lst (SqL.of h1) (mapO_dp (fun d v p => ih d v p) h2 e1)
    | sc h1 h2 =>
      simp only [dat, Option.map_eq_some_iff] at e
      obtain ⟨ps, e1, rfl⟩ := e
      exact .lst h1.sq (mapO_dp (fun d v p => ih d v p) h2 e1)
    | @ref a k h =>
      simp only [dat] at e
      split at e
      · rename_i ds hd
        simp only [Option.map_eq_some_iff] at e
        obtain ⟨ps, e1, rfl⟩ := e
        obtain ⟨xs, q, z⟩ := S.ob k a _ h hd
        exact .lst (SqL.of q) (mapO_dp (fun d v p => ih d v p) z e1)
      · cases e
end

/-! ### operators by values -/
def rOp (K : PySem.W.Frag) (f : D → D → Mu → R D) : R2 := fun x y H Q => ∃ al μ dx dy, Sim K al μ H ∧ Rep K al H x dx ∧ Rep K al H y dy ∧ Post K (Rep K) al H Q (f dx dy μ)
def rUn (K : PySem.W.Frag) (f : D → Mu → R D) : HV → Hp → VK → Prop := fun x H Q => ∃ al μ dx, Sim K al μ H ∧ Rep K al H x dx ∧ Post K (Rep K) al H Q (f dx μ)
def rLs (K : PySem.W.Frag) (f : List D → Mu → R D) : List HV → Hp → VK → Prop := fun xs H Q => ∃ al μ ds, Sim K al μ H ∧ RepL K al H xs ds ∧ Post K (Rep K) al H Q (f ds μ)
section
variable {X : Cx}
theorem fresh_fl {K : PySem.W.Frag} {al : List Addr} {μ : Mu} {H : Hp} {Q : VK} {ds : List D} {xs : List HV} (S : Sim K al μ H) (P : Post K (Rep K) al H Q (some (.fl ds, μ))) (r : RepL K al H xs ds) : ∀ p, H p = none → Q (.ref p) (upd H p (.lst xs)) := fun p hp =>
  P _ al _ (Nxt.add S hp _) (S.add hp _) (new_fl S hp r)
theorem fresh_tup {K : PySem.W.Frag} {al : List Addr} {μ : Mu} {H : Hp} {Q : VK} {ds : List D} {xs : List HV} (S : Sim K al μ H) (P : Post K (Rep K) al H Q (some (.tup ds, μ))) (r : RepL K al H xs ds) : ∀ p, H p = none → Q (.ref p) (upd H p (.tup xs)) := fun p hp =>
  P _ al _ (Nxt.add S hp _) (S.add hp _) (new_tup S hp r)
theorem or_add : OpR X (binaryOp .Add) (rOp X.K addD) := by
  intro pins s σ H x y v u Q I rx ry h
  obtain ⟨al, μ, dx, dy, S, hx, hy, P⟩ := h
  have two : ∀ {a b : Addr} {xs ys : List HV} {ds es : List D}, x = .ref a → y = .ref b → H a = some (.lst xs) → H b = some (.lst ys) → RepL X.K al H xs ds → RepL X.K al H ys es →
      Post X.K (Rep X.K) al H Q (if ds.length + es.length ≤ sizeLine then some (.fl (ds ++ es), μ) else none) → wpAny (model X.prog X.w) X.A (binaryOp .Add v u) (EP X pins σ Q) X.xe s := by
    intro a b xs ys ds es ex ey ha hb r1 r2 P
    split at P
    · rename_i hl
      exact op_cat pins s σ H x y v u Q I rx ry ⟨a, b, xs, ys, ex, ey, ha, hb, by rw [r1.length, r2.length]; exact hl, fresh_fl S P (r1.append r2)⟩
    · exact P.elim
  unfold addD at P
  split at P
  · cases hx; cases hy
    exact op_add pins s σ H _ _ v u Q I rx ry ⟨_, _, rfl, rfl, P.now S (.int _)⟩
  · cases hx; cases hy
    split at P
    · rename_i hl
      exact op_add_str pins s σ H _ _ v u Q I rx ry ⟨_, _, rfl, rfl, hl, P.now S (.str _)⟩
    · exact P.elim
  · cases hx with
    | fl h1 _ r1 =>
      cases hy with
      | fl h2 _ r2 => exact two rfl rfl h1 h2 r1 r2 P
  · cases hx with
    | fl h1 _ r1 =>
      split at P
      · rename_i e
        obtain ⟨b, ys, rfl, _, h2, r2⟩ := S.get hy e
        exact two rfl rfl h1 h2 r1 r2 P
      · exact P.elim
  · cases hy with
    | fl h2 _ r2 =>
      split at P
      · rename_i e
        obtain ⟨a, xs, rfl, _, h1, r1⟩ := S.get hx e
        exact two rfl rfl h1 h2 r1 r2 P
      · exact P.elim
  · split at P
    · rename_i e1 e2
      obtain ⟨a, xs, rfl, _, h1, r1⟩ := S.get hx e1
      obtain ⟨b, ys, rfl, _, h2, r2⟩ := S.get hy e2
      exact two rfl rfl h1 h2 r1 r2 P
    · exact P.elim
  · cases hx with
    | tup h1 r1 =>
      cases hy with
      | tup h2 r2 =>
        split at P
        · rename_i hl
          have l1 := r1.length
          have l2 := r2.length
          refine op_catT pins s σ H _ _ v u Q I rx ry ⟨_, _, _, _, rfl, rfl, h1, h2, ?_, by rw [l1, l2]; exact hl, fun e => ?_, fun _ => fresh_tup S P (r1.append r2)⟩
          · intro e
            rw [e] at l1
            simp at l1
          · subst e
            cases r2
            rw [List.append_nil] at P
            exact P.now S (.tup h1 r1)
        · exact P.elim
  · exact P.elim
theorem or_sub : OpR X (binaryOp .Sub) (rOp X.K subD) := by
  intro pins s σ H x y v u Q I rx ry h
  obtain ⟨al, μ, dx, dy, S, hx, hy, P⟩ := h
  unfold subD at P
  split at P
  · cases hx; cases hy
    exact op_sub pins s σ H _ _ v u Q I rx ry ⟨_, _, rfl, rfl, P.now S (.int _)⟩
  · exact P.elim
theorem times_aux (c : Array Nat) : ∀ (n : Nat) (acc : Array Nat), ((List.replicate n c).foldl (· ++ ·) acc).size = acc.size + c.size * n
  | 0, acc => by simp
  | n + 1, acc => by
    rw [List.replicate_succ, List.foldl_cons, times_aux c n, Array.size_append]
    rw [Nat.mul_succ]
    omega
theorem times_len (z : Str) (n : Nat) : (timesS z n).length = z.length * n := by
  have := times_aux z.cps n #[]
  simpa [timesS, Str.length] using this
theorem or_mul : OpR X (binaryOp .Mult) (rOp X.K mulD) := by
  intro pins s σ H x y v u Q I rx ry h
  obtain ⟨al, μ, dx, dy, S, hx, hy, P⟩ := h
  unfold mulD at P
  split at P
  · cases hx; cases hy
    split at P
    · rename_i hk
      refine op_mul pins s σ H _ _ v u Q I rx ry ⟨_, _, rfl, rfl, ?_, P.now S (.int _)⟩
      simp only [Bool.or_eq_true, okInt, decide_eq_true_eq] at hk
      exact hk
    · exact P.elim
  · rename_i z j
    cases hx; cases hy
    split at P
    · rename_i hk
      obtain ⟨h1, h2, h3, h4⟩ := hk
      obtain ⟨t, rfl⟩ := rx
      obtain ⟨t', rfl⟩ := ry
      have hmul : z.length * j.toNat ≤ 1000000 := Nat.le_trans (Nat.mul_le_mul h4 (show j.toNat ≤ 1000 by omega)) (by omega)
      refine PySem.P.mul_str (by rw [decide_eq_false (by omega), decide_eq_false (by omega)]; rfl) (fun _ _ => ?_) (fun _ _ => ?_) ?_
      · have hq : (1000 : Int) ≤ (2 ^ 63 - 1) / j := by
          rw [Int.le_ediv_iff_mul_le (by omega)]
          omega
        omega
      · unfold Builtin.Str.tooLong
        rw [decide_eq_false_iff_not, sizeLine_eq]
        omega
      · rw [if_neg (by omega), if_neg (by
          simp only [Bool.or_eq_true, beq_iff_eq, not_or]
          omega)]
        refine ⟨?_, ⟨.str _, H, I.tok _, ⟨_, rfl⟩, P.now S (.str _)⟩⟩
        have : (timesS z j.toNat).length = z.length * j.toNat := times_len z j.toNat
        show (timesS z j.toNat).length ≤ sizeLine
        rw [this, sizeLine_eq]
        omega
    · exact P.elim
  · exact P.elim
theorem or_mod : OpR X (binaryOp .Mod) (rOp X.K modD) := by
  intro pins s σ H x y v u Q I rx ry h
  obtain ⟨al, μ, dx, dy, S, hx, hy, P⟩ := h
  unfold modD at P
  split at P
  · cases hx; cases hy
    split at P
    · rename_i hk
      exact op_mod pins s σ H _ _ v u Q I rx ry ⟨_, _, rfl, rfl, hk, P.now S (.int _)⟩
    · exact P.elim
  · exact P.elim
theorem or_fdiv : OpR X (binaryOp .FloorDiv) (rOp X.K fdivD) := by
  intro pins s σ H x y v u Q I rx ry h
  obtain ⟨al, μ, dx, dy, S, hx, hy, P⟩ := h
  unfold fdivD at P
  split at P
  · cases hx; cases hy
    split at P
    · rename_i hk
      exact op_fdiv pins s σ H _ _ v u Q I rx ry ⟨_, _, rfl, rfl, hk, P.now S (.int _)⟩
    · exact P.elim
  · exact P.elim
theorem or_pow : OpR X (binaryOp .Pow) (rOp X.K powD) := by
  intro pins s σ H x y v u Q I rx ry h
  obtain ⟨al, μ, dx, dy, S, hx, hy, P⟩ := h
  unfold powD at P
  split at P
  · cases hx; cases hy
    split at P
    · rename_i hk
      exact op_pow pins s σ H _ _ v u Q I rx ry ⟨_, _, rfl, rfl, hk, P.now S (.int _)⟩
    · exact P.elim
  · exact P.elim
theorem or_bin {op : Operator} {f : D → D → Mu → R D} (h : binD op = some f) : OpR X (binaryOp op) (rOp X.K f) := by
  cases op <;> simp only [binD, Option.some.injEq, reduceCtorEq] at h <;> subst h
  · exact or_add
  · exact or_sub
  · exact or_mul
  · exact or_mod
  · exact or_pow
  · exact or_fdiv
theorem ur_neg : UnR X (unaryOp .USub) (rUn X.K negD) := by
  intro pins s σ H x v Q I rx h
  obtain ⟨al, μ, dx, S, hx, P⟩ := h
  unfold negD at P
  split at P
  · cases hx
    exact un_neg pins s σ H _ v Q I rx ⟨_, rfl, P.now S (.int _)⟩
  · exact P.elim

/-! ### comparisons by values -/
theorem post_b2 {K : PySem.W.Frag} {al : List Addr} {μ : Mu} {H : Hp} {Q : VK} {o : Option Bool} (S : Sim K al μ H) (P : Post K (Rep K) al H Q (b2 o μ)) : ∃ b, o = some b ∧ Q (.bl b) H := by
  cases o with
  | none => exact P.elim
  | some b => exact ⟨b, rfl, P.now S (.bl b)⟩
theorem eqD_of {K : PySem.W.Frag} {al : List Addr} {μ : Mu} {H : Hp} {x y : HV} {dx dy : D} {b : Bool} (S : Sim K al μ H) (hx : Rep K al H x dx) (hy : Rep K al H y dy) (e : eqD μ dx dy = some b) :
    (scal x y = true ∧ decide (x = y) = b) ∨ ∃ p q, Dp K H x p ∧ Dp K H y q ∧ SeqAt.shaped p = true ∧ SeqAt.shaped q = true ∧ p.eqv q = b := by
  unfold eqD at e
  split at e
  · cases hx; cases hy
    cases e
    exact .inl ⟨rfl, by simp⟩
  · cases hx; cases hy
    cases e
    exact .inl ⟨rfl, by simp⟩
  · cases hx; cases hy
    cases e
    exact .inl ⟨rfl, by simp⟩
  · cases hp : dat μ deep dx with
    | none => rw [hp] at e; cases e
    | some p =>
      rw [hp] at e
      cases hq : dat μ deep dy with
      | none => rw [hq] at e; cases e
      | some q =>
        rw [hq] at e
        simp only [Option.bind_some] at e
        split at e
        · rename_i hs
          rw [Bool.and_eq_true] at hs
          cases e
          exact .inr ⟨p, q, dat_dp S _ _ _ _ hx hp, dat_dp S _ _ _ _ hy hq, hs.1, hs.2, rfl⟩
        · cases e
theorem or_eq (hu : X.A.units + 64 < cLine) : OpR X (compareOp .Eq) (rOp X.K fun x y μ => b2 (eqD μ x y) μ) := by
  intro pins s σ H x y v u Q I rx ry h
  obtain ⟨al, μ, dx, dy, S, hx, hy, P⟩ := h
  obtain ⟨b, e, q⟩ := post_b2 S P
  rcases eqD_of S hx hy e with ⟨h1, h2⟩ | ⟨p, r, h1, h2, h3, h4, h5⟩
  · refine op_eq pins s σ H _ _ v u Q I rx ry ⟨h1, ?_⟩
    rw [h2]
    exact q
  · refine op_eqD hu pins s σ H _ _ v u Q I rx ry ⟨p, r, h1, h2, h3, h4, ?_⟩
    rw [h5]
    exact q
theorem or_ne (hu : X.A.units + 64 < cLine) : OpR X (compareOp .NotEq) (rOp X.K fun x y μ => b2 ((eqD μ x y).map (!·)) μ) := by
  intro pins s σ H x y v u Q I rx ry h
  obtain ⟨al, μ, dx, dy, S, hx, hy, P⟩ := h
  obtain ⟨b, e, q⟩ := post_b2 S P
  rw [Option.map_eq_some_iff] at e
  obtain ⟨b', e, rfl⟩ := e
  rcases eqD_of S hx hy e with ⟨h1, h2⟩ | ⟨p, r, h1, h2, h3, h4, h5⟩
  · refine op_ne pins s σ H _ _ v u Q I rx ry ⟨h1, ?_⟩
    rw [h2]
    exact q
  · refine op_neD hu pins s σ H _ _ v u Q I rx ry ⟨p, r, h1, h2, h3, h4, ?_⟩
    rw [h5]
    exact q
theorem inD_of {K : PySem.W.Frag} {al : List Addr} {μ : Mu} {H : Hp} {x y : HV} {dx dy : D} {b : Bool} (S : Sim K al μ H) (hx : Rep K al H x dx) (hy : Rep K al H y dy) (e : inD μ dx dy = some b) :
    (∃ c z, x = .str c ∧ y = .str z ∧ (!(Builtin.Str.occurrences z c 0 z.length 1).isEmpty) = b) ∨
      ∃ p qs, Dp K H x p ∧ (Dp K H y (.list qs) ∨ Dp K H y (.tuple qs)) ∧ SeqAt.shaped p = true ∧ SeqAt.shaped (.list qs) = true ∧ (qs.any fun q => q.eqv p) = b := by
  unfold inD at e
  split at e
  · cases hx; cases hy
    cases e
    exact .inl ⟨_, _, rfl, rfl, rfl⟩
  · cases hi : itemsOf μ dy with
    | none => rw [hi] at e; cases e
    | some ys =>
      rw [hi] at e
      simp only [Option.bind_some] at e
      cases hp : dat μ deep dx with
      | none => rw [hp] at e; cases e
      | some p =>
        rw [hp] at e
        simp only [Option.bind_some] at e
        cases hq : mapO (dat μ deep) ys with
        | none => rw [hq] at e; cases e
        | some qs =>
          rw [hq] at e
          simp only [Option.bind_some] at e
          split at e
          · rename_i hs
            rw [Bool.and_eq_true] at hs
            cases e
            obtain ⟨a, xs, rfl, r, z⟩ := items_of S hy hi
            have dq := mapO_dp (fun d v p => dat_dp S deep d v p) r hq
            refine .inr ⟨p, qs, dat_dp S _ _ _ _ hx hp, ?_, hs.1, hs.2, rfl⟩
            rcases z with ⟨z, _⟩ | ⟨z, _⟩
            · exact .inl (.lst z dq)
            · exact .inr (.tup z dq)
          · cases e
def rInT (K : PySem.W.Frag) : R2 := fun x y H Q => ∃ d ds, Dp K H x d ∧ Dp K H y (.tuple ds) ∧ SeqAt.shaped d = true ∧ SeqAt.shaped (.list ds) = true ∧ Q (.bl (ds.any fun z => PyData.eqv z d)) H
def rNotInT (K : PySem.W.Frag) : R2 := fun x y H Q => ∃ d ds, Dp K H x d ∧ Dp K H y (.tuple ds) ∧ SeqAt.shaped d = true ∧ SeqAt.shaped (.list ds) = true ∧ Q (.bl (!ds.any fun z => PyData.eqv z d)) H
theorem op_inT (hu : X.A.units + 65 < cLine) : OpR X (compareOp .In) (rInT X.K) := by
  intro pins s σ H x y v u Q I rx ry h
  obtain ⟨d, ds, hd, he, sd, se, q⟩ := h
  obtain ⟨as, r1⟩ := Dp.reads I d x v hd rx
  obtain ⟨bs, r2⟩ := Dp.reads I (.tuple ds) y u he ry
  exact SeqAt.in_tuple_reads r2 r1 (SeqAt.canLay_of_shaped se) (SeqAt.canLay_of_shaped sd) (PyProof.Rows.room_in_shaped sd hu) ⟨.bl _, H, I, rfl, q⟩
theorem op_notInT (hu : X.A.units + 65 < cLine) : OpR X (compareOp .NotIn) (rNotInT X.K) := by
  intro pins s σ H x y v u Q I rx ry h
  obtain ⟨d, ds, hd, he, sd, se, q⟩ := h
  obtain ⟨as, r1⟩ := Dp.reads I d x v hd rx
  obtain ⟨bs, r2⟩ := Dp.reads I (.tuple ds) y u he ry
  exact SeqAt.notIn_tuple_reads r2 r1 (SeqAt.canLay_of_shaped se) (SeqAt.canLay_of_shaped sd) (PyProof.Rows.room_in_shaped sd hu) ⟨.bl _, H, I, rfl, q⟩
theorem or_in (hu : X.A.units + 65 < cLine) : OpR X (compareOp .In) (rOp X.K fun x y μ => b2 (inD μ x y) μ) := by
  intro pins s σ H x y v u Q I rx ry h
  obtain ⟨al, μ, dx, dy, S, hx, hy, P⟩ := h
  obtain ⟨b, e, q⟩ := post_b2 S P
  rcases inD_of S hx hy e with ⟨c, z, rfl, rfl, h2⟩ | ⟨p, r, h1, h2 | h2, h3, h4, h5⟩
  · refine op_in_str pins s σ H _ _ v u Q I rx ry ⟨_, _, rfl, rfl, ?_⟩
    rw [h2]
    exact q
  · refine op_inD hu pins s σ H _ _ v u Q I rx ry ⟨p, r, h1, h2, h3, h4, ?_⟩
    rw [h5]
    exact q
  · refine op_inT hu pins s σ H _ _ v u Q I rx ry ⟨p, r, h1, h2, h3, h4, ?_⟩
    rw [h5]
    exact q
theorem or_notIn (hu : X.A.units + 65 < cLine) : OpR X (compareOp .NotIn) (rOp X.K fun x y μ => b2 ((inD μ x y).map (!·)) μ) := by
  intro pins s σ H x y v u Q I rx ry h
  obtain ⟨al, μ, dx, dy, S, hx, hy, P⟩ := h
  obtain ⟨b, e, q⟩ := post_b2 S P
  rw [Option.map_eq_some_iff] at e
  obtain ⟨b', e, rfl⟩ := e
  rcases inD_of S hx hy e with ⟨c, z, rfl, rfl, h2⟩ | ⟨p, r, h1, h2 | h2, h3, h4, h5⟩
  · refine op_notIn_str pins s σ H _ _ v u Q I rx ry ⟨_, _, rfl, rfl, ?_⟩
    rw [h2]
    exact q
  · refine op_notInD hu pins s σ H _ _ v u Q I rx ry ⟨p, r, h1, h2, h3, h4, ?_⟩
    rw [h5]
    exact q
  · refine op_notInT hu pins s σ H _ _ v u Q I rx ry ⟨p, r, h1, h2, h3, h4, ?_⟩
    rw [h5]
    exact q
theorem or_ltI {op : CmpOp} {p : Int → Int → Bool} (h : OpR X (compareOp op) (rI0 fun i j => .bl (p i j))) : OpR X (compareOp op) (rOp X.K (ltI p)) := by
  intro pins s σ H x y v u Q I rx ry hh
  obtain ⟨al, μ, dx, dy, S, hx, hy, P⟩ := hh
  unfold ltI at P
  split at P
  · cases hx; cases hy
    exact h pins s σ H _ _ v u Q I rx ry ⟨_, _, rfl, rfl, P.now S (.bl _)⟩
  · exact P.elim
theorem tyd_ok {p : PyData} (h : tyd p = true) : p ≠ .none := fun e => by
  subst e
  cases h
theorem or_lt (hu : X.A.units + 64 < cLine) : OpR X (compareOp .Lt) (rOp X.K fun x y μ => b2 (ltO μ x y) μ) := by
  intro pins s σ H x y v u Q I rx ry hh
  obtain ⟨al, μ, dx, dy, S, hx, hy, P⟩ := hh
  obtain ⟨b, e, q⟩ := post_b2 S P
  unfold ltO at e
  split at e
  · cases hx; cases hy
    cases e
    exact op_lt pins s σ H _ _ v u Q I rx ry ⟨_, _, rfl, rfl, q⟩
  · cases hp : dat μ deep dx with
    | none => rw [hp] at e; cases e
    | some p =>
      rw [hp] at e
      cases hq : dat μ deep dy with
      | none => rw [hq] at e; cases e
      | some r =>
        rw [hq] at e
        simp only [Option.bind_some] at e
        split at e
        · rename_i hs
          simp only [Bool.and_eq_true] at hs
          cases e
          obtain ⟨as, r1⟩ := Dp.reads I p x v (dat_dp S _ _ _ _ hx hp) rx
          obtain ⟨bs, r2⟩ := Dp.reads I r y u (dat_dp S _ _ _ _ hy hq) ry
          have h3 : p.depth ≤ 64 := by
            have := hs.1.1
            simp only [SeqAt.shaped, Bool.and_eq_true, decide_eq_true_eq] at this
            exact this.2
          exact PySem.W.rcLt_alike p r X.A s v u as bs r1 r2 hs.2.1 (tyd_ok hs.2.2) (by omega) X.prog X.w X.xe _ ⟨.bl _, H, I, rfl, q⟩
        · cases e
theorem or_cmp (hu : X.A.units + 65 < cLine) {op : CmpOp} {f : D → D → Mu → R D} (h : cmpD op = some f) : OpR X (compareOp op) (rOp X.K f) := by
  cases op <;> simp only [cmpD, Option.some.injEq, reduceCtorEq] at h <;> subst h
  · exact or_eq (by omega)
  · exact or_ne (by omega)
  · exact or_lt (by omega)
  · exact or_ltI op_le
  · exact or_ltI op_gt
  · exact or_ltI op_ge
  · exact or_in hu
  · exact or_notIn hu
/-! ### subscripts -/
theorem atI_rep {K : PySem.W.Frag} {al : List Addr} {H : Hp} {xs : List HV} {ds : List D} {i : Int} {d : D} (r : RepL K al H xs ds) (e : atI ds i = some d) : ∃ v, atI xs i = some v ∧ Rep K al H v d := by
  unfold atI at e ⊢
  rw [r.length]
  cases q : ixN ds.length i with
  | none => rw [q] at e; cases e
  | some j =>
    rw [q] at e
    simp only [Option.bind_some] at e ⊢
    exact r.get e
theorem xr_ix : IxR X (rOp X.K ixD) := by
  intro value slice pins s σ H x y v u Q I rx ry h hs
  obtain ⟨al, μ, dx, dy, S, hx, hy, P⟩ := h
  unfold ixD at P
  split at P
  · cases hx; cases hy
    split at P
    · rename_i hl
      cases e : atI _ _ with
      | none => rw [e] at P; exact P.elim
      | some c =>
        rw [e] at P
        exact ix_str value slice pins s σ H _ _ v u Q I rx ry ⟨_, _, c, rfl, rfl, hl, e, P.now S (.str _)⟩ hs
    · exact P.elim
  · cases hy
    cases hi : itemsOf μ dx with
    | none => rw [hi] at P; exact P.elim
    | some ds =>
      rw [hi] at P
      simp only [Option.bind_some] at P
      cases e : atI ds _ with
      | none => rw [e] at P; exact P.elim
      | some d =>
        rw [e] at P
        obtain ⟨a, xs, rfl, r, z⟩ := items_of S hx hi
        obtain ⟨w, e2, rw2⟩ := atI_rep r e
        rcases z with ⟨z, _⟩ | ⟨z, _⟩
        · exact ix_list value slice pins s σ H _ _ v u Q I rx ry ⟨a, xs, _, w, rfl, rfl, z, e2, P.now S rw2⟩ hs
        · exact ix_tup value slice pins s σ H _ _ v u Q I rx ry ⟨a, xs, _, w, rfl, rfl, z, e2, P.now S rw2⟩ hs
  · exact P.elim
end
end G
set_option Elab.async false
set_option linter.all false
set_option maxRecDepth 100000
set_option maxHeartbeats 4000000
/-! G4: what is left of a store behind a call: places that nothing holds are let go, a new list that is handed back stands in line. -/
namespace G
open PySem L2
mutual
def clD (k : Nat) : D → Bool
  | .non => true
  | .bl _ => true
  | .int _ => true
  | .str _ => true
  | .tup ds => clL k ds
  | .fl ds => clL k ds
  | .sc ds => clL k ds
  | .ref n => decide (n < k)
def clL (k : Nat) : List D → Bool
  | [] => true
  | d :: ds => clD k d && clL k ds
end
def clOb (k : Nat) : Ob → Bool
  | .lst ds => clL k ds
  | .dic _ => false
  | .ins _ _ => false
def okPre (k : Nat) (μ μ' : Mu) : Bool := decide (k ≤ μ'.length) && (List.range k).all fun i => decide (μ'[i]? = μ[i]?) || (match μ'[i]? with
  | some o => clOb k o
  | none => false)
def frz (k : Nat) (μ : Mu) : Nat → D → Option D
  | 0, d => if clD k d then some d else none
  | n + 1, d => if clD k d then some d else match d with
    | .tup ds => (mapO (frz k μ n) ds).map .tup
    | .fl ds => (mapO (frz k μ n) ds).map .fl
    | .ref m => match μ[m]? with
      | some (.lst ds) => (mapO (frz k μ n) ds).map .fl
      | _ => none
    | _ => none
def finish (k : Nat) (μ : Mu) (d : D) (μ' : Mu) : R D := if okPre k μ μ' then (match frz k μ' deep d with
  | some d' => some (d', μ'.take k)
  | none => some (d, μ')) else some (d, μ')
section
variable {K : PySem.W.Frag} {al al' al1 : List Addr} {μ μ' μ1 : Mu} {H H' H1 : Hp} {k : Nat}
theorem mem_take {a : Addr} (h : a ∈ al.take k) : a ∈ al := List.mem_of_mem_take h
mutual
theorem Rep.cl (hk : al.length ≤ k) : ∀ (d : D) (v : HV), Rep K al H v d → clD k d = true
  | .non, _, _ => by simp [clD]
  | .bl _, _, _ => by simp [clD]
  | .int _, _, _ => by simp [clD]
  | .str _, _, _ => by simp [clD]
  | .tup ds, _, h => by
    cases h with
    | tup h1 h2 => simp [clD, Rep.clL hk ds _ h2]
  | .fl ds, _, h => by
    cases h with
    | fl h1 _ h2 => simp [clD, Rep.clL hk ds _ h2]
  | .sc ds, _, h => by
    cases h with
    | sc h1 h2 => simp [clD, Rep.clL hk ds _ h2]
  | .ref n, _, h => by
    cases h with
    | ref e =>
      have := (List.getElem?_eq_some_iff.mp e).1
      simp only [clD, decide_eq_true_eq]
      omega
theorem Rep.clL (hk : al.length ≤ k) : ∀ (ds : List D) (vs : List HV), RepL K al H vs ds → G.clL k ds = true
  | [], _, _ => by simp [G.clL]
  | d :: ds, _, h => by
    cases h with
    | cons h1 h2 => simp [G.clL, Rep.cl hk d _ h1, Rep.clL hk ds _ h2]
end
mutual
theorem Rep.tk : ∀ (d : D) (v : HV), Rep K al H v d → clD k d = true → Rep K (al.take k) H v d
  | .non, _, h, _ => by cases h; exact .non
  | .bl _, _, h, _ => by cases h; exact .bl _
  | .int _, _, h, _ => by cases h; exact .int _
  | .str _, _, h, _ => by cases h; exact .str _
  | .tup ds, _, h, c => by
    cases h with
    | tup h1 h2 => exact .tup h1 (Rep.tkL ds _ h2 (by simpa [clD] using c))
  | .fl ds, _, h, c => by
    cases h with
    | fl h1 n h2 => exact .fl h1 (fun z => n (mem_take z)) (Rep.tkL ds _ h2 (by simpa [clD] using c))
  | .sc ds, _, h, c => by
    cases h with
    | sc h1 h2 => exact .sc (h1.imp (fun ⟨e, n⟩ => ⟨e, fun z => n (mem_take z)⟩) id) (Rep.tkL ds _ h2 (by simpa [clD] using c))
  | .ref n, _, h, c => by
    cases h with
    | ref e => exact .ref (by
        have q : n < k := by simpa [clD] using c
        rw [List.getElem?_take_of_lt q]
        exact e)
theorem Rep.tkL : ∀ (ds : List D) (vs : List HV), RepL K al H vs ds → G.clL k ds = true → RepL K (al.take k) H vs ds
  | [], _, h, _ => by cases h; exact .nil
  | d :: ds, _, h, c => by
    cases h with
    | cons h1 h2 =>
      simp only [G.clL, Bool.and_eq_true] at c
      exact .cons (Rep.tk d _ h1 c.1) (Rep.tkL ds _ h2 c.2)
end
theorem mapO_rep {f : D → Option D} (hf : ∀ d v e, Rep K al H v d → f d = some e → Rep K al1 H v e) : ∀ {ds es : List D} {vs : List HV}, RepL K al H vs ds → mapO f ds = some es → RepL K al1 H vs es
  | [], _, _, h, e => by
    cases h
    cases e
    exact .nil
  | d :: ds, _, _, h, e => by
    cases h with
    | cons h1 h2 =>
      unfold mapO at e
      cases q : f d with
      | none => rw [q] at e; cases e
      | some p =>
        rw [q] at e
        cases q2 : mapO f ds with
        | none => rw [q2] at e; cases e
        | some ps =>
          rw [q2] at e
          cases e
          exact .cons (hf _ _ _ h1 q) (mapO_rep hf h2 q2)
theorem frz_rep (S : Sim K al μ H) : ∀ (n : Nat) (d : D) (v : HV) (e : D), Rep K al H v d → frz k μ n d = some e → Rep K (al.take k) H v e := by
  intro n
  induction n with
  | zero =>
    intro d v e r h
    unfold frz at h
    split at h
    · rename_i c
      cases h
      exact Rep.tk d v r c
    · cases h
  | succ n ih =>
    intro d v e r h
    unfold frz at h
    split at h
    · rename_i c
      cases h
      exact Rep.tk d v r c
    · rename_i c
      cases r with
      | tup h1 h2 =>
        simp only [Option.map_eq_some_iff] at h
        obtain ⟨es, h3, rfl⟩ := h
        exact .tup h1 (mapO_rep (fun d v e => ih d v e) h2 h3)
      | fl h1 n2 h2 =>
        simp only [Option.map_eq_some_iff] at h
        obtain ⟨es, h3, rfl⟩ := h
        exact .fl h1 (fun z => n2 (mem_take z)) (mapO_rep (fun d v e => ih d v e) h2 h3)
      | @ref a m hm =>
        simp only at h
        split at h
        · rename_i ds hd
          simp only [Option.map_eq_some_iff] at h
          obtain ⟨es, h3, rfl⟩ := h
          obtain ⟨xs, q, z⟩ := S.ob m a _ hm hd
          refine .fl q (fun w => ?_) (mapO_rep (fun d v e => ih d v e) z h3)
          -- a stands at m ≥ k alone
          obtain ⟨j, hj, e⟩ := List.mem_iff_getElem.mp w
          have hj2 : j < k ∧ j < al.length := by
            simp only [List.length_take] at hj
            omega
          have e2 : al[j]? = some a := by
            rw [List.getElem_take] at e
            rw [List.getElem?_eq_getElem hj2.2, e]
          have e3 : j = m := by
            obtain ⟨h4, e4⟩ := List.getElem?_eq_some_iff.mp e2
            obtain ⟨h5, e5⟩ := List.getElem?_eq_some_iff.mp hm
            exact (List.getElem_inj S.nd).mp (e4.trans e5.symm)
          subst e3
          exact c (by simp [clD, hj2.1])
        · cases h
      | non => cases h
      | bl _ => cases h
      | int _ => cases h
      | str _ => cases h
      | sc _ _ => cases h
theorem cut_sim (S0 : Sim K al μ H) (N : Nxt al H al' H') (S : Sim K al' μ' H') (ok : okPre μ.length μ μ' = true) : al'.take μ.length = al ∧ Sim K al (μ'.take μ.length) H' ∧ Nxt al H al H' := by
  have hl := S0.len
  obtain ⟨t, rfl⟩ := N.pre
  have e1 : (al ++ t).take μ.length = al := by rw [← hl]; simp
  simp only [okPre, Bool.and_eq_true, decide_eq_true_eq, List.all_eq_true, List.mem_range, Bool.or_eq_true] at ok
  refine ⟨e1, ⟨?_, S0.nd, fun n a o h1 h2 => ?_⟩, ⟨List.prefix_refl _, fun _ h => .inl h, N.old⟩⟩
  · rw [List.length_take, hl]
    omega
  · have hn : n < μ.length := by rw [← hl]; exact (List.getElem?_eq_some_iff.mp h1).1
    rw [List.getElem?_take_of_lt hn] at h2
    have r := S.ob n a o (N.get h1) h2
    have c : clOb μ.length o = true := by
      rcases ok.2 n hn with q | q
      · rw [h2] at q
        have r0 := S0.ob n a o h1 q.symm
        cases o with
        | lst ds =>
          obtain ⟨xs, _, z⟩ := r0
          exact Rep.clL (by omega) ds xs z
        | dic _ => exact r0.elim
        | ins _ _ => exact r0.elim
      · rw [h2] at q
        exact q
    cases o with
    | lst ds =>
      obtain ⟨xs, q, z⟩ := r
      refine ⟨xs, q, ?_⟩
      have := Rep.tkL (k := μ.length) ds xs z c
      rw [e1] at this
      exact this
    | dic _ => exact r.elim
    | ins _ _ => exact r.elim
theorem finish_ok {v : HV} {d d' : D} {μ2 : Mu} (S0 : Sim K al μ H) (N : Nxt al H al' H') (S : Sim K al' μ' H') (r : Rep K al' H' v d) (h : finish μ.length μ d μ' = some (d', μ2)) :
    ∃ al2, Nxt al H al2 H' ∧ Sim K al2 μ2 H' ∧ Rep K al2 H' v d' := by
  unfold finish at h
  split at h
  · rename_i ok
    obtain ⟨e1, S2, N2⟩ := cut_sim S0 N S ok
    split at h
    · rename_i e2 he
      cases h
      have := frz_rep S deep d v _ r he
      rw [e1] at this
      exact ⟨al, N2, S2, this⟩
    · cases h
      exact ⟨al', N, S, r⟩
  · cases h
    exact ⟨al', N, S, r⟩
theorem Post.finish {Q : VK} {v : HV} {d : D} (S0 : Sim K al μ H) (P : Post K (Rep K) al H Q (finish μ.length μ d μ')) (N : Nxt al H al' H') (S : Sim K al' μ' H') (r : Rep K al' H' v d) : Q v H' := by
  cases e : G.finish μ.length μ d μ' with
  | none => rw [e] at P; exact P.elim
  | some p =>
    rw [e] at P
    obtain ⟨al2, N2, S2, r2⟩ := finish_ok S0 N S r e
    exact P v al2 H' N2 S2 r2
end
end G
set_option Elab.async false
set_option linter.all false
set_option maxRecDepth 100000
set_option maxHeartbeats 4000000
/-! G5: expressions' rules. -/
namespace G
open PySem L2
section
variable {X : Cx} {a b d e : Expr} {es : List Expr} {pos p : Pos} {ma mb mc : ME} {mas : MA}
theorem se_con {v : HV} {dd : D} (h : PE X e (tC v)) (r : ∀ al H, Rep X.K al H v dd) : PE X e (tI X.K (eCon dd)) := h.imp fun σ H Q ⟨al, μ, ρ, S, F, P⟩ => P.now S (r al H)
theorem se_var {i : Nat} (h : PE X e (tVar i)) : PE X e (tI X.K (eVar i)) := h.imp fun σ H Q ⟨al, μ, ρ, S, F, P⟩ => by
  unfold eVar at P
  split at P
  · rename_i dd he
    obtain ⟨v, e1, r⟩ := F.at_ i dd he
    exact ⟨v, e1, P.now S r⟩
  · exact P.elim
theorem two_of {σ : L2.St} {H : Hp} {Q : VK} {K : PySem.W.Frag} {f : D → D → Mu → R D} (h : tI K (e2 f ma mb) σ H Q) : tOp (rOp K f) (tI K ma) (tI K mb) σ H Q := by
  obtain ⟨al, μ, ρ, S, F, P⟩ := h
  refine ⟨al, μ, ρ, S, F, (Post.bind (Rp := Rep K) (f := fun dx μ1 => (mb ρ μ1).bind fun q => f dx q.1 q.2) P).imp fun x H1 ⟨al1, μ1, dx, N1, S1, r1, P1⟩ => ?_⟩
  refine ⟨al1, μ1, ρ, S1, F.mono N1 S, (Post.bind (Rp := Rep K) (f := fun dy μ1 => f dx dy μ1) P1).imp fun y H2 ⟨al2, μ2, dy, N2, S2, r2, P2⟩ => ?_⟩
  exact ⟨al2, μ2, dx, dy, S2, r1.mono' N2 S1, r2, P2⟩
theorem se_bin {op : Operator} {f : D → D → Mu → R D} (hf : binD op = some f) (ha : PE X a (tI X.K ma)) (hb : PE X b (tI X.K mb)) : PE X (.BinOp a op b pos) (tI X.K (e2 f ma mb)) :=
  (pe_op (or_bin hf) ha hb).imp fun _ _ _ h => two_of h
theorem se_cmp (hu : X.A.units + 65 < cLine) {op : CmpOp} {f : D → D → Mu → R D} (hf : cmpD op = some f) (hm : behindInMarks op b = false) (ha : PE X a (tI X.K ma)) (hb : PE X b (tI X.K mb)) : PE X (.Compare a [op] [b] pos) (tI X.K (e2 f ma mb)) :=
  (pe_cmpR (or_cmp hu hf) ha hb hm).imp fun _ _ _ h => two_of h
theorem test_of {σ : L2.St} {H : Hp} {Q : Bool → Hp → Prop} {K : PySem.W.Frag} {m : ME} (h : tG K (fun _ _ b c => b = c) (fun ρ μ => asB (m ρ μ)) σ H Q) : tI K m σ H (fun x H' => ∃ k, x = .bl k ∧ Q k H') := by
  obtain ⟨al, μ, ρ, S, F, P⟩ := h
  have P : Post K (fun _ _ b c => b = c) al H Q (asB (m ρ μ)) := P
  refine ⟨al, μ, ρ, S, F, ?_⟩
  cases em : m ρ μ with
  | none => rw [em] at P; exact P.elim
  | some q =>
    rw [em] at P
    obtain ⟨dq, μq⟩ := q
    cases dq with
    | bl b =>
      intro v al' H' N S' r
      cases r
      exact ⟨b, rfl, P b al' H' N S' rfl⟩
    | _ => exact P.elim
abbrev tTb (K : PySem.W.Frag) (m : ME) : TT := tG K (fun _ _ b c => b = c) (fun ρ μ => asB (m ρ μ))
theorem st_val (he : PE X e (tI X.K ma)) (hv : ∀ whole, isTrue e X.env whole = (do let v ← whole; standAt e.pos; holding [v] (truthy v))) : PT X e (tTb X.K ma) :=
  (pt_val he hv).imp fun _ _ _ h => test_of h
theorem st_cmp (hu : X.A.units + 65 < cLine) {op : CmpOp} {f : D → D → Mu → R D} (hf : cmpD op = some f) (hm : behindInMarks op b = false) (ha : PE X a (tI X.K ma)) (hb : PE X b (tI X.K mb)) : PT X (.Compare a [op] [b] pos) (tTb X.K (e2 f ma mb)) :=
  (pt_cmpR (or_cmp hu hf) ha hb hm).imp fun _ _ _ h => two_of (test_of h)
/-! is None -/
theorem RepN {K : PySem.W.Frag} {al : List Addr} {H : Hp} {v : HV} {dd : D} (r : Rep K al H v dd) : decide (v = V.non) = decide (dd = D.non) := by
  cases r <;> simp
theorem one_of {σ : L2.St} {H : Hp} {Q : VK} {K : PySem.W.Frag} {f : D → Mu → R D} (h : tI K (e1 f ma) σ H Q) : tI K ma σ H (fun x H1 => rUn K f x H1 Q) := by
  obtain ⟨al, μ, ρ, S, F, P⟩ := h
  exact ⟨al, μ, ρ, S, F, (Post.bind (Rp := Rep K) (f := fun dx μ1 => f dx μ1) P).imp fun x H1 ⟨al1, μ1, dx, N1, S1, r1, P1⟩ => ⟨al1, μ1, dx, S1, r1, P1⟩⟩
theorem se_un {op : UnaryOp} {f : D → Mu → R D} (hf : UnR X (unaryOp op) (rUn X.K f)) (ha : PE X a (tI X.K ma)) : PE X (.UnaryOp op a pos) (tI X.K (e1 f ma)) := (pe_un hf ha).imp fun _ _ _ h => one_of h
theorem se_isN {j : Nat} {q : Pos} (ha : PE X a (tI X.K ma)) : PE X (.Compare a [.Is] [.Constant .none j q] pos) (tI X.K (e1 isNoneD ma)) :=
  (pe_cmp (pc_isN ha) rfl).imp fun σ H Q h => by
    obtain ⟨al, μ, ρ, S, F, P⟩ := one_of h
    refine ⟨al, μ, ρ, S, F, P.imp fun x H1 ⟨al1, μ1, dx, S1, r1, P1⟩ => ?_⟩
    rw [RepN r1]
    exact P1.now S1 (.bl _)
theorem se_notN {j : Nat} {q : Pos} (ha : PE X a (tI X.K ma)) : PE X (.Compare a [.IsNot] [.Constant .none j q] pos) (tI X.K (e1 notNoneD ma)) :=
  (pe_cmp (pc_notN ha) rfl).imp fun σ H Q h => by
    obtain ⟨al, μ, ρ, S, F, P⟩ := one_of h
    refine ⟨al, μ, ρ, S, F, P.imp fun x H1 ⟨al1, μ1, dx, S1, r1, P1⟩ => ?_⟩
    rw [RepN r1]
    exact P1.now S1 (.bl _)
theorem st_isN {j : Nat} {q : Pos} (ha : PE X a (tI X.K ma)) : PT X (.Compare a [.Is] [.Constant .none j q] pos) (tTb X.K (e1 isNoneD ma)) :=
  (pt_cmp (pc_isN ha) rfl).imp fun σ H Q h => by
    obtain ⟨al, μ, ρ, S, F, P⟩ := one_of (test_of h)
    refine ⟨al, μ, ρ, S, F, P.imp fun x H1 ⟨al1, μ1, dx, S1, r1, P1⟩ => ?_⟩
    rw [RepN r1]
    exact P1.now S1 (.bl _)
theorem st_notN {j : Nat} {q : Pos} (ha : PE X a (tI X.K ma)) : PT X (.Compare a [.IsNot] [.Constant .none j q] pos) (tTb X.K (e1 notNoneD ma)) :=
  (pt_cmp (pc_notN ha) rfl).imp fun σ H Q h => by
    obtain ⟨al, μ, ρ, S, F, P⟩ := one_of (test_of h)
    refine ⟨al, μ, ρ, S, F, P.imp fun x H1 ⟨al1, μ1, dx, S1, r1, P1⟩ => ?_⟩
    rw [RepN r1]
    exact P1.now S1 (.bl _)
/-! chains -/
theorem chain_of {σ : L2.St} {H : Hp} {Q : VK} {K : PySem.W.Frag} {f g : D → D → Mu → R D} (h : tI K (eChain f g ma mb mc) σ H Q) : tChain (rOp K f) (rOp K g) (tI K ma) (tI K mb) (tI K mc) σ H Q := by
  obtain ⟨al, μ, ρ, S, F, P⟩ := h
  refine ⟨al, μ, ρ, S, F, (Post.bind (Rp := Rep K) (f := fun dx μ1 => (mb ρ μ1).bind fun q => (f dx q.1 q.2).bind fun z => match z.1 with
    | .bl true => (mc ρ z.2).bind fun w => g q.1 w.1 w.2
    | .bl false => some (.bl false, z.2)
    | _ => none) P).imp fun x H1 ⟨al1, μ1, dx, N1, S1, r1, P1⟩ => ?_⟩
  refine ⟨al1, μ1, ρ, S1, F.mono N1 S, (Post.bind (Rp := Rep K) (f := fun dy μ1 => (f dx dy μ1).bind fun z => match z.1 with
    | .bl true => (mc ρ z.2).bind fun w => g dy w.1 w.2
    | .bl false => some (.bl false, z.2)
    | _ => none) P1).imp fun y H2 ⟨al2, μ2, dy, N2, S2, r2, P2⟩ => ?_⟩
  refine ⟨al2, μ2, dx, dy, S2, r1.mono' N2 S1, r2, ?_⟩
  refine (Post.bind (Rp := Rep K) (f := fun zd zμ => match zd with
    | .bl true => (mc ρ zμ).bind fun w => g dy w.1 w.2
    | .bl false => some (.bl false, zμ)
    | _ => none) P2).imp fun z H3 ⟨al3, μ3, dz, N3, S3, r3, P3⟩ => ?_
  cases dz with
  | bl k =>
    cases r3
    refine ⟨k, rfl, ?_⟩
    cases k with
    | true =>
      refine ⟨al3, μ3, ρ, S3, ((F.mono N1 S).mono N2 S1).mono N3 S2, (Post.bind (Rp := Rep K) (f := fun dw μ1 => g dy dw μ1) P3).imp fun w H4 ⟨al4, μ4, dw, N4, S4, r4, P4⟩ => ?_⟩
      exact ⟨al4, μ4, dy, dw, S4, (r2.mono' N3 S2).mono' N4 S3, r4, P4⟩
    | false => exact P3.now S3 (.bl _)
  | _ => exact P3.elim
theorem se_chain (hu : X.A.units + 65 < cLine) {op op' : CmpOp} {f g : D → D → Mu → R D} (hf : cmpD op = some f) (hg : cmpD op' = some g) (hm : lastMarks [op, op'] [b, d] = false) (ha : PE X a (tI X.K ma)) (hb : PE X b (tI X.K mb)) (hc : PE X d (tI X.K mc)) :
    PE X (.Compare a [op, op'] [b, d] pos) (tI X.K (eChain f g ma mb mc)) := (pe_chain (or_cmp hu hf) (or_cmp hu hg) ha hb hc hm).imp fun _ _ _ h => chain_of h
theorem st_chain (hu : X.A.units + 65 < cLine) {op op' : CmpOp} {f g : D → D → Mu → R D} (hf : cmpD op = some f) (hg : cmpD op' = some g) (hm : lastMarks [op, op'] [b, d] = false) (ha : PE X a (tI X.K ma)) (hb : PE X b (tI X.K mb)) (hc : PE X d (tI X.K mc)) :
    PT X (.Compare a [op, op'] [b, d] pos) (tTb X.K (eChain f g ma mb mc)) := (pt_chain (or_cmp hu hf) (or_cmp hu hg) ha hb hc hm).imp fun _ _ _ h => chain_of (test_of h)
/-! and, or, not, if -/
theorem asB_and (ρ : Fr) (μ : Mu) : asB (eAnd ma mb ρ μ) = (asB (ma ρ μ)).bind fun p => match p.1 with
  | true => asB (mb ρ p.2)
  | false => some (false, p.2) := by
  unfold eAnd asB
  cases ma ρ μ with
  | none => rfl
  | some q =>
    obtain ⟨dq, μq⟩ := q
    cases dq with
    | bl b => cases b <;> rfl
    | _ => rfl
theorem asB_or (ρ : Fr) (μ : Mu) : asB (eOr ma mb ρ μ) = (asB (ma ρ μ)).bind fun p => match p.1 with
  | true => some (true, p.2)
  | false => asB (mb ρ p.2) := by
  unfold eOr asB
  cases ma ρ μ with
  | none => rfl
  | some q =>
    obtain ⟨dq, μq⟩ := q
    cases dq with
    | bl b => cases b <;> rfl
    | _ => rfl
theorem asB_not (ρ : Fr) (μ : Mu) : asB (eNot ma ρ μ) = (asB (ma ρ μ)).bind fun p => some (!p.1, p.2) := by
  unfold eNot e1 asB
  cases ma ρ μ with
  | none => rfl
  | some q =>
    obtain ⟨dq, μq⟩ := q
    cases dq <;> rfl
theorem asB_if (ρ : Fr) (μ : Mu) : asB (eIf ma mb mc ρ μ) = (asB (ma ρ μ)).bind fun p => match p.1 with
  | true => asB (mb ρ p.2)
  | false => asB (mc ρ p.2) := by
  unfold eIf asB
  cases ma ρ μ with
  | none => rfl
  | some q =>
    obtain ⟨dq, μq⟩ := q
    cases dq with
    | bl b => cases b <;> rfl
    | _ => rfl
theorem tTb_and {σ : L2.St} {H : Hp} {Q : Bool → Hp → Prop} {K : PySem.W.Frag} (h : tTb K (eAnd ma mb) σ H Q) : tAnd (tTb K ma) (tTb K mb) σ H Q := by
  obtain ⟨al, μ, ρ, S, F, P⟩ := h
  have P : Post K (fun _ _ b c => b = c) al H Q (asB (eAnd ma mb ρ μ)) := P
  rw [asB_and] at P
  refine ⟨al, μ, ρ, S, F, (Post.bind (Rp := fun _ _ (b : Bool) c => b = c) (f := fun k μ1 => match k with
    | true => asB (mb ρ μ1)
    | false => some (false, μ1)) P).imp fun k H1 ⟨al1, μ1, x, N1, S1, r1, P1⟩ => ?_⟩
  subst r1
  cases k with
  | true => exact ⟨al1, μ1, ρ, S1, F.mono N1 S, P1⟩
  | false => exact P1.now S1 rfl
theorem tTb_or {σ : L2.St} {H : Hp} {Q : Bool → Hp → Prop} {K : PySem.W.Frag} (h : tTb K (eOr ma mb) σ H Q) : tOr (tTb K ma) (tTb K mb) σ H Q := by
  obtain ⟨al, μ, ρ, S, F, P⟩ := h
  have P : Post K (fun _ _ b c => b = c) al H Q (asB (eOr ma mb ρ μ)) := P
  rw [asB_or] at P
  refine ⟨al, μ, ρ, S, F, (Post.bind (Rp := fun _ _ (b : Bool) c => b = c) (f := fun k μ1 => match k with
    | true => some (true, μ1)
    | false => asB (mb ρ μ1)) P).imp fun k H1 ⟨al1, μ1, x, N1, S1, r1, P1⟩ => ?_⟩
  subst r1
  cases k with
  | true => exact P1.now S1 rfl
  | false => exact ⟨al1, μ1, ρ, S1, F.mono N1 S, P1⟩
theorem tTb_not {σ : L2.St} {H : Hp} {Q : Bool → Hp → Prop} {K : PySem.W.Frag} (h : tTb K (eNot ma) σ H Q) : tNot (tTb K ma) σ H Q := by
  obtain ⟨al, μ, ρ, S, F, P⟩ := h
  have P : Post K (fun _ _ b c => b = c) al H Q (asB (eNot ma ρ μ)) := P
  rw [asB_not] at P
  refine ⟨al, μ, ρ, S, F, (Post.bind (Rp := fun _ _ (b : Bool) c => b = c) (f := fun k μ1 => some (!k, μ1)) P).imp fun k H1 ⟨al1, μ1, x, N1, S1, r1, P1⟩ => ?_⟩
  subst r1
  exact P1.now S1 rfl
theorem tI_if {σ : L2.St} {H : Hp} {Q : VK} {K : PySem.W.Frag} (h : tI K (eIf ma mb mc) σ H Q) : tIf (tTb K ma) (tI K mb) (tI K mc) σ H Q := by
  obtain ⟨al, μ, ρ, S, F, P⟩ := h
  refine ⟨al, μ, ρ, S, F, ?_⟩
  unfold eIf at P
  cases em : ma ρ μ with
  | none => rw [em] at P; exact P.elim
  | some q =>
    rw [em] at P
    obtain ⟨dq, μq⟩ := q
    cases dq with
    | bl k =>
      show Post K _ al H _ (asB (ma ρ μ))
      rw [em]
      intro v al' H' N S' r
      cases r
      cases k with
      | true => exact ⟨al', μq, ρ, S', F.mono N S, Post.rebase N P⟩
      | false => exact ⟨al', μq, ρ, S', F.mono N S, Post.rebase N P⟩
    | _ => exact P.elim
theorem tI_and {σ : L2.St} {H : Hp} {Q : VK} {K : PySem.W.Frag} (h : tI K (eAnd ma mb) σ H Q) : tAndV (tI K ma) (tI K mb) σ H Q := by
  obtain ⟨al, μ, ρ, S, F, P⟩ := h
  refine ⟨al, μ, ρ, S, F, ?_⟩
  unfold eAnd at P
  cases em : ma ρ μ with
  | none => rw [em] at P; exact P.elim
  | some q =>
    rw [em] at P
    obtain ⟨dq, μq⟩ := q
    cases dq with
    | bl k =>
      intro v al' H' N S' r
      cases r
      refine ⟨k, rfl, ?_⟩
      cases k with
      | true => exact ⟨al', μq, ρ, S', F.mono N S, Post.rebase N P⟩
      | false => exact P _ al' H' N S' (.bl _)
    | _ => exact P.elim
theorem tI_or {σ : L2.St} {H : Hp} {Q : VK} {K : PySem.W.Frag} (h : tI K (eOr ma mb) σ H Q) : tOrV (tI K ma) (tI K mb) σ H Q := by
  obtain ⟨al, μ, ρ, S, F, P⟩ := h
  refine ⟨al, μ, ρ, S, F, ?_⟩
  unfold eOr at P
  cases em : ma ρ μ with
  | none => rw [em] at P; exact P.elim
  | some q =>
    rw [em] at P
    obtain ⟨dq, μq⟩ := q
    cases dq with
    | bl k =>
      intro v al' H' N S' r
      cases r
      refine ⟨k, rfl, ?_⟩
      cases k with
      | true => exact P _ al' H' N S' (.bl _)
      | false => exact ⟨al', μq, ρ, S', F.mono N S, Post.rebase N P⟩
    | _ => exact P.elim
theorem tI_not {σ : L2.St} {H : Hp} {Q : VK} {K : PySem.W.Frag} (h : tI K (eNot ma) σ H Q) : tNotV (tI K ma) σ H Q := by
  obtain ⟨al, μ, ρ, S, F, P⟩ := one_of h
  refine ⟨al, μ, ρ, S, F, P.imp fun x H1 ⟨al1, μ1, dx, S1, r1, P1⟩ => ?_⟩
  cases dx with
  | bl k =>
    cases r1
    exact ⟨k, rfl, P1.now S1 (.bl _)⟩
  | _ => exact P1.elim
theorem se_not (ha : PE X a (tI X.K ma)) : PE X (.UnaryOp .Not a pos) (tI X.K (eNot ma)) := (pe_not ha).imp fun _ _ _ h => tI_not h
theorem st_not (ha : PT X a (tTb X.K ma)) : PT X (.UnaryOp .Not a pos) (tTb X.K (eNot ma)) := (pt_not ha).imp fun _ _ _ h => tTb_not h
theorem se_if (ha : PT X a (tTb X.K ma)) (hb : PE X b (tI X.K mb)) (hc : PE X d (tI X.K mc)) : PE X (.IfExp a b d pos) (tI X.K (eIf ma mb mc)) := (pe_ifExp ha hb hc).imp fun _ _ _ h => tI_if h
/-! and, or of many -/
def boolM (op : BoolOp) : List ME → Option ME
  | [] => none
  | [a] => some a
  | a :: r => (boolM op r).map fun b => match op with
    | .And => eAnd a b
    | .Or => eOr a b
theorem se_bool {op : BoolOp} : ∀ {vs : List Expr} {ms : List ME} {m : ME}, Paired (fun (e : Expr) (m : ME) => PE X e (tI X.K m) ∧ PT X e (tTb X.K m)) vs ms → boolM op ms = some m → PE X (.BoolOp op vs pos) (tI X.K m) ∧ PW X (.BoolOp op vs pos) (tTb X.K m)
  | _, _, m, .nil, h => by cases h
  | _, _, m, .cons (l₁ := []) h1 .nil, h => by
    cases h
    refine ⟨pe_one h1.1, ?_⟩
    cases op with
    | And => exact pw_and1 h1.2
    | Or => exact pw_or1 h1.2
  | _, _, m, .cons (l₁ := _ :: _) (l₂ := _ :: _) h1 h2, h => by
    simp only [boolM, Option.map_eq_some_iff] at h
    obtain ⟨m2, e2, rfl⟩ := h
    have ih := se_bool h2 e2
    cases op with
    | And => exact ⟨(pe_and h1.1 ih.1).imp fun _ _ _ h => tI_and h, (pw_and h1.2 ih.2).imp fun _ _ _ h => tTb_and h⟩
    | Or => exact ⟨(pe_or h1.1 ih.1).imp fun _ _ _ h => tI_or h, (pw_or h1.2 ih.2).imp fun _ _ _ h => tTb_or h⟩
end
end G
set_option Elab.async false
set_option linter.all false
set_option maxRecDepth 100000
set_option maxHeartbeats 4000000
/-! G6: displays, slices, calls. -/
namespace G
open PySem L2
def lAll : List ME → MA
  | [] => lNil
  | a :: r => lCons a (lAll r)
def notStar : Expr → Bool
  | .Starred _ _ => false
  | _ => true
theorem star_ok {e : Expr} (h : notStar e = true) (es : List Expr) (env : Env) : starEach (e :: es) env = (false, eval e env) :: starEach es env := by
  cases e <;> first | rfl | (simp [notStar] at h)
theorem star_any : ∀ {es : List Expr}, es.all notStar = true → ∀ (pos : Pos) (env : Env), (backTo pos (starEach es env)).any (·.1) = false
  | [], _, _, _ => rfl
  | e :: es, h, pos, env => by
    simp only [List.all_cons, Bool.and_eq_true] at h
    rw [star_ok h.1]
    have ih := star_any h.2 pos env
    simp only [backTo, List.map_cons, List.any_cons] at ih ⊢
    rw [ih]
    rfl
theorem star_all : ∀ {es : List Expr}, es.all notStar = true → ∀ (pos : Pos) (env : Env), (backTo pos (starEach es env)).all (fun x => !x.1) = true
  | [], _, _, _ => rfl
  | e :: es, h, pos, env => by
    simp only [List.all_cons, Bool.and_eq_true] at h
    rw [star_ok h.1]
    have ih := star_all h.2 pos env
    simp only [backTo, List.map_cons, List.all_cons] at ih ⊢
    rw [ih]
    rfl
theorem star_len : ∀ {es : List Expr} (pos : Pos) (env : Env), (backTo pos (starEach es env)).length = es.length
  | [], _, _ => rfl
  | e :: es, pos, env => by
    have ih := star_len (es := es) pos env
    simp only [backTo, List.length_map] at ih ⊢
    cases e <;> simp only [starEach, List.length_cons, ih]
section
variable {X : Cx} {a b d e : Expr} {es : List Expr} {pos p : Pos} {ma mb mc : ME} {mas : MA}
theorem sa_nil : PA X [] (tL X.K lNil) := pa_nil.imp fun σ H Q ⟨al, μ, ρ, S, F, P⟩ => P.now S .nil
theorem sa_cons (ha : PE X e (tI X.K ma)) (hr : PA X es (tL X.K mas)) (hs : notStar e = true) : PA X (e :: es) (tL X.K (lCons ma mas)) :=
  (pa_cons ha hr (star_ok hs es X.env)).imp fun σ H Q ⟨al, μ, ρ, S, F, P⟩ => by
    refine ⟨al, μ, ρ, S, F, (Post.bind (Rp := Rep X.K) (f := fun dx μ1 => (mas ρ μ1).bind fun q => some (dx :: q.1, q.2)) P).imp fun x H1 ⟨al1, μ1, dx, N1, S1, r1, P1⟩ => ?_⟩
    refine ⟨al1, μ1, ρ, S1, F.mono N1 S, (Post.bind (Rp := RepL X.K) (f := fun dy μ1 => some (dx :: dy, μ1)) P1).imp fun y H2 ⟨al2, μ2, dy, N2, S2, r2, P2⟩ => ?_⟩
    exact P2.now S2 (.cons (r1.mono' N2 S1) r2)
theorem sa_all : ∀ {es : List Expr} {ms : List ME}, Paired (fun (e : Expr) (m : ME) => PE X e (tI X.K m)) es ms → es.all notStar = true → PA X es (tL X.K (lAll ms))
  | _, _, .nil, _ => sa_nil
  | _, _, .cons h1 h2, h => by
    simp only [List.all_cons, Bool.and_eq_true] at h
    exact sa_cons h1 (sa_all h2 h.2) h.1
theorem list_of {σ : L2.St} {H : Hp} {Q : VK} {K : PySem.W.Frag} {f : List D → Mu → R D} (h : tI K (eL f mas) σ H Q) : tL K mas σ H (fun xs H1 => rLs K f xs H1 Q) := by
  obtain ⟨al, μ, ρ, S, F, P⟩ := h
  exact ⟨al, μ, ρ, S, F, (Post.bind (Rp := RepL K) (f := fun dx μ1 => f dx μ1) P).imp fun x H1 ⟨al1, μ1, dx, N1, S1, r1, P1⟩ => ⟨al1, μ1, dx, S1, r1, P1⟩⟩
theorem se_tup {k : Nat} (h : PA X es (tL X.K mas)) : PE X (.Tuple es k pos) (tI X.K (eL tupD mas)) := (pe_tup h).imp fun σ H Q q => by
  obtain ⟨al, μ, ρ, S, F, P⟩ := list_of q
  refine ⟨al, μ, ρ, S, F, P.imp fun xs H1 ⟨al1, μ1, ds, S1, r1, P1⟩ => ?_⟩
  unfold tupD at P1
  split at P1
  · rename_i hl
    exact ⟨by rw [r1.length]; exact hl, fresh_tup S1 P1 r1⟩
  · exact P1.elim
theorem se_fl (h : PA X es (tL X.K mas)) : PE X (.List es pos) (tI X.K (eL flD mas)) := (pe_lst h).imp fun σ H Q q => by
  obtain ⟨al, μ, ρ, S, F, P⟩ := list_of q
  refine ⟨al, μ, ρ, S, F, P.imp fun xs H1 ⟨al1, μ1, ds, S1, r1, P1⟩ => ?_⟩
  unfold flD at P1
  split at P1
  · rename_i hl
    exact ⟨by rw [r1.length]; exact hl, fresh_fl S1 P1 r1⟩
  · exact P1.elim
theorem fresh_new {K : PySem.W.Frag} {al : List Addr} {μ : Mu} {H : Hp} {Q : VK} {ds : List D} {xs : List HV} (S : Sim K al μ H) (P : Post K (Rep K) al H Q (some (.ref μ.length, μ ++ [.lst ds]))) (r : RepL K al H xs ds) : ∀ p, H p = none → Q (.ref p) (upd H p (.lst xs)) := fun p hp =>
  P _ (al ++ [p]) _ (Nxt.push S hp _) (S.push hp r) (.ref (by rw [← S.len]; simp))
theorem se_new (h : PA X es (tL X.K mas)) : PE X (.List es pos) (tI X.K (eL newD mas)) := (pe_lst h).imp fun σ H Q q => by
  obtain ⟨al, μ, ρ, S, F, P⟩ := list_of q
  refine ⟨al, μ, ρ, S, F, P.imp fun xs H1 ⟨al1, μ1, ds, S1, r1, P1⟩ => ?_⟩
  unfold newD at P1
  split at P1
  · rename_i hl
    exact ⟨by rw [r1.length]; exact hl, fresh_new S1 P1 r1⟩
  · exact P1.elim
/-! subscripts -/
theorem se_ix (ha : PE X a (tI X.K ma)) (hb : PE X b (tI X.K mb)) (hs : PlainIx b) : PE X (.Subscript a b pos) (tI X.K (e2 ixD ma mb)) := (pe_ix xr_ix ha hb hs).imp fun _ _ _ h => two_of h
def wholeD (n : Nat) (lo hi : Option Int) : Bool := decide (_root_.HT.sIx n 0 lo = 0 ∧ _root_.HT.sIx n n hi = n)
def slD (lo hi : Option Int) (x : D) (μ : Mu) : R D := match x with
  | .str z => if z.length ≤ sizeLine then some (.str (cutS z lo hi), μ) else none
  | .tup ds => if wholeD ds.length lo hi then none else some (.tup (cutD ds lo hi), μ)
  | x => (itemsOf μ x).bind fun ds => some (.fl (cutD ds lo hi), μ)
abbrev MO := Fr → Mu → R (Option Int)
def oNone : MO := fun _ μ => some (none, μ)
def oSome (m : ME) : MO := fun ρ μ => (m ρ μ).bind fun p => match p.1 with
  | .int i => some (some i, p.2)
  | _ => none
def eSl (a : ME) (lo hi : MO) : ME := fun ρ μ => (a ρ μ).bind fun p => (lo ρ p.2).bind fun l => (hi ρ l.2).bind fun h => slD l.1 h.1 p.1 h.2
abbrev tO (K : PySem.W.Frag) (m : MO) : TO := tG K (fun _ _ (o o' : Option Int) => o = o') m
theorem so_none : PO X none (tO X.K oNone) := ⟨fun pins s σ H Q I ⟨al, μ, ρ, S, F, P⟩ => po_none.run pins s σ H Q I (P.now S rfl)⟩
theorem so_some (h : PE X e (tI X.K ma)) : PO X (some e) (tO X.K (oSome ma)) := ⟨fun pins s σ H Q I ⟨al, μ, ρ, S, F, P⟩ => (po_some h).run pins s σ H Q I (by
  refine ⟨al, μ, ρ, S, F, ?_⟩
  have P : Post X.K (fun _ _ (o o' : Option Int) => o = o') al H Q ((ma ρ μ).bind fun p => match p.1 with
    | .int i => some (some i, p.2)
    | _ => none) := P
  cases em : ma ρ μ with
  | none => rw [em] at P; exact P.elim
  | some q =>
    rw [em] at P
    obtain ⟨dq, μq⟩ := q
    cases dq with
    | int i =>
      intro v al' H' N S' r
      cases r
      exact ⟨i, rfl, P _ al' H' N S' rfl⟩
    | _ => exact P.elim)⟩
theorem sl_all : SlR X (fun x lo hi H Q => ∃ al μ dx, Sim X.K al μ H ∧ Rep X.K al H x dx ∧ Post X.K (Rep X.K) al H Q (slD lo hi dx μ)) := by
  intro pins s σ H x v vl vu lo hi sl Q I rx hs pl pu hh
  obtain ⟨al, μ, dx, S, hx, P⟩ := hh
  unfold slD at P
  split at P
  · cases hx
    split at P
    · rename_i hl
      exact sl_str pins s σ H _ v vl vu lo hi sl Q I rx hs pl pu ⟨_, rfl, hl, P.now S (.str _)⟩
    · exact P.elim
  · cases hx with
    | tup h1 r1 =>
      split at P
      · exact P.elim
      · rename_i hw
        refine sl_tup pins s σ H _ v vl vu lo hi sl Q I rx hs pl pu ⟨_, _, rfl, h1, ?_, fresh_tup S P (r1.cut lo hi)⟩
        rw [r1.length]
        simpa [wholeD] using hw
  · rename_i hz ht
    cases hi2 : itemsOf μ dx with
    | none => rw [hi2] at P; exact P.elim
    | some ds =>
      rw [hi2] at P
      obtain ⟨a, xs, rfl, r, z⟩ := items_of S hx hi2
      rcases z with ⟨z, _⟩ | ⟨_, z⟩
      · exact sl_list pins s σ H _ v vl vu lo hi sl Q I rx hs pl pu ⟨a, xs, rfl, z, fresh_fl S P (r.cut lo hi)⟩
      · exact (ht _ z).elim
theorem se_slice {lo hi : Option Expr} {ml mh : MO} {p2 : Pos} (he : PE X e (tI X.K ma)) (hl : PO X lo (tO X.K ml)) (hh : PO X hi (tO X.K mh)) : PE X (.Subscript e (.Slice lo hi none p2) pos) (tI X.K (eSl ma ml mh)) :=
  (pe_slice sl_all he hl hh).imp fun σ H Q ⟨al, μ, ρ, S, F, P⟩ => by
    refine ⟨al, μ, ρ, S, F, (Post.bind (Rp := Rep X.K) (f := fun dx μ1 => (ml ρ μ1).bind fun l => (mh ρ l.2).bind fun h => slD l.1 h.1 dx h.2) P).imp fun x H1 ⟨al1, μ1, dx, N1, S1, r1, P1⟩ => ?_⟩
    have F1 := F.mono N1 S
    refine ⟨al1, μ1, ρ, S1, F1, (Post.bind (Rp := fun _ _ (o o' : Option Int) => o = o') (f := fun l μ2 => (mh ρ μ2).bind fun h => slD l h.1 dx h.2) P1).imp fun y H2 ⟨al2, μ2, dl, N2, S2, r2, P2⟩ => ?_⟩
    subst r2
    refine ⟨al2, μ2, ρ, S2, F1.mono N2 S1, (Post.bind (Rp := fun _ _ (o o' : Option Int) => o = o') (f := fun h μ3 => slD y h dx μ3) P2).imp fun z H3 ⟨al3, μ3, dh, N3, S3, r3, P3⟩ => ?_⟩
    subst r3
    exact ⟨al3, μ3, dx, S3, (r1.mono' N2 S1).mono' N3 S2, P3⟩
def revD (x : D) (μ : Mu) : R D := match x with
  | .tup _ => none
  | x => (itemsOf μ x).bind fun ds => some (.fl ds.reverse, μ)
theorem RepL.rev {K : PySem.W.Frag} {al : List Addr} {H : Hp} : ∀ {ds : List D} {vs : List HV}, RepL K al H vs ds → RepL K al H vs.reverse ds.reverse
  | [], _, h => by cases h; exact .nil
  | d :: ds, _, h => by
    cases h with
    | cons h1 h2 =>
      rw [List.reverse_cons, List.reverse_cons]
      exact (RepL.rev h2).append (.cons h1 .nil)
theorem se_rev {k : Nat} {p1 p2 p3 : Pos} (he : PE X e (tI X.K ma)) : PE X (.Subscript e (.Slice none none (some (.UnaryOp .USub (.Constant (.int 1) k p1) p2)) p3) pos) (tI X.K (e1 revD ma)) :=
  (pe_revL he).imp fun σ H Q h => by
    obtain ⟨al, μ, ρ, S, F, P⟩ := one_of h
    refine ⟨al, μ, ρ, S, F, P.imp fun x H1 ⟨al1, μ1, dx, S1, r1, P1⟩ => ?_⟩
    unfold revD at P1
    split at P1
    · exact P1.elim
    · rename_i hn
      cases hi2 : itemsOf μ1 dx with
      | none => rw [hi2] at P1; exact P1.elim
      | some ds =>
        rw [hi2] at P1
        obtain ⟨a, xs, rfl, r, z⟩ := items_of S1 r1 hi2
        rcases z with ⟨z, _⟩ | ⟨_, z⟩
        · exact ⟨a, xs, rfl, z, fresh_fl S1 P1 r.rev⟩
        · exact (hn _ z).elim
end
/-! ### built-ins by values -/
def lenD (ds : List D) (μ : Mu) : R D := match ds with
  | [.str z] => if z.length ≤ sizeLine then some (.int z.length, μ) else none
  | [x] => (itemsOf μ x).bind fun ys => some (.int ys.length, μ)
  | _ => none
def absD (ds : List D) (μ : Mu) : R D := match ds with
  | [.int i] => some (.int (if i < 0 then -i else i), μ)
  | _ => none
def intD (ds : List D) (μ : Mu) : R D := match ds with
  | [.int i] => some (.int i, μ)
  | [.bl k] => some (.int (if k then 1 else 0), μ)
  | _ => none
def maxD (ds : List D) (μ : Mu) : R D := match ds with
  | [.int i, .int j] => some (.int (if j > i then j else i), μ)
  | _ => none
def minD (ds : List D) (μ : Mu) : R D := match ds with
  | [.int i, .int j] => some (.int (if j < i then j else i), μ)
  | _ => none
def ordD (ds : List D) (μ : Mu) : R D := match ds with
  | [.str z] => if z.length = 1 then some (.int (z.cps.getD 0 0 : Nat), μ) else none
  | _ => none
def tupleD (ds : List D) (μ : Mu) : R D := match ds with
  | [.tup es] => some (.tup es, μ)
  | [x] => (itemsOf μ x).bind fun ys => some (.tup ys, μ)
  | _ => none
def listD (ds : List D) (μ : Mu) : R D := match ds with
  | [x] => (itemsOf μ x).bind fun ys => some (.fl ys, μ)
  | _ => none
def listNewD (ds : List D) (μ : Mu) : R D := match ds with
  | [x] => (itemsOf μ x).bind fun ys => some (.ref μ.length, μ ++ [.lst ys])
  | _ => none
def intOf : D → Option Int
  | .int i => some i
  | _ => none
def blOf : D → Option Bool
  | .bl i => some i
  | _ => none
def sumD (ds : List D) (μ : Mu) : R D := match ds with
  | [.tup _] => none
  | [x] => (itemsOf μ x).bind fun ys => (mapO intOf ys).bind fun ns => some (.int ns.sum, μ)
  | _ => none
def allD (ds : List D) (μ : Mu) : R D := match ds with
  | [.tup _] => none
  | [x] => (itemsOf μ x).bind fun ys => (mapO blOf ys).bind fun ns => some (.bl (ns.all id), μ)
  | _ => none
def anyD (ds : List D) (μ : Mu) : R D := match ds with
  | [.tup _] => none
  | [x] => (itemsOf μ x).bind fun ys => (mapO blOf ys).bind fun ns => some (.bl (ns.any id), μ)
  | _ => none
section
variable {K : PySem.W.Frag} {al : List Addr} {H : Hp}
theorem mapO_ints : ∀ {ds : List D} {vs : List HV} {ns : List Int}, RepL K al H vs ds → mapO intOf ds = some ns → vs = ns.map V.int
  | [], _, _, h, e => by
    cases h
    cases e
    rfl
  | d :: ds, _, _, h, e => by
    cases h with
    | cons h1 h2 =>
      unfold mapO at e
      cases q : intOf d with
      | none => rw [q] at e; cases e
      | some p =>
        rw [q] at e
        cases q2 : mapO intOf ds with
        | none => rw [q2] at e; cases e
        | some ps =>
          rw [q2] at e
          cases e
          have ih := mapO_ints h2 q2
          subst ih
          cases d <;> simp [intOf] at q
          subst q
          cases h1
          rfl
theorem mapO_bls : ∀ {ds : List D} {vs : List HV} {ns : List Bool}, RepL K al H vs ds → mapO blOf ds = some ns → vs = ns.map V.bl
  | [], _, _, h, e => by
    cases h
    cases e
    rfl
  | d :: ds, _, _, h, e => by
    cases h with
    | cons h1 h2 =>
      unfold mapO at e
      cases q : blOf d with
      | none => rw [q] at e; cases e
      | some p =>
        rw [q] at e
        cases q2 : mapO blOf ds with
        | none => rw [q2] at e; cases e
        | some ps =>
          rw [q2] at e
          cases e
          have ih := mapO_bls h2 q2
          subst ih
          cases d <;> simp [blOf] at q
          subst q
          cases h1
          rfl
theorem RepL.one {vs : List HV} {d : D} (h : RepL K al H vs [d]) : ∃ v, vs = [v] ∧ Rep K al H v d := by
  cases h with
  | cons h1 h2 => cases h2; exact ⟨_, rfl, h1⟩
theorem RepL.two {vs : List HV} {d e : D} (h : RepL K al H vs [d, e]) : ∃ v w, vs = [v, w] ∧ Rep K al H v d ∧ Rep K al H w e := by
  cases h with
  | cons h1 h2 =>
    obtain ⟨w, rfl, r⟩ := h2.one
    exact ⟨_, w, rfl, h1, r⟩
end
section
variable {X : Cx}
theorem bi_len : CallR X (.builtin "len") (rLs X.K lenD) := by
  intro pins s σ H xs us Q I r hh
  obtain ⟨al, μ, ds, S, hx, P⟩ := hh
  unfold lenD at P
  split at P
  · obtain ⟨v, rfl, r1⟩ := hx.one
    cases r1
    split at P
    · rename_i hl
      exact call_len_str pins s σ H _ us Q I r ⟨_, rfl, hl, P.now S (.int _)⟩
    · exact P.elim
  · obtain ⟨v, rfl, r1⟩ := hx.one
    cases hi2 : itemsOf μ _ with
    | none => rw [hi2] at P; exact P.elim
    | some ys =>
      rw [hi2] at P
      obtain ⟨a, ws, rfl, r2, z⟩ := items_of S r1 hi2
      refine call_len_seq pins s σ H _ us Q I r ⟨a, ws, rfl, z.imp (·.1) (·.1), ?_⟩
      rw [r2.length]
      exact P.now S (.int _)
  · exact P.elim
theorem bi_abs : CallR X (.builtin "abs") (rLs X.K absD) := by
  intro pins s σ H xs us Q I r hh
  obtain ⟨al, μ, ds, S, hx, P⟩ := hh
  unfold absD at P
  split at P
  · obtain ⟨v, rfl, r1⟩ := hx.one
    cases r1
    exact call_abs pins s σ H _ us Q I r ⟨_, rfl, P.now S (.int _)⟩
  · exact P.elim
theorem bi_int : CallR X (.type "int") (rLs X.K intD) := by
  intro pins s σ H xs us Q I r hh
  obtain ⟨al, μ, ds, S, hx, P⟩ := hh
  unfold intD at P
  split at P
  · obtain ⟨v, rfl, r1⟩ := hx.one
    cases r1
    exact call_int1 pins s σ H _ us Q I r (.inl ⟨_, rfl, P.now S (.int _)⟩)
  · obtain ⟨v, rfl, r1⟩ := hx.one
    cases r1
    exact call_int1 pins s σ H _ us Q I r (.inr ⟨_, rfl, P.now S (.int _)⟩)
  · exact P.elim
theorem bi_max (hc : X.calm = true) : CallR X (.builtin "max") (rLs X.K maxD) := by
  intro pins s σ H xs us Q I r hh
  obtain ⟨al, μ, ds, S, hx, P⟩ := hh
  unfold maxD at P
  split at P
  · obtain ⟨v, w, rfl, r1, r2⟩ := hx.two
    cases r1; cases r2
    exact call_max2 hc pins s σ H _ us Q I r ⟨_, _, rfl, P.now S (.int _)⟩
  · exact P.elim
theorem bi_min (hc : X.calm = true) : CallR X (.builtin "min") (rLs X.K minD) := by
  intro pins s σ H xs us Q I r hh
  obtain ⟨al, μ, ds, S, hx, P⟩ := hh
  unfold minD at P
  split at P
  · obtain ⟨v, w, rfl, r1, r2⟩ := hx.two
    cases r1; cases r2
    exact call_min2 hc pins s σ H _ us Q I r ⟨_, _, rfl, P.now S (.int _)⟩
  · exact P.elim
theorem bi_ord : CallR X (.builtin "ord") (rLs X.K ordD) := by
  intro pins s σ H xs us Q I r hh
  obtain ⟨al, μ, ds, S, hx, P⟩ := hh
  unfold ordD at P
  split at P
  · obtain ⟨v, rfl, r1⟩ := hx.one
    cases r1
    split at P
    · rename_i hl
      exact call_ord pins s σ H _ us Q I r ⟨_, rfl, hl, P.now S (.int _)⟩
    · exact P.elim
  · exact P.elim
theorem bi_tuple : CallR X (.type "tuple") (rLs X.K tupleD) := by
  intro pins s σ H xs us Q I r hh
  obtain ⟨al, μ, ds, S, hx, P⟩ := hh
  unfold tupleD at P
  split at P
  · obtain ⟨v, rfl, r1⟩ := hx.one
    cases r1 with
    | tup h1 h2 => exact call_tuple_of pins s σ H _ us Q I r ⟨_, _, rfl, .inr ⟨h1, P.now S (.tup h1 h2)⟩⟩
  · rename_i hn
    obtain ⟨v, rfl, r1⟩ := hx.one
    cases hi2 : itemsOf μ _ with
    | none => rw [hi2] at P; exact P.elim
    | some ys =>
      rw [hi2] at P
      obtain ⟨a, ws, rfl, r2, z⟩ := items_of S r1 hi2
      rcases z with ⟨z, _⟩ | ⟨_, z⟩
      · exact call_tuple_of pins s σ H _ us Q I r ⟨a, ws, rfl, .inl ⟨z, fresh_tup S P r2⟩⟩
      · exact (hn _ z).elim
  · exact P.elim
theorem bi_list : CallR X (.type "list") (rLs X.K listD) := by
  intro pins s σ H xs us Q I r hh
  obtain ⟨al, μ, ds, S, hx, P⟩ := hh
  unfold listD at P
  split at P
  · obtain ⟨v, rfl, r1⟩ := hx.one
    cases hi2 : itemsOf μ _ with
    | none => rw [hi2] at P; exact P.elim
    | some ys =>
      rw [hi2] at P
      obtain ⟨a, ws, rfl, r2, z⟩ := items_of S r1 hi2
      exact call_list_of pins s σ H _ us Q I r ⟨a, ws, rfl, z.imp (·.1) (·.1), fresh_fl S P r2⟩
  · exact P.elim
theorem bi_listNew : CallR X (.type "list") (rLs X.K listNewD) := by
  intro pins s σ H xs us Q I r hh
  obtain ⟨al, μ, ds, S, hx, P⟩ := hh
  unfold listNewD at P
  split at P
  · obtain ⟨v, rfl, r1⟩ := hx.one
    cases hi2 : itemsOf μ _ with
    | none => rw [hi2] at P; exact P.elim
    | some ys =>
      rw [hi2] at P
      obtain ⟨a, ws, rfl, r2, z⟩ := items_of S r1 hi2
      exact call_list_of pins s σ H _ us Q I r ⟨a, ws, rfl, z.imp (·.1) (·.1), fresh_new S P r2⟩
  · exact P.elim
/-- a list's items, where no tuple is meant -/
theorem lst_of {K : PySem.W.Frag} {al : List Addr} {μ : Mu} {H : Hp} {v : HV} {d : D} {ys : List D} (S : Sim K al μ H) (r : Rep K al H v d) (hn : ∀ es, d ≠ .tup es) (e : itemsOf μ d = some ys) : ∃ a ws, v = .ref a ∧ RepL K al H ws ys ∧ SqL K H a ws := by
  obtain ⟨a, ws, rfl, r2, z⟩ := items_of S r e
  rcases z with ⟨z, _⟩ | ⟨_, z⟩
  · exact ⟨a, ws, rfl, r2, z⟩
  · exact (hn _ z).elim
theorem bi_sum (hc : X.calm = true) : CallR X (.builtin "sum") (rLs X.K sumD) := by
  intro pins s σ H xs us Q I r hh
  obtain ⟨al, μ, ds, S, hx, P⟩ := hh
  unfold sumD at P
  split at P
  · exact P.elim
  · rename_i hn
    obtain ⟨v, rfl, r1⟩ := hx.one
    cases hi2 : itemsOf μ _ with
    | none => rw [hi2] at P; exact P.elim
    | some ys =>
      rw [hi2] at P
      simp only [Option.bind_some] at P
      cases hm : mapO intOf ys with
      | none => rw [hm] at P; exact P.elim
      | some ns =>
        rw [hm] at P
        obtain ⟨a, ws, rfl, r2, z⟩ := lst_of S r1 hn hi2
        have e := mapO_ints r2 hm
        subst e
        exact cr_sum hc pins s σ H _ us Q I r ⟨a, ns, rfl, z, P.now S (.int _)⟩
  · exact P.elim
theorem bi_all (hc : X.calm = true) : CallR X (.builtin "all") (rLs X.K allD) := by
  intro pins s σ H xs us Q I r hh
  obtain ⟨al, μ, ds, S, hx, P⟩ := hh
  unfold allD at P
  split at P
  · exact P.elim
  · rename_i hn
    obtain ⟨v, rfl, r1⟩ := hx.one
    cases hi2 : itemsOf μ _ with
    | none => rw [hi2] at P; exact P.elim
    | some ys =>
      rw [hi2] at P
      simp only [Option.bind_some] at P
      cases hm : mapO blOf ys with
      | none => rw [hm] at P; exact P.elim
      | some ns =>
        rw [hm] at P
        obtain ⟨a, ws, rfl, r2, z⟩ := lst_of S r1 hn hi2
        have e := mapO_bls r2 hm
        subst e
        exact cr_all hc pins s σ H _ us Q I r ⟨a, ns, rfl, z, P.now S (.bl _)⟩
  · exact P.elim
theorem bi_any (hc : X.calm = true) : CallR X (.builtin "any") (rLs X.K anyD) := by
  intro pins s σ H xs us Q I r hh
  obtain ⟨al, μ, ds, S, hx, P⟩ := hh
  unfold anyD at P
  split at P
  · exact P.elim
  · rename_i hn
    obtain ⟨v, rfl, r1⟩ := hx.one
    cases hi2 : itemsOf μ _ with
    | none => rw [hi2] at P; exact P.elim
    | some ys =>
      rw [hi2] at P
      simp only [Option.bind_some] at P
      cases hm : mapO blOf ys with
      | none => rw [hm] at P; exact P.elim
      | some ns =>
        rw [hm] at P
        obtain ⟨a, ws, rfl, r2, z⟩ := lst_of S r1 hn hi2
        have e := mapO_bls r2 hm
        subst e
        exact cr_any hc pins s σ H _ us Q I r ⟨a, ns, rfl, z, P.now S (.bl _)⟩
  · exact P.elim
end
end G
set_option Elab.async false
set_option linter.all false
set_option maxRecDepth 100000
set_option maxHeartbeats 4000000
/-! S1: sets of things of a kind that stands at places of the heap (tuples of ints and texts, tuples of such), made of a list: what the table tells. -/
namespace SZ
open PySem PySem.Spec PyProof.Rows L2
/-- a kind of hashable thing at a place -/
structure SK (P : Program) (w : World) (κ : Type) [DecidableEq κ] where
  is : Heap → κ → Addr → Prop
  hash : κ → Int
  draws : κ → Nat
  byv : κ → Bool
  inj : ∀ {h a x y}, is h x a → is h y a → x = y
  same : ∀ {h h' : Heap} {k a b} {o : Obj} {es ep t}, is h k b → h.get? a = some o → o.data = .set es ep t → Heap.SameBut a h h' → is h' k b
  keep : ∀ {h h' : Heap} {k b}, is h k b → (∀ c o, h.get? c = some o → h'.get? c = some o) → is h' k b
  pyHash : ∀ {A : Around} {E : Value → Shared → Prop} {s : Shared} {k a} {Q : Int → Shared → Prop}, A.units < cLine → is s.heap k a → Q (hash k) { s with toks := s.toks + draws k } → wpAny (model P w) A (PySem.pyHash (.ref a)) Q E s
  eqBool : ∀ {A : Around} {E : Value → Shared → Prop} {s : Shared} {x y a b} {Q : Bool → Shared → Prop}, A.units < cLine → is s.heap x a → is s.heap y b → Q (decide (x = y)) s → wpAny (model P w) A (PySem.eqBool (.ref a) (.ref b)) Q E s
  quiet : ∀ {A : Around} {E : Value → Shared → Prop} {s : Shared} {k a} {Q : Bool → Shared → Prop}, is s.heap k a → Q true s → wpAny (model P w) A (eqIsQuiet 8 (.ref a)) Q E s
  cls : ∀ {A : Around} {E : Value → Shared → Prop} {s : Shared} {k a} {Q : Bool → Shared → Prop}, is s.heap k a → Q false s → wpAny (model P w) A (ofAClassStatement 8 (.ref a)) Q E s
  byvOk : ∀ {A : Around} {E : Value → Shared → Prop} {s : Shared} {k a} {Q : Bool → Shared → Prop}, is s.heap k a → Q (byv k) s → wpAny (model P w) A (hashByValue 8 (.ref a)) Q E s

/-- the c-th state of a search -/
abbrev pr (m : Nat) (h : Int) (c : Nat) : SetTable.Probe := nth m (runAt m (SetTable.bits h % (m + 1)) (SetTable.bits h)) c
theorem pr_add (m : Nat) (h : Int) (c q : Nat) : nth m (pr m h c) q = pr m h (c + q) := (nth_add m c _ q).symm
theorem pr_dummy (m : Nat) (h : Int) : ∀ c, (pr m h c).dummy = none
  | 0 => rfl
  | c + 1 => by
    show (nth m _ (c + 1)).dummy = none
    rw [nth_succ]
    have ih := pr_dummy m h c
    unfold adv
    split <;> exact ih

section
variable {P : Program} {w : World} {κ : Type} [DecidableEq κ] {𝒦 : SK P w κ} {A : Around} {E : Value → Shared → Prop} {s : Shared}
variable {a : Addr} {L : List (Addr × κ)} {es : Array (Int × Value)} {ep : Nat} {t : SetTable}
def row (𝒦 : SK P w κ) (q : Addr × κ) : Int × Value := (𝒦.hash q.2, .ref q.1)
/-- at a stands a set of just L, in the order of its table -/
structure Z (𝒦 : SK P w κ) (h : Heap) (a : Addr) (L : List (Addr × κ)) (es : Array (Int × Value)) (ep : Nat) (t : SetTable) : Prop where
  ob : ∃ o, h.get? a = some o ∧ o.ExactSet ∧ o.data = .set es ep t
  rows : es.toList = L.map (row 𝒦)
  tab : TabOk t (L.map fun q => 𝒦.hash q.2)
  nd : (L.map (·.2)).Nodup
  isk : ∀ q ∈ L, 𝒦.is h q.2 q.1
  led : w.params.followText "set-order" = true ∨ t.led = true
  room : L.length * 5 < t.mask * 3
  few : L.length < 64
theorem size_rows (h : es.toList = L.map (row 𝒦)) : es.size = L.length := by
  rw [← Array.length_toList, h, List.length_map]
theorem at_rows (h : es.toList = L.map (row 𝒦)) {i : Nat} {q : Addr × κ} (e : L[i]? = some q) : es[i]? = some (𝒦.hash q.2, Value.ref q.1) := by
  rw [← Array.getElem?_toList, h, List.getElem?_map, e]
  rfl
theorem Z.size (R : Z 𝒦 s.heap a L es ep t) : es.size = L.length := size_rows R.rows
theorem fits_of {n : Nat} {hs : List Int} (T : TabOk t hs) (h1 : hs.length = n) (h2 : n ≤ t.mask) : t.fits n = true := by
  have := T.sz
  simp only [SetTable.fits, SetTable.fill, T.dm, Bool.and_eq_true, beq_iff_eq, decide_eq_true_eq, List.size_toArray, List.length_nil]
  omega
theorem Z.fits (R : Z 𝒦 s.heap a L es ep t) : t.fits es.size = true :=
  fits_of R.tab (by rw [List.length_map, R.size]) (by have := R.room; have := R.size; omega)
theorem Z.gw (R : Z 𝒦 s.heap a L es ep t) : t.gaveWay = false := by
  unfold SetTable.gaveWay
  rw [mask_odd R.tab.mok]
  rfl
theorem Z.keep {h h' : Heap} (R : Z 𝒦 h a L es ep t) (ha : ∀ o, h.get? a = some o → h'.get? a = some o) (hk : ∀ q ∈ L, 𝒦.is h' q.2 q.1) : Z 𝒦 h' a L es ep t :=
  let ⟨o, ho, r⟩ := R.ob
  ⟨⟨o, ha o ho, r⟩, R.rows, R.tab, R.nd, hk, R.led, R.room, R.few⟩

/-- the search shows nothing of the table -/
theorem unseen {k : κ} {x : Addr} {Q : Bool → Shared → Prop} (hx : 𝒦.is s.heap k x) {ys : List Value} (hy : ∀ y ∈ ys, ∃ k' b, y = Value.ref b ∧ 𝒦.is s.heap k' b) (h : Q false s) : wpAny (model P w) A (searchCouldBeSeen (.ref x) ys) Q E s := by
  unfold searchCouldBeSeen
  refine wpAny_bind (wpAny_forIn_list _ (fun rest r s' => (r.1 = none ∧ s' = s) ∧ ∀ y ∈ rest, ∃ k' b, y = Value.ref b ∧ 𝒦.is s.heap k' b) _ ?_ ?_ _ _ ⟨⟨rfl, rfl⟩, hy⟩)
  · rintro v rest r s' ⟨⟨hr, rfl⟩, hall⟩
    obtain ⟨k', b, rfl, hb⟩ := hall v (List.mem_cons_self ..)
    have tl := fun u hu => hall u (List.mem_cons_of_mem _ hu)
    dsimp only
    split
    · exact wpAny_pure ⟨⟨rfl, rfl⟩, tl⟩
    · refine wpAny_bind (𝒦.quiet hx ?_)
      simp only [Bool.not_true, Bool.false_eq_true, if_false]
      refine wpAny_bind (𝒦.quiet hb ?_)
      simp only [Bool.not_true, Bool.false_eq_true, if_false]
      refine wpAny_bind (𝒦.cls hx ?_)
      simp only [Bool.false_eq_true, if_false]
      refine wpAny_bind (𝒦.cls hb ?_)
      simp only [Bool.false_eq_true, if_false]
      exact wpAny_pure ⟨⟨rfl, rfl⟩, tl⟩
  · rintro ⟨r1, r2⟩ s' ⟨⟨hr, rfl⟩, _⟩
    cases hr
    exact wpAny_pure h

theorem find_from (R : Z 𝒦 s.heap a L es ep t) {x : Addr} {k : κ} (hx : 𝒦.is s.heap k x) (hu : A.units < cLine) {K : Nat} (hKf : K < 10 * SetTable.turns t.mask)
    (hK : way t.mask (𝒦.hash k) K ∉ t.place.toList) (hKb : ∀ c, c < K → way t.mask (𝒦.hash k) c ∈ t.place.toList) {Q : SetFound → Shared → Prop}
    (yes : k ∈ L.map (·.2) → Q (.there none) s) (no : k ∉ L.map (·.2) → Q (.free (way t.mask (𝒦.hash k) K) false) s) :
    ∀ (f c : Nat) (stand : Option SetTable.Probe), stand.getD (t.probeStart (𝒦.hash k)) = pr t.mask (𝒦.hash k) c → c ≤ K → K - c < f →
      (∀ (i : Nat) q, L[i]? = some q → q.2 = k → ∃ d, c ≤ d ∧ d < K ∧ t.place.toList[i]? = some (way t.mask (𝒦.hash k) d)) →
      wpAny (model P w) A (setSearchFrom a (.ref x) (𝒦.hash k) true f stand) Q E s := by
  obtain ⟨o, ho, hex, hd⟩ := R.ob
  generalize hh : 𝒦.hash k = h at *
  intro f
  induction f with
  | zero => intro c _ _ _ z; omega
  | succ f ih =>
    intro c stand hst hc hf ahead
    rw [setSearchFrom_succ]
    refine wpAny_bind (wpAny_setState_of ho hd R.fits ?_)
    dsimp only
    simp only [R.gw, Bool.false_eq_true, if_false]
    have jn : ∀ q, (nth t.mask (pr t.mask h c) q).j = way t.mask h (c + q) := fun q => congrArg SetTable.Probe.j (pr_add ..)
    have hashes : ∀ (i : Nat) q, L[i]? = some q → (es[i]?.map (·.1)).getD 0 = 𝒦.hash q.2 := fun i q e => by rw [at_rows R.rows e]; rfl
    have spec := go_spec t R.tab.ris R.tab.dm (fun i => (es[i]?.map (·.1)).getD 0) h (10 * SetTable.turns t.mask) (K - c) (pr t.mask h c) (pr_dummy ..) (by omega)
      (fun q hq => by rw [jn]; exact hKb _ (by omega)) (by rw [jn, Nat.add_sub_cancel' hc]; exact hK)
    have pe : t.probe (fun i => (es[i]?.map (·.1)).getD 0) h (stand.getD (t.probeStart h)) = SetTable.probe.go t (fun i => (es[i]?.map (·.1)).getD 0) h (10 * SetTable.turns t.mask) (pr t.mask h c) := by
      rw [hst]; rfl
    rcases spec with ⟨q, i, hq, hi, he, before, hp⟩ | ⟨none', hp⟩
    · rw [pe, hp, jn, pr_add]
      rw [jn] at hi
      dsimp only
      have hil : i < L.length := by
        have h1 := (List.getElem?_eq_some_iff.mp hi).1
        have h2 := R.tab.sz
        rw [List.length_map] at h2
        rw [Array.length_toList] at h1
        omega
      have hLi : L[i]? = some L[i] := List.getElem?_eq_getElem hil
      generalize L[i] = v at hLi
      have vm := List.mem_of_getElem? hLi
      have main : wpAny (model P w) A (searchRest a (.ref x) h true f es t (way t.mask h (c + q)) i (pr t.mask h (c + (q + 1)))) Q E s := by
        unfold searchRest
        rw [at_rows R.rows hLi]
        refine wpAny_bind (wpAny_holding (𝒦.eqBool hu (R.isk v vm) hx ?_))
        refine wpAny_bind (wpAny_setState_of ho hd R.fits ?_)
        dsimp only
        by_cases hv : v.2 = k
        · rw [decide_eq_true hv]
          exact wpAny_pure (yes (List.mem_map.mpr ⟨v, vm, hv⟩))
        · rw [decide_eq_false hv]
          have hl := slot_live R.tab.ris hi
          simp only [Bool.true_and, Bool.false_eq_true, if_false, sameMem, if_true, hl, at_rows R.rows hLi]
          refine wpAny_bind (wpAny_isSame_ref_self (wpAny_bind (wpAny_pure ?_)))
          simp only [if_true, Bool.false_eq_true, if_false]
          refine ih (c + (q + 1)) _ rfl (by omega) (by omega) fun j u hj hu2 => ?_
          obtain ⟨d, d1, d2, d3⟩ := ahead j u hj hu2
          refine ⟨d, ?_, d2, d3⟩
          by_cases z : d < c + q
          · exfalso
            refine before (d - c) j (by omega) (by rw [jn, Nat.add_sub_cancel' d1]; exact d3) ?_
            rw [hashes j u hj, hu2, hh]
          · by_cases y : d = c + q
            · exfalso
              subst y
              have := slot_live R.tab.ris d3
              rw [hl] at this
              cases this
              rw [hLi] at hj
              cases hj
              exact hv hu2
            · omega
      by_cases hl : t.led = true
      · simp only [hl, Bool.not_true, Bool.false_eq_true, if_false]
        exact main
      · simp only [Bool.not_eq_true] at hl
        simp only [hl, Bool.not_false, if_true]
        refine wpAny_bind (unseen hx (fun y hy => ?_) ?_)
        · obtain ⟨e, h1, rfl⟩ := List.mem_map.mp hy
          have h2 : e ∈ es.toList := by
            have := (show e ∈ es ∧ e.1 = h by simpa using h1).1
            simpa using this
          rw [R.rows] at h2
          obtain ⟨u, h3, rfl⟩ := List.mem_map.mp h2
          exact ⟨u.2, u.1, rfl, R.isk u h3⟩
        · simp only [Bool.false_eq_true, if_false]
          exact main
    · rw [pe, hp, jn, Nat.add_sub_cancel' hc]
      dsimp only
      refine wpAny_pure (no fun hm => ?_)
      obtain ⟨u, hu1, hu2⟩ := List.mem_map.mp hm
      obtain ⟨j, hj⟩ := List.mem_iff_getElem?.mp hu1
      obtain ⟨d, d1, d2, d3⟩ := ahead j u hj hu2
      refine none' (d - c) j (by omega) (by rw [jn, Nat.add_sub_cancel' d1]; exact d3) ?_
      rw [hashes j u hj, hu2, hh]

theorem find_at (R : Z 𝒦 s.heap a L es ep t) {x : Addr} {k : κ} (hx : 𝒦.is s.heap k x) (hu : A.units < cLine) {Q : SetFound → Shared → Prop} (yes : k ∈ L.map (·.2) → Q (.there none) s)
    (no : ∀ K, k ∉ L.map (·.2) → way t.mask (𝒦.hash k) K ∉ t.place.toList → (∀ c, c < K → way t.mask (𝒦.hash k) c ∈ t.place.toList) → Q (.free (way t.mask (𝒦.hash k) K) false) s) :
    wpAny (model P w) A (setSearch a (.ref x) (𝒦.hash k) true) Q E s := by
  have hroom := R.room
  obtain ⟨K, h1, h2, h3⟩ := R.tab.first (by rw [List.length_map]; omega) (𝒦.hash k)
  have small : 10 * SetTable.turns t.mask ≤ 100000 := by
    unfold SetTable.turns
    rcases R.tab.mok with e | e | e <;> rw [e] <;> omega
  unfold setSearch
  refine find_from R hx hu h1 h2 h3 yes (fun n => no K n h2 h3) 100000 0 none rfl (Nat.zero_le _) (by omega) fun i q hq hk => ?_
  have hh : (L.map fun q => 𝒦.hash q.2)[i]? = some (𝒦.hash k) := by rw [List.getElem?_map, hq, ← hk]; rfl
  have hl : i < t.place.toList.length := by
    have h4 := (List.getElem?_eq_some_iff.mp hq).1
    have h5 := R.tab.sz
    rw [List.length_map] at h5
    rw [Array.length_toList]
    omega
  obtain ⟨d, d1, d2⟩ := R.tab.before h2 hh (List.getElem?_eq_getElem hl)
  exact ⟨d, Nat.zero_le _, d1, by rw [List.getElem?_eq_getElem hl, d2]⟩
end
end SZ
set_option Elab.async false
set_option linter.all false
set_option maxRecDepth 100000
set_option maxHeartbeats 4000000
/-! S2: adding to a set; a set of a list's items. -/
namespace SZ
open PySem PySem.Spec PyProof.Rows L2
section
variable {P : Program} {w : World} {κ : Type} [DecidableEq κ] {𝒦 : SK P w κ} {A : Around} {E : Value → Shared → Prop} {s : Shared}
variable {a : Addr} {L : List (Addr × κ)} {es : Array (Int × Value)} {ep : Nat} {t : SetTable}
theorem filterMap_of {α β : Type} {f : α → Option β} {g : α → β} : ∀ {l : List α}, (∀ x ∈ l, f x = some (g x)) → l.filterMap f = l.map g
  | [], _ => rfl
  | x :: l, h => by
    rw [List.filterMap_cons_some (h x (List.mem_cons_self ..)), filterMap_of fun y hy => h y (List.mem_cons_of_mem _ hy)]
    rfl
theorem range_get : ∀ (L : List (Addr × κ)), (List.range L.length).filterMap (fun i => L[i]?) = L
  | [] => rfl
  | q :: L => by
    rw [List.length_cons, List.range_succ_eq_map, List.filterMap_cons_some (f := fun i => (q :: L)[i]?) (a := 0) (b := q) rfl, List.filterMap_map]
    have := range_get L
    simp only [Function.comp_def, Nat.succ_eq_add_one, List.getElem?_cons_succ]
    rw [this]
/-- the rows put in another order -/
theorem reorder (h : es.toList = L.map (row 𝒦)) {order : Array Nat} (hp : order.toList.Perm (List.range L.length)) :
    ∃ L2 : List (Addr × κ), (order.filterMap (es[·]?)).toList = L2.map (row 𝒦) ∧ L2.Perm L ∧ (L2.map fun q => 𝒦.hash q.2) = order.toList.map fun i => (es.map (·.1)).getD i 0 := by
  have hl : ∀ i ∈ order.toList, i < L.length := fun i hi => List.mem_range.mp (hp.mem_iff.mp hi)
  refine ⟨order.toList.filterMap (fun i => L[i]?), ?_, ?_, ?_⟩
  · have e1 : (order.filterMap (es[·]?)).toList = order.toList.filterMap (fun i => es[i]?) := by
      first
        | rw [Array.toList_filterMap]
        | simp
    rw [e1, List.map_filterMap]
    congr 1
    funext i
    rw [← Array.getElem?_toList, h, List.getElem?_map]
  · have := hp.filterMap (fun i => L[i]?)
    rwa [range_get] at this
  · rw [List.map_filterMap]
    refine filterMap_of fun i hi => ?_
    have e := List.getElem?_eq_getElem (hl i hi)
    rw [e]
    have e2 : (es.map (·.1))[i]? = some (𝒦.hash (L[i]'(hl i hi)).2) := by
      rw [Array.getElem?_map, at_rows h e]
      rfl
    simp [Array.getD_eq_getD_getElem?, e2]

/-- the table laid anew -/
theorem relay {o : Obj} (ho : s.heap.get? a = some o) (hex : o.ExactSet) (hd : o.data = .set es ep t) (rows : es.toList = L.map (row 𝒦)) (T : TabOk t (L.map fun q => 𝒦.hash q.2)) (hfull : L.length ≤ t.mask)
    (nd : (L.map (·.2)).Nodup) (isk : ∀ q ∈ L, 𝒦.is s.heap q.2 q.1) (led : w.params.followText "set-order" = true ∨ t.led = true) (few : L.length < 64) {wanted M : Nat}
    (hw : SetTable.sizeAbove wanted = M + 1) (hM : MaskOk M) (hn : L.length * 5 < M * 3) {Q : Unit → Shared → Prop}
    (hQ : ∀ h' L' es' ep' t', Heap.SameBut a s.heap h' → Z 𝒦 h' a L' es' ep' t' → L'.Perm L → Q () { s with heap := h' }) : wpAny (model P w) A (setRelay a wanted) Q E s := by
  have hsz := size_rows rows
  have hM2 : M ≤ 127 := by rcases hM with e | e | e <;> omega
  obtain ⟨t', order, e, hp, T', em, el, _, _⟩ := relaid_ok t (hs := es.map (·.1)) (wanted := wanted) (M := M) (by omega) hM (by rw [Array.size_map]; omega)
  rw [Array.size_map, hsz] at hp
  obtain ⟨L2, r1, r2, r3⟩ := reorder rows hp
  rw [← r3] at T'
  have hz2 : (order.filterMap (es[·]?)).size = es.size := by rw [size_rows r1, r2.length_eq, hsz]
  rw [setRelay_eq]
  refine wpAny_bind (wpAny_setState_of ho hd (fits_of T (by rw [List.length_map, hsz]) (by omega)) ?_)
  dsimp only
  refine wp_if_neg (by rw [hw, sizeLine_eq]; omega) ?_
  try refine wpAny_bind (wpAny_pure ?_)
  rw [e]
  dsimp only
  refine wpAny_bind ?_
  refine wp_if_neg (by rw [hz2]; simp) ?_
  try refine wpAny_bind (wpAny_pure ?_)
  refine wpAny_pure ?_
  dsimp only
  refine wpAny_storeSet_of ho hd ?_ (by rw [hz2, hsz, sizeLine_eq]; omega)
  have sb : Heap.SameBut a s.heap (s.heap.update a (Obj.putSet (order.filterMap (es[·]?)) t')) := Heap.SameBut.update ..
  exact hQ _ L2 _ (ep + 1) t' sb ⟨⟨_, store_at ho hd, ⟨hex.1, hex.2.1, hex.2.2⟩, rfl⟩, r1, T', (r2.map (·.2)).nodup_iff.mpr nd, fun q hq => 𝒦.same (isk q (r2.mem_iff.mp hq)) ho hd sb, by rw [el]; exact led,
    by rw [r2.length_eq, em]; exact hn, by rw [r2.length_eq]; exact few⟩ r2

theorem put_in {α : Type} (l : List α) (p : Nat) (x : α) : (l.take p ++ x :: l.drop p).Perm (x :: l) := by
  refine List.perm_middle.trans (.cons x ?_)
  rw [List.take_append_drop]
/-- one more -/
theorem add (R : Z 𝒦 s.heap a L es ep t) {x : Addr} {k : κ} (hx : 𝒦.is s.heap k x) (hu : A.units < cLine) (hfew : L.length + 1 < 64) {Q : Bool → Shared → Prop}
    (hQ : ∀ b h' L' es' ep' t', Heap.SameBut a s.heap h' → Z 𝒦 h' a L' es' ep' t' → (k ∈ L.map (·.2) → L' = L) → (k ∉ L.map (·.2) → L'.Perm ((x, k) :: L)) → Q b { s with heap := h' }) :
    wpAny (model P w) A (setAddHashed a (.ref x) (𝒦.hash k)) Q E s := by
  obtain ⟨o, ho, hex, hd⟩ := R.ob
  have hsl := R.size
  have hroom := R.room
  unfold setAddHashed
  refine wpAny_holding ?_
  rw [show (100000 : Nat) = 99999 + 1 from rfl, setAddHashedIn_succ]
  refine wpAny_bind (wpAny_setState_of ho hd R.fits ?_)
  dsimp only
  refine wp_if_neg (by simp [byScan, Value.scannable]) ?_
  try refine wpAny_bind (wpAny_pure ?_)
  refine wpAny_bind (find_at R hx hu (fun hm => ?_) fun K hm hK hb => ?_)
  · dsimp only
    exact wpAny_pure (hQ false s.heap L es ep t (Heap.SameBut.refl a s.heap) R (fun _ => rfl) fun z => absurd hm z)
  · dsimp only
    refine wpAny_bind (wpAny_setState_of ho hd R.fits ?_)
    dsimp only
    obtain ⟨q1, q2, q3, q4, q5, q6, q7, q8, q9⟩ := R.tab.put hK hb
    generalize hpt : t.put (way t.mask (𝒦.hash k) K) = pt at q1 q3 q4 q5 q6 q7 q8 q9 ⊢
    obtain ⟨t1, p⟩ := pt
    dsimp only at q1 q3 q4 q5 q6 q7 q8 q9 ⊢
    subst q1
    generalize hpp : SetTable.below t.place (way t.mask (𝒦.hash k) K) = p at q2 q3 ⊢
    -- what is laid, whatever is thought of the order
    have rest : ∀ t2 : SetTable, t2.place = t1.place → t2.dummies = t1.dummies → t2.mask = t1.mask → t2.led = t1.led →
        wpAny (model P w) A (storeSet a (SetTable.insertAt es p (𝒦.hash k, Value.ref x)) t2 >>= fun _ => (if (!false && t2.tooFull) = true then (setRelay a (SetTable.grown (es.size + 1)) >>= fun _ => pure true) else pure true)) Q E s := by
      intro t2 g1 g2 g3 g4
      have T2 : TabOk t2 ((L.take p ++ (x, k) :: L.drop p).map fun q => 𝒦.hash q.2) := by
        have e : (L.take p ++ (x, k) :: L.drop p).map (fun q => 𝒦.hash q.2) = (L.map fun q => 𝒦.hash q.2).take p ++ 𝒦.hash k :: (L.map fun q => 𝒦.hash q.2).drop p := by
          rw [List.map_append, List.map_cons, List.map_take, List.map_drop]
        rw [e]
        exact ⟨by rw [g1]; exact q3.ris, by rw [g2]; exact q3.dm, by rw [g1]; exact q3.sz, by rw [g3]; exact q3.mok, by rw [g1, g3]; exact q3.bd, by rw [g1, g3]; exact q3.reach⟩
      have rows : (SetTable.insertAt es p (𝒦.hash k, Value.ref x)).toList = (L.take p ++ (x, k) :: L.drop p).map (row 𝒦) := by
        rw [SetTable.toList_insertAt, R.rows, List.map_append, List.map_cons, List.map_take, List.map_drop]
        rfl
      have pm := put_in L p (x, k)
      have full : t2.tooFull = decide ((L.length + 1) * 5 ≥ t2.mask * 3) := by
        unfold SetTable.tooFull SetTable.fill
        have h1 : t1.fill = L.length + 1 := by rw [q9, List.length_map]
        unfold SetTable.fill at h1
        rw [g1, g2, h1]
      have hlen := pm.length_eq
      rw [List.length_cons] at hlen
      have nd : ((L.take p ++ (x, k) :: L.drop p).map (·.2)).Nodup := (pm.map (·.2)).nodup_iff.mpr (List.nodup_cons.mpr ⟨hm, R.nd⟩)
      have hes := size_rows rows
      generalize SetTable.insertAt es p (𝒦.hash k, Value.ref x) = es1 at rows hes ⊢
      generalize L.take p ++ (x, k) :: L.drop p = L1 at pm hlen T2 nd rows hes
      refine wpAny_bind (wpAny_storeSet_of ho hd ?_ (by rw [hes, sizeLine_eq]; omega))
      have sb : Heap.SameBut a s.heap (s.heap.update a (Obj.putSet es1 t2)) := Heap.SameBut.update ..
      have ho1 := store_at (es' := es1) (t' := t2) ho hd
      generalize s.heap.update a (Obj.putSet es1 t2) = h1 at sb ho1 ⊢
      have isk : ∀ q ∈ L1, 𝒦.is h1 q.2 q.1 := fun q hq => by
        rcases List.mem_cons.mp (pm.mem_iff.mp hq) with e | z
        · rw [e]; exact 𝒦.same hx ho hd sb
        · exact 𝒦.same (R.isk q z) ho hd sb
      have led : w.params.followText "set-order" = true ∨ t2.led = true := by rw [g4, q5]; exact R.led
      rw [q4] at g3
      have done : ∀ {h' L' es' ep' t'}, Heap.SameBut a s.heap h' → Z 𝒦 h' a L' es' ep' t' → L'.Perm L1 → Q true { s with heap := h' } := fun sb' R' pm' => hQ true _ _ _ _ _ sb' R' (fun z => absurd z hm) fun _ => pm'.trans pm
      by_cases hf : (L.length + 1) * 5 ≥ t2.mask * 3
      · have hft : (!false && t2.tooFull) = true := by rw [full, decide_eq_true hf]; rfl
        have grow : ∀ M, SetTable.sizeAbove (SetTable.grown (L.length + 1)) = M + 1 → MaskOk M → (L.length + 1) * 5 < M * 3 → L.length + 1 ≤ t.mask →
            wpAny (model P w) A (setRelay a (SetTable.grown (L.length + 1))) (fun _ s' => wpAny (model P w) A (pure true) Q E s') E { s with heap := h1 } := fun M m1 m2 m3 m4 =>
          relay (s := { s with heap := h1 }) ho1 ⟨hex.1, hex.2.1, hex.2.2⟩ rfl rows T2 (by rw [hlen, g3]; exact m4) nd isk led (by rw [hlen]; exact hfew) m1 m2 (by rw [hlen]; exact m3) fun h2 L2 es2 ep2 t3 sb2 R2 pm2 => wpAny_pure (done (sb.trans sb2) R2 pm2)
        rw [if_pos hft, hsl]
        refine wpAny_bind ?_
        rcases R.tab.mok with e | e | e
        · have : L.length = 4 := by omega
          rw [this]
          rw [this] at grow
          exact grow 31 size_20 (.inr (.inl rfl)) (by omega) (by omega)
        · have : L.length = 18 := by omega
          rw [this]
          rw [this] at grow
          exact grow 127 size_76 (.inr (.inr rfl)) (by omega) (by omega)
        · omega
      · have hft : ¬ (!false && t2.tooFull) = true := by rw [full, decide_eq_false hf]; decide
        rw [if_neg hft]
        exact wpAny_pure (done sb ⟨⟨_, ho1, ⟨hex.1, hex.2.1, hex.2.2⟩, rfl⟩, rows, T2, nd, isk, led, by rw [hlen]; omega, by rw [hlen]; exact hfew⟩ (List.Perm.refl _))
    have two : ∀ bv : Bool, wpAny (model P w) A (storeSet a (SetTable.insertAt es p (𝒦.hash k, Value.ref x)) (if bv = true then t1 else { t1 with plain := false }) >>= fun _ =>
        (if (!false && (if bv = true then t1 else { t1 with plain := false }).tooFull) = true then (setRelay a (SetTable.grown (es.size + 1)) >>= fun _ => pure true) else pure true)) Q E s := fun bv => by
      cases bv
      · exact rest { t1 with plain := false } rfl rfl rfl rfl
      · exact rest t1 rfl rfl rfl rfl
    by_cases hp1 : t1.plain = true
    · rw [if_pos hp1]
      exact wpAny_bind (𝒦.byvOk hx (two _))
    · rw [if_neg hp1]
      exact wpAny_bind (wpAny_pure (two true))
end
end SZ
set_option Elab.async false
set_option linter.all false
set_option maxRecDepth 100000
set_option maxHeartbeats 4000000
/-! S3: set(xs), and what is asked of it at once. -/
namespace SZ
open PySem PySem.Spec PyProof.Rows L2
section
variable {P : Program} {w : World} {κ : Type} [DecidableEq κ] {𝒦 : SK P w κ} {A : Around} {E : Value → Shared → Prop} {s : Shared}
/-- what the set holds of the first i items -/
structure Of (ks : List (Addr × κ)) (i : Nat) (L : List (Addr × κ)) : Prop where
  sub : ∀ q ∈ L, q ∈ ks.take i
  all : ∀ q ∈ ks.take i, q.2 ∈ L.map (·.2)
  len : L.length ≤ i
theorem take_one {α : Type} {l : List α} {i : Nat} {x : α} (h : l[i]? = some x) : l.take (i + 1) = l.take i ++ [x] := by
  rw [List.take_succ, h]; rfl
theorem Of.next {ks L L' : List (Addr × κ)} {i : Nat} {x : Addr × κ} (g : Of ks i L) (h : ks[i]? = some x) (c1 : x.2 ∈ L.map (·.2) → L' = L) (c2 : x.2 ∉ L.map (·.2) → L'.Perm (x :: L)) : Of ks (i + 1) L' := by
  have e := take_one h
  by_cases c : x.2 ∈ L.map (·.2)
  · cases c1 c
    refine ⟨fun q hq => by rw [e]; exact List.mem_append_left _ (g.sub q hq), fun q hq => ?_, Nat.le_succ_of_le g.len⟩
    rw [e] at hq
    rcases List.mem_append.mp hq with z | z
    · exact g.all q z
    · cases List.mem_singleton.mp z
      exact c
  · have pm := c2 c
    refine ⟨fun q hq => ?_, fun q hq => ?_, by rw [pm.length_eq]; exact Nat.succ_le_succ g.len⟩
    · rw [e]
      rcases List.mem_cons.mp (pm.mem_iff.mp hq) with z | z
      · exact List.mem_append_right _ (by rw [z]; exact List.mem_singleton.mpr rfl)
      · exact List.mem_append_left _ (g.sub q z)
    · rw [e] at hq
      rw [(pm.map (·.2)).mem_iff, List.map_cons]
      rcases List.mem_append.mp hq with z | z
      · exact List.mem_cons_of_mem _ (g.all q z)
      · cases List.mem_singleton.mp z
        exact List.mem_cons_self ..
theorem new_set {h : Heap} {a : Addr} (ho : h.get? a = some { cls := .type "set", dict := none, data := .set #[] 0 (.fresh 0 0 (!w.params.followText "set-order")) }) : Z 𝒦 h a [] #[] 0 (.fresh 0 0 (!w.params.followText "set-order")) where
  ob := ⟨_, ho, ⟨rfl, rfl, rfl⟩, rfl⟩
  rows := rfl
  tab := ⟨List.Pairwise.nil, rfl, rfl, .inl rfl, fun x hx => (by cases hx), fun i h j hi => (by simp at hi)⟩
  nd := List.nodup_nil
  isk := fun _ h => (by cases h)
  led := by
    cases h : w.params.followText "set-order"
    · exact .inr rfl
    · exact .inl rfl
  room := by show 0 * 5 < 7 * 3; decide
  few := by show 0 < 64; decide

/-- the loop that fills it -/
theorem fill {I : Addr} {fp wr : List Addr} {G : Array GenState → Array GenState → Prop} {n : Nat} {Pv : Nat → Value → Prop} {St : Nat → Shared → Prop} {R : Result → Shared → Prop}
    (W : WalksS P w A.in1 I fp wr G n Pv St) (D : Addr) (hD : D ∉ fp) (ks : List (Addr × κ)) (hn : n = ks.length) (hfew : ks.length < 64) (hval : ∀ i v, Pv i v → ∃ q, ks[i]? = some q ∧ v = .ref q.1)
    (h0 : Heap) (hk : ∀ q ∈ ks, 𝒦.is h0 q.2 q.1) (hD0 : h0.get? D = none) (hw0 : ∀ b ∈ wr, h0.get? b = none) (hu : A.in1.units < cLine) :
    ∀ (m i : Nat) (s : Shared), n - i = m → i ≤ n → St i s → (∀ b o, h0.get? b = some o → s.heap.get? b = some o) → (∃ L es ep t, Z 𝒦 s.heap D L es ep t ∧ Of ks i L) →
      (∀ s' L es ep t, Moved (D :: wr) G s s' → Z 𝒦 s'.heap D L es ep t → Of ks n L → (∀ b o, h0.get? b = some o → s'.heap.get? b = some o) → R (.ok (.ret .none)) s') →
      codeAny (model P w) A (.builtin "set.update.loop" ⟨[.ref D, .ref I], []⟩) R s := by
  have hDw : D ∉ wr := fun h => hD (W.sub _ h)
  have wider : ∀ b ∈ wr, b ∈ D :: wr := fun b hb => List.mem_cons_of_mem _ hb
  have still : ∀ {s s' : Shared}, Moved wr G s s' → (∀ b o, h0.get? b = some o → s.heap.get? b = some o) → ∀ b o, h0.get? b = some o → s'.heap.get? b = some o :=
    fun hm hkp b o e => hm.heap b o (fun hb => by rw [hw0 b hb] at e; cases e) (hkp b o e)
  intro m
  induction m with
  | zero =>
    intro i s h1 hi hst hkp ⟨L, es, ep, t, hZ, g⟩ hR
    obtain rfl : i = n := by omega
    refine codeAny_builtin F.entry_set_update_loop ?_
    rw [Around.under_plainId F.plain_set_update_loop _]
    show wpAny _ A.in1 (pyNext (.ref I) >>= _) _ _ s
    refine wpAny_bind (W.done s _ _ hst fun s' hm => ?_)
    show wpAny _ A.in1 (ret Value.none) _ _ s'
    have k2 := still hm hkp
    exact wpAny_pure (hR s' L es ep t (hm.mono wider) (hZ.keep (fun o e => hm.heap D o hDw e) fun q hq => 𝒦.keep (hk q (List.mem_of_mem_take (g.sub q hq))) k2) g k2)
  | succ m ih =>
    intro i s h1 hi hst hkp ⟨L, es, ep, t, hZ, g⟩ hR
    have hlt : i < n := by omega
    refine codeAny_builtin F.entry_set_update_loop ?_
    rw [Around.under_plainId F.plain_set_update_loop _]
    show wpAny _ A.in1 (pyNext (.ref I) >>= _) _ _ s
    refine wpAny_bind (W.item i s _ _ hlt hst fun v s' hP hst' hm => ?_)
    obtain ⟨q, hq, rfl⟩ := hval i v hP
    have k2 := still hm hkp
    have hZ' : Z 𝒦 s'.heap D L es ep t := hZ.keep (fun o e => hm.heap D o hDw e) fun q hq => 𝒦.keep (hk q (List.mem_of_mem_take (g.sub q hq))) k2
    have hx : 𝒦.is s'.heap q.2 q.1 := 𝒦.keep (hk q (List.mem_of_getElem? hq)) k2
    show wpAny _ A.in1 (holding [Value.ref q.1] (setAdd D (.ref q.1)) >>= _) _ _ s'
    refine wpAny_bind (wpAny_holding ?_)
    unfold setAdd
    refine wpAny_holding ?_
    refine wpAny_bind (𝒦.pyHash hu hx ?_)
    refine add (s := { s' with toks := s'.toks + 𝒦.draws q.2 }) hZ' hx hu (by have := g.len; omega) fun b h' L' es' ep' t' sb hZ2 c1 c2 => ?_
    have k3 : ∀ b o, h0.get? b = some o → h'.get? b = some o := fun b o e => (sb.2 b (fun z => by rw [z, hD0] at e; cases e)).trans (k2 b o e)
    refine wpAny_pure ⟨plainId_quiet F.plain_set_update_loop _, ih (i + 1) _ (by omega) hlt (W.frame _ s' _ _ hst' (Nat.le_add_right _ _) fun b hb o e => ?_) k3 ⟨L', es', ep', t', hZ2, g.next hq c1 c2⟩ fun s'' L2 es2 ep2 t2 hm2 hZ3 g2 k4 => ?_⟩
    · rw [sb.2 b (fun z : b = D => hD (by rw [← z]; exact hb))]; exact e
    · refine hR s'' L2 es2 ep2 t2 (Moved.trans W.gtrans ((hm.mono wider).then_heap (Nat.le_add_right _ _) fun b o hb e => ?_) hm2) hZ3 g2 k4
      rw [sb.2 b (fun z : b = D => hb (by rw [z]; exact List.mem_cons_self ..))]; exact e

abbrev setO (w : World) : Obj := { cls := .type "set", dict := none, data := .set #[] 0 (.fresh 0 0 (!w.params.followText "set-order")) }
/-- set(xs) of a list -/
theorem call_set {l : Addr} {items : Array Value} (ks : List (Addr × κ)) {Q : Value → Shared → Prop} (hh : A.handled = none) (hl : s.heap.IsList l items) (hit : items.toList = ks.map fun q => Value.ref q.1)
    (hk : ∀ q ∈ ks, 𝒦.is s.heap q.2 q.1) (hfew : ks.length < 64) (hu : A.units + 3 < cLine)
    (h : ∀ (h' : Heap) (tk : Nat) L es ep t, Z 𝒦 h' s.heap.objs.size L es ep t → Of ks ks.length L → (∀ b o, s.heap.get? b = some o → h'.get? b = some o) → Q (.ref s.heap.objs.size) { s with heap := h', toks := tk }) :
    wpAny (model P w) A (call (.type "set") [.ref l]) Q E s := by
  have hisz : items.size = ks.length := by rw [← Array.length_toList, hit, List.length_map]
  obtain ⟨c, tl, hmro⟩ := F.called_set.mro
  have hmade := F.called_set.made
  have hsub := F.called_set.sub
  refine wpAny_call (codeAny_of_tree ?_)
  show wpAny _ _ (callAny (.type "set") _) _ _ _
  refine wpAny_pure ⟨Code.quiet_builtin _ (by decide +kernel), codeAny_builtin F.entry_type_call ?_⟩
  rw [Around.under_plain (weight_type_call_type "set" [.ref l] []) rfl]
  have h1 := F.called_set.notType
  have h2 := F.called_set.canCreate
  have hct := F.typeCall_set_1 (.ref l)
  repeat (any_goals (first | assumption | wp_step))
  refine codeAny_mono (code_set_led1 (.ref l) (E := E) (Q₁ := fun obj s₁ => obj = .ref s.heap.objs.size ∧ s₁ = { s with heap := s.heap.push (setO w) }) ⟨rfl, rfl⟩) fun r s₁ hr => ?_
  match r, hr with
  | .error e, hr => exact hr
  | .ok (.ret obj), hr =>
    obtain ⟨rfl, rfl⟩ := hr
    have hS : (s.heap.push (setO w)).get? s.heap.objs.size = some (setO w) := Heap.get?_push_size _ rfl
    have hT : Shared.TypeIs { s with heap := s.heap.push (setO w) } (.ref s.heap.objs.size) "set" := ⟨_, hS, rfl⟩
    have hli := F.called_set.init.lookup
    have hbi := F.called_set.init.bind (.ref s.heap.objs.size)
    repeat (any_goals (first | assumption | wp_step))
    refine codeAny_mono (codeAny_call_builtin (R := wants (fun r s₂ => r = .none ∧ ∃ h' tk L es ep t, s₂ = { s with heap := h', toks := tk } ∧ Z 𝒦 h' s.heap.objs.size L es ep t ∧ Of ks ks.length L ∧
        (∀ b o, s.heap.get? b = some o → h'.get? b = some o)) E) F.called_set.init.plain F.entry_set_init (check_set_init_1 hT ?_)) fun r₂ s₂ hr₂ => ?_
    · obtain ⟨ol, hol, hcl, nl, hdl⟩ := hl
      obtain ⟨ocls, odict, odata, oslots⟩ := ol
      simp only at hcl hdl
      subst hcl; subst hdl
      have hol' : (s.heap.push (setO w)).get? l = some { cls := .type "list", dict := odict, data := .seq items nl, slots := oslots } := Heap.get?_push_of_some _ hol
      have hsls := F.sub_list_set
      have hslf := F.sub_list_frozenset
      have hne : (Value.type "list" == Value.type "dict") = false := by decide
      have hl1 : (s.heap.push (setO w)).IsList l items := ⟨_, hol', rfl, nl, rfl⟩
      unfold Builtin.«set.__init__» noKeywords Builtin.Frozenset.updateFrom
      generalize hPI : pyIter = PI
      wp_walk
      subst hPI
      refine wpAny_pyIter_list hl1 ?_
      refine wpAny_bind (wpAny_runValue ?_)
      have hlS : l < s.heap.objs.size := Heap.lt_size hol
      have hh3 : A.in1.in1.in1.handled = none := by simp [hh]
      have hz1 : (s.heap.push (setO w)).objs.size = s.heap.objs.size + 1 := Heap.size_push ..
      have hneI : l ≠ (s.heap.push (setO w)).objs.size := fun e => by
        rw [hz1] at e
        rw [e] at hlS
        exact absurd hlS (Nat.not_lt.mpr (Nat.le_succ _))
      have hval : ∀ (i : Nat) (v : Value), items[i]? = some v → ∃ q, ks[i]? = some q ∧ v = .ref q.1 := fun i v hv => by
        rw [← Array.getElem?_toList, hit, List.getElem?_map, Option.map_eq_some_iff] at hv
        obtain ⟨q, h3, h4⟩ := hv
        exact ⟨q, h3, h4.symm⟩
      have hnone : ∀ b, s.heap.objs.size ≤ b → s.heap.get? b = none := fun b hb => by
        cases q : s.heap.get? b with
        | none => rfl
        | some o => exact absurd (Heap.lt_size q) (Nat.not_lt.mpr hb)
      refine fill ((Walks.list hh3 _ l hneI items).toS) s.heap.objs.size (fun z => ?_) ks hisz hfew hval s.heap hk (hnone _ (Nat.le_refl _)) (fun b hb => hnone b (by rw [List.mem_singleton.mp hb, hz1]; exact Nat.le_succ _)) hu (items.size - 0) 0 _ (by omega) (Nat.zero_le _)
        ⟨⟨_, Heap.get?_push_size _ rfl, rfl, rfl⟩, (hl1.push _)⟩ (fun b o e => Heap.get?_push_of_some _ (Heap.get?_push_of_some _ e)) ⟨[], #[], 0, _, new_set (Heap.get?_push_of_some _ hS), ⟨fun _ z => (by cases z), fun _ z => (by cases z), Nat.le_refl _⟩⟩ ?_
      · rcases List.mem_cons.mp z with e | z
        · rw [hz1] at e
          exact absurd e.symm (Nat.succ_ne_self _)
        · exact absurd hlS (by rw [← List.mem_singleton.mp z]; exact Nat.lt_irrefl _)
      · intro s' L es ep t hm hZ g hkp
        obtain ⟨h', g2, d', tk', os'⟩ := s'
        have eg : g2 = s.gens := hm.gens
        have ed : d' = s.drawn := hm.drawn
        have eo : os' = s.os := hm.os
        subst eg ed eo
        show wpAny _ _ _ _ _ _
        refine wpAny_pure ?_
        show wpAny _ _ (ret Value.none) _ _ _
        rw [hisz] at g
        exact wpAny_pure ⟨rfl, h', tk', L, es, ep, t, rfl, hZ, g, hkp⟩
    · match r₂, hr₂ with
      | .error e, hr₂ => exact hr₂
      | .ok (.ret r), hr₂ =>
        obtain ⟨rfl, h', tk, L, es, ep, t, rfl, hZ, g, hk'⟩ := hr₂
        repeat (any_goals (first | assumption | wp_step))
        exact h _ _ _ _ _ _ hZ g hk'
end
end SZ
set_option Elab.async false
set_option linter.all false
set_option maxRecDepth 100000
set_option maxHeartbeats 4000000
/-! S4: sorted(set(xs)); tuples of ints and texts are such things. -/
namespace SZ
open PySem PySem.Spec PyProof.Rows L2
theorem reads_in {h : Heap} {v : Value} {d : PyData} {as : List Addr} (r : Reads h v d as) : ∀ b ∈ as, ∃ o, h.get? b = some o := by
  refine Reads.rec (motive_1 := fun v d as _ => ∀ b ∈ as, ∃ o, h.get? b = some o) (motive_2 := fun vs ds as _ => ∀ b ∈ as, ∃ o, h.get? b = some o) ?none ?bool ?int ?str ?list ?tuple ?dict ?nil ?cons r
  case none => intro b hb; cases hb
  case bool => intro x b hb; cases hb
  case int => intro x y b hb; cases hb
  case str => intro x y b hb; cases hb
  case list =>
    intro a o vs n xs as ho _ _ _ ih b hb
    rcases List.mem_cons.mp hb with e | hb
    · exact ⟨o, by rw [e]; exact ho⟩
    · exact ih b hb
  case tuple => intro a o vs n xs as ho _ _ _ ih; exact ih
  case dict =>
    intro a o es n kvs as bs ho _ _ _ _ ih1 ih2 b hb
    rcases List.mem_cons.mp hb with e | hb
    · exact ⟨o, by rw [e]; exact ho⟩
    · rcases List.mem_append.mp hb with hb | hb
      · exact ih1 b hb
      · exact ih2 b hb
  case nil => intro b hb; cases hb
  case cons =>
    intro v vs d ds as bs _ _ ih1 ih2 b hb
    rcases List.mem_append.mp hb with hb | hb
    · exact ih1 b hb
    · exact ih2 b hb
theorem perm_lift {α β : Type} {f : α → β} {l m : List β} (h : l.Perm m) : ∀ L : List α, m = L.map f → ∃ L' : List α, L'.Perm L ∧ l = L'.map f := by
  induction h with
  | nil => intro L e; exact ⟨[], by cases L <;> simp_all, rfl⟩
  | @cons x l m _ ih =>
    intro L e
    cases L with
    | nil => cases e
    | cons q L =>
      rw [List.map_cons] at e
      injection e with e1 e2
      obtain ⟨L', p, e3⟩ := ih L e2
      exact ⟨q :: L', p.cons q, by rw [e1, e3]; rfl⟩
  | swap x y l =>
    intro L e
    match L, e with
    | q :: r :: L, e =>
      simp only [List.map_cons, List.cons.injEq] at e
      obtain ⟨rfl, rfl, rfl⟩ := e
      exact ⟨r :: q :: L, List.Perm.swap .., rfl⟩
    | [q], e => simp at e
    | [], e => simp at e
  | trans _ _ ih1 ih2 =>
    intro L e
    obtain ⟨L1, p1, e1⟩ := ih2 L e
    obtain ⟨L2, p2, e2⟩ := ih1 L1 e1
    exact ⟨L2, p2.trans p1, e2⟩
theorem each_of_map {α β : Type} {Rv : Value → β → Prop} {g : α → Value} {f : α → β} : ∀ {L : List α}, (∀ q ∈ L, Rv (g q) (f q)) → PySem.W.EachIs Rv (L.map g) (L.map f)
  | [], _ => .nil
  | q :: L, h => .cons (h q (List.mem_cons_self ..)) (each_of_map fun r hr => h r (List.mem_cons_of_mem _ hr))
section
variable {P : Program} {w : World} {κ : Type} [DecidableEq κ] {𝒦 : SK P w κ} {A : Around} {E : Value → Shared → Prop} {s : Shared}
variable {a : Addr} {L : List (Addr × κ)} {es : Array (Int × Value)} {ep : Nat} {t : SetTable}
/-- sorted(set) -/
theorem call_sorted {β : Type} {enc : β → PyData} {Rv : Value → β → Prop} {Q : Value → Shared → Prop} (R : Z 𝒦 s.heap a L es ep t) (hh : A.handled = none) (f : Addr × κ → β) (e : ∀ q ∈ L, Rv (.ref q.1) (f q)) (er : ∀ q ∈ L, ∃ as, Reads s.heap (.ref q.1) (enc (f q)) as)
    (hal : PySem.W.AllAlike ((L.map f).map enc)) (hk : PySem.W.Sortable ((L.map f).map enc)) (hu : ∀ q ∈ L, A.units + 3 + (enc (f q)).depth < cLine)
    (hQ : ∀ (s' : Shared) (p : Addr) (out : List Value) (c : Nat) (L' : List (Addr × κ)), L'.Perm L → (∀ b o, s.heap.get? b = some o → s'.heap.get? b = some o) → s'.gens = s.gens → s'.os = s.os → s.heap.objs.size ≤ p →
      s'.heap.get? p = some (seqObj "list" out.toArray c) → out.length = L.length → PySem.W.EachIs Rv out ((L'.map f).mergeSort (PySem.W.dataLe false enc)) → Q (.ref p) s') :
    wpAny (model P w) A (call (.builtin "sorted") [.ref a]) Q E s := by
  obtain ⟨o, ho, hex, hd⟩ := R.ob
  have hsz := R.size
  have hfew := R.few
  refine Calls.call_function_entry kind_sorted plain_sorted entry_sorted (args_sorted1 _) ?_
  unfold Builtin.«sorted»
  refine wpAny_bind (m := checkCount "sorted" 1 1 _) (wpAny_pure ?_)
  refine wpAny_bind (collect_set (A := A.in1) hh ⟨o, ho, hex.1, hd⟩ R.fits (by unfold scanBound; omega) R.tab.ris R.led fun s1 vs k1 hz g1 o1 pm => ?_)
  rw [R.rows, List.map_map] at pm
  obtain ⟨L', pL, ev⟩ := perm_lift pm L rfl
  have ev : vs = L'.map fun q => Value.ref q.1 := ev
  have hvl : vs.length ≤ sizeLine := by rw [ev, List.length_map, pL.length_eq, sizeLine_eq]; omega
  refine wpAny_bind (wpAny_newList ?_ hvl)
  have hoL : (s1.heap.push (seqObj "list" vs.toArray 0)).get? s1.heap.objs.size = some (seqObj "list" vs.toArray 0) := Heap.get?_push_size _ rfl
  have mem : ∀ d, d ∈ (L'.map f).map enc → d ∈ (L.map f).map enc := fun d hd => ((pL.map f).map enc).mem_iff.mp hd
  refine wpAny_bind (wpAny_holding (PySem.W.list_sort_data (s := { s1 with heap := s1.heap.push (seqObj "list" vs.toArray 0) }) (bs := L'.map f) (enc := enc) (R := Rv) hoL ?_ ?_ (fun d hd d' hd' => hal d (mem d hd) d' (mem d' hd'))
    (hk.imp (fun z d hd => z d (mem d hd)) fun z d hd => z d (mem d hd)) (by rw [List.length_map, pL.length_eq, sizeLine_eq]; omega) (fun b hb => ?_) fun out hlen hout => ?_))
  · rw [ev]
    exact each_of_map fun q hq => e q (pL.mem_iff.mp hq)
  · rw [ev]
    refine each_of_map fun q hq => ?_
    obtain ⟨as, r⟩ := er q (pL.mem_iff.mp hq)
    refine ⟨as, Reads.keeps (fun b u z => Heap.get?_push_of_some _ (k1 b u z)) r, fun z => ?_⟩
    obtain ⟨u, hu2⟩ := reads_in r _ z
    exact absurd (Nat.lt_of_lt_of_le (Heap.lt_size hu2) hz) (Nat.lt_irrefl _)
  · obtain ⟨q, hq, rfl⟩ := List.mem_map.mp hb
    have := hu q (pL.mem_iff.mp hq)
    show A.units + 1 + 1 + _ < cLine
    omega
  · obtain ⟨c, hc⟩ := sortedHeap_at (vs := vs) (out := out.toArray) hoL
    refine wpAny_pure ⟨_, rfl, hQ _ s1.heap.objs.size out c L' pL (fun b u z => ?_) g1 o1 hz hc (by rw [hlen, List.length_map, pL.length_eq]) hout⟩
    have q := k1 b u z
    have hlt := Heap.lt_size q
    show (sortedHeap (s1.heap.push (seqObj "list" vs.toArray 0)) s1.heap.objs.size vs out.toArray).get? b = some u
    rw [sortedHeap_old (Nat.ne_of_lt hlt) (by rw [size_push']; exact Nat.lt_succ_of_lt hlt)]
    exact Heap.get?_push_of_some _ q
end

/-! ### tuples of ints and texts -/
section
variable {P : Program} {w : World} {A : Around} {E : Value → Shared → Prop} {s : Shared}
def isI : Key → Bool
  | .inl _ => true
  | .inr _ => false
theorem key_shape {k : Key} {v : Value} (h : (mixKind P w).is k v = true) : (∃ i t, k = .inl i ∧ v = .int i t) ∨ (∃ x t, k = .inr x ∧ v = .str x t) := by
  cases k with
  | inl i =>
    obtain ⟨t, e⟩ := Value.isInt_shape (k := i) (v := v) h
    exact .inl ⟨i, t, rfl, e⟩
  | inr x =>
    refine .inr ?_
    cases v <;> first
      | (exact (Bool.false_ne_true h).elim)
      | skip
    rename_i y t
    have e : Value.isStr (.str y t) x = true := h
    have : y = x := by
      have e2 : (y == x) = true ∨ (x == y) = true := by first | exact .inl e | exact .inr e | (left; simpa [Value.isStr] using e)
      exact e2.elim eq_of_beq fun z => (eq_of_beq z).symm
    exact ⟨x, t, rfl, by rw [this]⟩
theorem cls_key (n : Nat) {k : Key} {v : Value} (h : (mixKind P w).is k v = true) : ofAClassStatement n v = pure false := by
  rcases key_shape h with ⟨i, t, _, rfl⟩ | ⟨x, t, _, rfl⟩ <;> cases n <;> rfl
theorem byv_key (n : Nat) {k : Key} {v : Value} (h : (mixKind P w).is k v = true) : hashByValue n v = pure (isI k) := by
  rcases key_shape h with ⟨i, t, rfl, rfl⟩ | ⟨x, t, rfl, rfl⟩ <;> cases n <;> rfl
abbrev IsK (P : Program) (w : World) (h : Heap) (k : List Key) (a : Addr) : Prop := IsTupleKey (mixKind P w) h k a
theorem cls_tup {k : List Key} {b : Addr} {Q : Bool → Shared → Prop} (hk : IsK P w s.heap k b) (h : Q false s) : wpAny (model P w) A (ofAClassStatement 8 (.ref b)) Q E s := by
  have hT := hk.typeIs
  obtain ⟨o, items, n, ho, _, hd, hi⟩ := hk
  unfold ofAClassStatement
  refine wpAny_bind (wpAny_typeOf hT ?_)
  dsimp only
  have e : (("tuple" : String) == "tuple") = true := by decide
  simp only [e, if_true, Bool.not_true, Bool.false_eq_true, if_false]
  try refine wpAny_bind (wpAny_pure ?_)
  try simp only [Bool.not_true, Bool.false_eq_true, if_false]
  show wpAny _ _ (seqItems? (.ref b) >>= _) _ _ s
  refine wpAny_bind (wpAny_seqItems ho hd ?_)
  dsimp only
  refine wpAny_bind ?_
  show wpAny _ _ (forIn items _ _) _ _ s
  rw [← Array.forIn_toList]
  refine wpAny_forIn_list _ (fun rest r s' => (r.1 = none ∧ s' = s) ∧ ∃ ks, ItemsAre (mixKind P w) ks rest) _ ?_ ?_ _ _ ⟨⟨rfl, rfl⟩, _, hi⟩
  · rintro v rest r s' ⟨⟨hr, rfl⟩, ks, hks⟩
    cases hks with
    | cons h1 h2 =>
      rw [cls_key _ h1]
      refine wpAny_bind (wpAny_pure ?_)
      simp only [Bool.false_eq_true, if_false]
      exact wpAny_pure ⟨⟨rfl, rfl⟩, _, h2⟩
  · rintro ⟨r1, r2⟩ s' ⟨⟨hr, rfl⟩, _⟩
    cases hr
    exact wpAny_pure h
theorem byv_tup {k : List Key} {b : Addr} {Q : Bool → Shared → Prop} (hk : IsK P w s.heap k b) (h : Q (k.all isI) s) : wpAny (model P w) A (hashByValue 8 (.ref b)) Q E s := by
  have hT := hk.typeIs
  obtain ⟨o, items, n, ho, _, hd, hi⟩ := hk
  unfold hashByValue
  refine wpAny_bind (wpAny_specialOf hT F.slot_tuple_hash.lookup ?_)
  show wpAny _ _ (seqItems? (.ref b) >>= _) _ _ s
  refine wpAny_bind (wpAny_seqItems ho hd ?_)
  refine wpAny_bind ?_
  show wpAny _ _ (forIn items _ _) _ _ s
  rw [← Array.forIn_toList]
  refine wpAny_forIn_list _ (fun rest r s' => s' = s ∧ ∃ ks, ItemsAre (mixKind P w) ks rest ∧ r.1 = none ∧ ks.all isI = k.all isI) _ ?_ ?_ _ _ ⟨rfl, _, hi, rfl, rfl⟩
  · rintro v rest r s' ⟨rfl, ks, hks, hr, he⟩
    cases hks with
    | @cons k1 _ ks' _ h1 h2 =>
      rw [byv_key _ h1]
      refine wpAny_bind (wpAny_pure ?_)
      cases hb : isI k1 with
      | true =>
        simp only [Bool.not_true, Bool.false_eq_true, if_false]
        rw [List.all_cons, hb, Bool.true_and] at he
        exact wpAny_pure ⟨rfl, _, h2, rfl, he⟩
      | false =>
        simp only [Bool.not_false, if_true]
        rw [List.all_cons, hb, Bool.false_and] at he
        rw [← he] at h
        first
          | exact wpAny_pure (wpAny_pure h)
          | exact wpAny_bind (wpAny_pure (wpAny_pure (wpAny_pure h)))
  · rintro ⟨r1, r2⟩ s' ⟨rfl, ks, hks, hr, he⟩
    cases hr
    cases hks
    rw [← he] at h
    exact wpAny_pure h
/-- the kind of such tuples -/
def tupK (P : Program) (w : World) : SK P w (List Key) where
  is := IsK P w
  hash := tupleKeyHash (mixKind P w)
  draws := fun ks => ks.length + 1
  byv := fun ks => ks.all isI
  inj := fun hx hy => hx.inj hy
  same := fun {h h' k a b o es ep t} hb ho hd hs => by
    obtain ⟨o', items, n, ho', hc, hd', hi⟩ := hb
    refine ⟨o', items, n, (hs.2 b ?_).trans ho', hc, hd', hi⟩
    rintro rfl
    rw [ho] at ho'
    cases ho'
    rw [hd] at hd'
    cases hd'
  keep := fun ⟨o, items, n, ho, r⟩ k => ⟨o, items, n, k _ o ho, r⟩
  pyHash := fun hu hk h => wpAny_pyHash_tuple hu hk h
  eqBool := fun hu hx hy h => wpAny_eqBool_tuple hu hx hy h
  quiet := fun hk h => wpAny_eqIsQuiet_tuple hk h
  cls := fun hk h => cls_tup hk h
  byvOk := fun hk h => byv_tup hk h
end
end SZ
set_option Elab.async false
set_option linter.all false
set_option maxRecDepth 100000
set_option maxHeartbeats 4000000
/-! G7: the built-ins' table, isinstance, sorted, join, calls of defs. -/
namespace G
open PySem L2
/-! ### sorted -/
def sortOk (ps : List PyData) : Bool := (ps.all fun p => SeqAt.shaped p && ps.all fun q => PySem.W.alike p q) && ((ps.all fun p => match p with
  | .tuple (_ :: _) => true
  | _ => false) || (ps.all fun p => match p with
  | .none => false
  | .tuple _ => false
  | _ => true))
def sortL (ys : List D) (ps : List PyData) : List D := ((ys.zip ps).mergeSort (PySem.W.dataLe false Prod.snd)).map Prod.fst
def sortedD (ds : List D) (μ : Mu) : R D := match ds with
  | [.tup _] => none
  | [x] => (itemsOf μ x).bind fun ys => (mapO (dat μ deep) ys).bind fun ps => if sortOk ps && decide (ys.length ≤ sizeLine) then some (.fl (sortL ys ps), μ) else none
  | _ => none
section
variable {K : PySem.W.Frag} {al : List Addr} {H : Hp}
theorem mapO_length {α β : Type} {f : α → Option β} : ∀ {xs : List α} {ys : List β}, mapO f xs = some ys → ys.length = xs.length
  | [], _, e => by cases e; rfl
  | x :: xs, ys, e => by
    unfold mapO at e
    cases q : f x with
    | none => rw [q] at e; cases e
    | some p =>
      rw [q] at e
      cases q2 : mapO f xs with
      | none => rw [q2] at e; cases e
      | some ps =>
        rw [q2] at e
        cases e
        simp [mapO_length q2]
theorem each_of {X : Cx} {pins : List (Addr × PySem.Obj)} {σ : L2.St} {H : Hp} {s : Shared} (I : L2.Inv X pins σ H s) {f : D → Option PyData} (hf : ∀ d v p, Rep X.K al H v d → f d = some p → Dp X.K H v p) :
    ∀ {ds : List D} {vs : List HV} {ps : List PyData} {us : List Value}, RepL X.K al H vs ds → mapO f ds = some ps → Vals vs us →
      PySem.W.EachIs (fun (u : Value) (b : D × PyData) => ∃ x, RelV x u ∧ Rep X.K al H x b.1) us (ds.zip ps) ∧ PySem.W.EachIs (fun (u : Value) (b : D × PyData) => ∃ as, Reads s.heap u b.2 as) us (ds.zip ps)
  | [], _, _, _, h, e, r => by
    cases h
    cases e
    cases r
    exact ⟨.nil, .nil⟩
  | d :: ds, _, _, _, h, e, r => by
    cases h with
    | cons h1 h2 =>
      cases r with
      | cons r1 r2 =>
        unfold mapO at e
        cases q : f d with
        | none => rw [q] at e; cases e
        | some p =>
          rw [q] at e
          cases q2 : mapO f ds with
          | none => rw [q2] at e; cases e
          | some ps =>
            rw [q2] at e
            cases e
            obtain ⟨h3, h4⟩ := each_of I hf h2 q2 r2
            exact ⟨.cons ⟨_, r1, h1⟩ h3, .cons (Dp.reads I p _ _ (hf _ _ _ h1 q) r1) h4⟩
theorem each_back : ∀ {us : List Value} {bs : List (D × PyData)}, PySem.W.EachIs (fun (u : Value) (b : D × PyData) => ∃ x, RelV x u ∧ Rep K al H x b.1) us bs → ∃ xs, Vals xs us ∧ RepL K al H xs (bs.map Prod.fst)
  | _, _, .nil => ⟨[], .nil, .nil⟩
  | _, _, .cons ⟨x, r, q⟩ h =>
    let ⟨xs, h1, h2⟩ := each_back h
    ⟨x :: xs, .cons r h1, .cons q h2⟩
theorem zip_snd : ∀ {ds : List D} {ps : List PyData}, ps.length = ds.length → (ds.zip ps).map Prod.snd = ps
  | [], [], _ => rfl
  | [], _ :: _, h => by simp at h
  | _ :: _, [], h => by simp at h
  | d :: ds, p :: ps, h => by
    simp only [List.length_cons, Nat.add_right_cancel_iff] at h
    simp [zip_snd h]
end
section
variable {X : Cx} {a b d e : Expr} {es : List Expr} {pos p : Pos} {ma mb mc : ME} {mas : MA}
theorem bi_sorted (hu : X.A.units + 67 < cLine) : CallR X (.builtin "sorted") (rLs X.K sortedD) := by
  intro pins s σ H xs us Q I r hh
  obtain ⟨al, μ, ds, S, hx, P⟩ := hh
  unfold sortedD at P
  split at P
  · exact P.elim
  · rename_i hn
    obtain ⟨v, rfl, r1⟩ := hx.one
    cases hi2 : itemsOf μ _ with
    | none => rw [hi2] at P; exact P.elim
    | some ys =>
      rw [hi2] at P
      simp only [Option.bind_some] at P
      cases hm : mapO (dat μ deep) ys with
      | none => rw [hm] at P; exact P.elim
      | some ps =>
        rw [hm] at P
        simp only [Option.bind_some] at P
        split at P
        · rename_i hok
          simp only [Bool.and_eq_true, decide_eq_true_eq] at hok
          obtain ⟨hok, hlen⟩ := hok
          obtain ⟨a, ws, rfl, r2, z⟩ := lst_of S r1 hn hi2
          obtain ⟨its, rv, hl, _⟩ := I.list z
          rw [Vals.ref1 r]
          obtain ⟨e1, e2⟩ := each_of I (fun d v p => dat_dp S deep d v p) r2 hm rv
          have hpl := mapO_length hm
          have esnd := zip_snd hpl
          simp only [sortOk, Bool.and_eq_true, List.all_eq_true] at hok
          have hal : PySem.W.AllAlike ((ys.zip ps).map Prod.snd) := by
            rw [esnd]
            exact fun p hp q hq => (hok.1 p hp).2 q hq
          have hk : PySem.W.Sortable ((ys.zip ps).map Prod.snd) := by
            rw [esnd]
            have h2 := hok.2
            rw [Bool.or_eq_true] at h2
            rcases h2 with h2 | h2
            · refine .inl fun p hp => ?_
              have := List.all_eq_true.mp h2 p hp
              cases p with
              | tuple l =>
                cases l with
                | nil => cases this
                | cons x r => exact ⟨x, r, rfl⟩
              | _ => cases this
            · refine .inr fun p hp => ?_
              have := List.all_eq_true.mp h2 p hp
              constructor
              · intro e
                subst e
                cases this
              · intro l e
                subst e
                cases this
          have hzl : (ys.zip ps).length = ys.length := by simp [hpl]
          refine PySem.W.sorted_data (enc := Prod.snd) hl.isList e1 e2 hal hk (by rw [hzl]; exact hlen) (fun q hq => ?_) fun out ho eo => ?_
          · have hq2 : q.2 ∈ ps := by
              rw [← esnd]
              exact List.mem_map_of_mem hq
            have := (hok.1 _ hq2).1
            simp only [SeqAt.shaped, Bool.and_eq_true, decide_eq_true_eq] at this
            omega
          · obtain ⟨os, h3, h4⟩ := each_back eo
            obtain ⟨ep, he'⟩ := PyProof.Rows.sortedAll_at s.heap its out.toArray
            have hlo : os.length ≤ sizeLine := by
              rw [h3.length, ho, hzl]
              exact hlen
            have hfr : H (s.heap.objs.size + 1) = none := I.hok.fresh (Nat.le_succ _)
            exact ⟨.ref _, upd H (s.heap.objs.size + 1) (.lst os), I.laid (t' := s.toks) (fun _ _ => PyProof.Rows.sortedAll_old) (Nat.le_succ _) ⟨hlo, out, ep, h3, he'⟩, rfl, fresh_fl S P h4 _ hfr⟩
        · exact P.elim
  · exact P.elim

theorem refs_vals : ∀ {qs : List (Addr × List Key)} {us : List Value}, Vals (qs.map fun q => V.ref q.1) us → us = qs.map fun q => Value.ref q.1
  | [], _, .nil => rfl
  | _ :: _, _, .cons r t => by
    cases r
    rw [refs_vals t]
    rfl
/-! ### sets that are made and asked at once -/
def keyOf : D → Option Key
  | .int i => some (.inl i)
  | .str x => some (.inr x)
  | _ => none
def keysOf : D → Option (List Key)
  | .tup ds => mapO keyOf ds
  | _ => none
def keyD : Key → D
  | .inl i => .int i
  | .inr x => .str x
def rowD (k : List Key) : D := .tup (k.map keyD)
theorem keyD_inj {a b : Key} (h : keyD a = keyD b) : a = b := by
  cases a <;> cases b <;> cases h <;> rfl
theorem rowD_inj {a b : List Key} (h : rowD a = rowD b) : a = b := by
  simp only [rowD, D.tup.injEq] at h
  exact List.map_inj_right (fun _ _ e => keyD_inj e) |>.mp h
theorem keyOf_eq {d : D} {k : Key} (h : keyOf d = some k) : d = keyD k := by
  cases d <;> cases h <;> rfl
theorem mapO_key : ∀ {ds : List D} {k : List Key}, mapO keyOf ds = some k → ds = k.map keyD
  | [], _, h => by cases h; rfl
  | d :: ds, _, h => by
    unfold mapO at h
    cases q : keyOf d with
    | none => rw [q] at h; cases h
    | some p =>
      rw [q] at h
      cases q2 : mapO keyOf ds with
      | none => rw [q2] at h; cases h
      | some ps =>
        rw [q2] at h
        cases h
        rw [mapO_key q2, keyOf_eq q]
        rfl
theorem keysOf_eq {d : D} {k : List Key} (h : keysOf d = some k) : d = rowD k := by
  cases d <;> first | (cases h; done) | exact congrArg D.tup (mapO_key h)
def dedL : List D → List D
  | [] => []
  | d :: r => if d ∈ dedL r then dedL r else d :: dedL r
theorem mem_ded {d : D} : ∀ {l : List D}, d ∈ dedL l ↔ d ∈ l
  | [] => Iff.rfl
  | e :: r => by
    unfold dedL
    split
    · rename_i h
      rw [List.mem_cons, mem_ded (l := r)]
      refine ⟨.inr, fun z => z.elim (fun z => ?_) id⟩
      rw [z]
      exact mem_ded.mp h
    · rw [List.mem_cons, List.mem_cons, mem_ded (l := r)]
theorem nodup_ded : ∀ l : List D, (dedL l).Nodup
  | [] => List.nodup_nil
  | e :: r => by
    unfold dedL
    split
    · exact nodup_ded r
    · rename_i h
      exact List.nodup_cons.mpr ⟨h, nodup_ded r⟩
def lenSetD (x : D) (μ : Mu) : R D := match x with
  | .tup _ => none
  | x => (itemsOf μ x).bind fun ys => (mapO keysOf ys).bind fun ks => if ys.length < 64 then some (.int (dedL ys).length, μ) else none
/-- one behind the other, each less -/
def strictL (l : List (D × PyData)) : Bool := decide (l.Pairwise fun a b => PySem.W.dataLt a.2 b.2 = true)
def sortSetD (x : D) (μ : Mu) : R D := match x with
  | .tup _ => none
  | x => (itemsOf μ x).bind fun ys => (mapO keysOf ys).bind fun ks => (mapO (dat μ deep) (dedL ys)).bind fun ps =>
    if decide (ys.length < 64) && (sortOk ps && strictL (((dedL ys).zip ps).mergeSort (PySem.W.dataLe false Prod.snd))) then some (.fl (sortL (dedL ys) ps), μ) else none
/-- the rows of a list -/
theorem rows_of {X : Cx} {pins : List (Addr × PySem.Obj)} {σ : L2.St} {H : Hp} {s : Shared} (I : L2.Inv X pins σ H s) {al : List Addr} : ∀ {ds : List D} {vs : List HV} {ks : List (List Key)}, RepL X.K al H vs ds → mapO keysOf ds = some ks →
    ∃ qs : List (Addr × List Key), vs = qs.map (fun q => V.ref q.1) ∧ ds = qs.map (fun q => rowD q.2) ∧ (∀ q ∈ qs, Rep X.K al H (.ref q.1) (rowD q.2)) ∧ ∀ q ∈ qs, (SZ.tupK X.prog X.w).is s.heap q.2 q.1
  | [], _, _, h, e => by
    cases h
    cases e
    exact ⟨[], rfl, rfl, fun _ z => (by cases z), fun _ z => (by cases z)⟩
  | d :: ds, _, _, h, e => by
    cases h with
    | cons h1 h2 =>
      unfold mapO at e
      cases q : keysOf d with
      | none => rw [q] at e; cases e
      | some k =>
        rw [q] at e
        cases q2 : mapO keysOf ds with
        | none => rw [q2] at e; cases e
        | some ps =>
          obtain ⟨qs, e1, e2, e3, e4⟩ := rows_of I h2 q2
          have ed := keysOf_eq q
          subst ed
          have h0 := h1
          cases h1 with
          | @tup a xs _ t1 t2 =>
            have hx : xs = k.map kV := by
              clear q q2 e h2 t1 h0
              revert xs
              induction k with
              | nil => intro xs t2; cases t2; rfl
              | cons c k ih =>
                intro xs t2
                cases t2 with
                | cons u1 u2 =>
                  rw [ih u2]
                  cases c <;> cases u1 <;> rfl
            subst hx
            obtain ⟨its, r, ⟨o, ho, hc, n, hd⟩, _⟩ := I.tuple t1
            refine ⟨(a, k) :: qs, by rw [e1]; rfl, by rw [e2]; rfl, fun z hz => ?_, fun z hz => ?_⟩
            · rcases List.mem_cons.mp hz with rfl | hz
              · exact h0
              · exact e3 z hz
            · rcases List.mem_cons.mp hz with rfl | hz
              · exact ⟨o, its.toArray, n, ho, hc, hd, by simpa using items_are r⟩
              · exact e4 z hz
theorem set_perm {qs L : List (Addr × List Key)} (g : SZ.Of qs qs.length L) (nd : (L.map (·.2)).Nodup) : (L.map fun q => rowD q.2).Perm (dedL (qs.map fun q => rowD q.2)) := by
  refine (List.perm_ext_iff_of_nodup ?_ (nodup_ded _)).mpr fun d => ?_
  · have : (L.map fun q => rowD q.2) = (L.map (·.2)).map rowD := by rw [List.map_map]; rfl
    rw [this]
    exact List.Pairwise.map _ (fun a b h e => h (rowD_inj e)) nd
  · rw [mem_ded]
    constructor
    · intro h
      obtain ⟨q, hq, rfl⟩ := List.mem_map.mp h
      exact List.mem_map.mpr ⟨q, List.mem_of_mem_take (g.sub q hq), rfl⟩
    · intro h
      obtain ⟨q, hq, rfl⟩ := List.mem_map.mp h
      have := g.all q (by rw [List.take_length]; exact hq)
      obtain ⟨r, hr, e⟩ := List.mem_map.mp this
      exact List.mem_map.mpr ⟨r, hr, by rw [e]⟩
theorem dataLe_tot {β : Type} (k : β → PyData) : PySem.W.TotalLe (PySem.W.dataLe false k) := PySem.W.sortLe_total _ _ _
theorem sort_eq {l m : List (D × PyData)} (p : l.Perm m) (h : strictL (m.mergeSort (PySem.W.dataLe false Prod.snd)) = true) : l.mergeSort (PySem.W.dataLe false Prod.snd) = m.mergeSort (PySem.W.dataLe false Prod.snd) := by
  have T := dataLe_tot (β := D × PyData) Prod.snd
  have st : (m.mergeSort (PySem.W.dataLe false Prod.snd)).Pairwise fun a b => PySem.W.dataLt a.2 b.2 = true := of_decide_eq_true h
  have tot : ∀ a b : D × PyData, (PySem.W.dataLe false Prod.snd a b || PySem.W.dataLe false Prod.snd b a) = true := fun a b => by
    rw [Bool.or_eq_true]
    exact T.total a b
  have p1 := List.pairwise_mergeSort T.trans tot l
  have p2 := List.pairwise_mergeSort T.trans tot m
  refine List.Perm.eq_of_pairwise (le := fun a b => PySem.W.dataLe false Prod.snd a b = true) (fun a b ha hb h1 h2 => ?_) p1 p2 ((List.mergeSort_perm l _).trans (p.trans (List.mergeSort_perm m _).symm))
  have ha' : a ∈ m.mergeSort (PySem.W.dataLe false Prod.snd) := (List.mergeSort_perm m _).symm.mem_iff.mp (p.mem_iff.mp ((List.mergeSort_perm l _).mem_iff.mp ha))
  have n1 : PySem.W.dataLt b.2 a.2 = false := by
    have : (!PySem.W.dataLt b.2 a.2) = true := h1
    simpa using this
  have n2 : PySem.W.dataLt a.2 b.2 = false := by
    have : (!PySem.W.dataLt a.2 b.2) = true := h2
    simpa using this
  obtain ⟨i, hi, ei⟩ := List.mem_iff_getElem.mp ha'
  obtain ⟨j, hj, ej⟩ := List.mem_iff_getElem.mp hb
  have sp := List.pairwise_iff_getElem.mp st
  rcases Nat.lt_trichotomy i j with c | c | c
  · have := sp i j hi hj c
    rw [ei, ej, n2] at this
    cases this
  · subst c
    exact ei.symm.trans ej
  · have := sp j i hj hi c
    rw [ei, ej, n1] at this
    cases this
theorem zip_of_map {α β : Type} (f : α → β) : ∀ l : List α, l.zip (l.map f) = l.map fun x => (x, f x)
  | [] => rfl
  | x :: l => by simp [zip_of_map f l]
/-- the data of rows -/
def keyP : Key → PyData
  | .inl i => .int i
  | .inr x => .str x
def rowP (k : List Key) : PyData := .tuple (k.map keyP)
theorem dat_keys (μ : Mu) (n : Nat) : ∀ k : List Key, mapO (dat μ n) (k.map keyD) = some (k.map keyP)
  | [] => rfl
  | c :: k => by
    unfold List.map mapO
    rw [dat_keys μ n k]
    cases c <;> cases n <;> rfl
theorem dat_row (μ : Mu) (n : Nat) (k : List Key) : dat μ (n + 1) (rowD k) = some (rowP k) := by
  show (mapO (dat μ n) (k.map keyD)).map PyData.tuple = _
  rw [dat_keys]
  rfl
open PySem.Spec PyProof.Rows in
/-- what a set is asked -/
theorem se_set {X : Cx} {a : Expr} {x : Str} {id : String} {p p2 pos pos2 : Pos} {ma : ME} {f : D → Mu → R D} (hc : X.calm = true) (hu : X.A.units + 67 < cLine) (hb : bootBuiltins x = some (.builtin id)) (n1 : x ≠ "__name__") (n2 : (x == ("__debug__" : Str)) = false) (hg : Gl X x) (hm : X.mg x = none) (hg2 : Gl X "set") (hm2 : X.mg "set" = none)
    (hf : ∀ x, (∃ ds, x = .tup ds) → ∀ μ, f x μ = none) (hf2 : ∀ x, (∀ ds, x ≠ .tup ds) → ∀ μ r, f x μ = some r → ∃ ys ks, itemsOf μ x = some ys ∧ mapO keysOf ys = some ks ∧ ys.length < 64)
    (hq : ∀ {pins σ H s Q al μ dx ys} {qs L : List (Addr × List Key)} {es ep t} {A : Addr}, L2.Inv X pins σ H s → Sim X.K al μ H → itemsOf μ dx = some ys → (∀ ds, dx ≠ .tup ds) → ys = qs.map (fun q => rowD q.2) → (∀ q ∈ qs, Rep X.K al H (.ref q.1) (rowD q.2)) → SZ.Z (SZ.tupK X.prog X.w) s.heap A L es ep t → SZ.Of qs qs.length L →
      Post X.K (Rep X.K) al H Q (f dx μ) → wpAny (model X.prog X.w) X.A (call (.builtin id) [.ref A]) (EP X pins σ Q) X.xe s)
    (ha : PE X a (tI X.K ma)) (hs : notStar a = true) : PE X (.Call (.Name x p) [.Call (.Name "set" p2) [a] [] pos2] [] pos) (tI X.K (e1 f ma)) := by
  refine ⟨fun pins s σ H Q I h => ?_⟩
  have h := one_of h
  refine Call_ (ld_blt I hg hm hb ?_ n1 n2)
  refine PyProof.Rows.callWith_builtin1 (PyProof.Rows.args_cons ?_ rfl) rfl rfl
  refine Call_ (ld_blt I hg2 hm2 PyProof.Rows.boot_set ?_)
  refine PyProof.Rows.callWith_type1 (PyProof.Rows.args_cons (thn (ha.run pins s σ H _ I h) fun v s1 ⟨y, H1, I1, r1, al1, μ1, dx, S1, r2, P1⟩ => PyProof.Rows.args_nil ?_) (star_ok hs [] X.env)) (star_ok hs [] X.env) rfl
  by_cases ht : ∃ ds, dx = .tup ds
  · rw [hf dx ht] at P1
    exact P1.elim
  · have ht : ∀ ds, dx ≠ .tup ds := fun ds e => ht ⟨ds, e⟩
    cases er : f dx μ1 with
    | none => rw [er] at P1; exact P1.elim
    | some rr =>
      obtain ⟨ys, ks, h1, h2, h3⟩ := hf2 dx ht μ1 rr er
      obtain ⟨l, ws, rfl, r3, z⟩ := lst_of S1 r2 ht h1
      cases r1
      obtain ⟨its, rv, pl, _⟩ := I1.list z
      obtain ⟨qs, e1, e2, e3, e4⟩ := rows_of I1 r3 h2
      subst e1
      have hqs : qs.length < 64 := by
        rw [e2, List.length_map] at h3
        exact h3
      refine SZ.call_set (𝒦 := SZ.tupK X.prog X.w) qs (I1.ok.hd hc) pl.isList (by simpa using refs_vals rv) e4 hqs (by omega) fun h' tk L es ep t R g hk => ?_
      refine PyProof.Rows.args_nil ?_
      exact hq (s := { s1 with heap := h', toks := tk }) (I1.kept hk) S1 h1 ht e2 e3 R g P1
theorem se_lenSet {X : Cx} {a : Expr} {p p2 pos pos2 : Pos} {ma : ME} (hc : X.calm = true) (hu : X.A.units + 67 < cLine) (hg : Gl X "len") (hm : X.mg "len" = none) (hg2 : Gl X "set") (hm2 : X.mg "set" = none) (ha : PE X a (tI X.K ma)) (hs : notStar a = true) :
    PE X (.Call (.Name "len" p) [.Call (.Name "set" p2) [a] [] pos2] [] pos) (tI X.K (e1 lenSetD ma)) := by
  refine se_set hc hu PySem.boot_len (by decide) (by decide) hg hm hg2 hm2 (fun x ⟨ds, e⟩ μ => by subst e; rfl) (fun x hx μ r e => ?_) (fun I S hi ht ey e3 R g P => ?_) ha hs
  · unfold lenSetD at e
    split at e
    · exact (hx _ rfl).elim
    · simp only [Option.bind_eq_some_iff] at e
      obtain ⟨ys, e1, ks, e2, e3⟩ := e
      split at e3
      · exact ⟨ys, ks, e1, e2, by assumption⟩
      · cases e3
  · rename_i pins σ H s Q al μ dx ys qs L es ep t A
    obtain ⟨o, ho, hex, hd⟩ := R.ob
    have hlen : es.size = (dedL ys).length := by
      rw [R.size, ey, ← (set_perm g R.nd).length_eq, List.length_map]
    have hfew := R.few
    have hsz := R.size
    refine call_len_set ho hex hd R.fits (by omega) ⟨.int es.size, H, I.tok _, ⟨_, rfl⟩, ?_⟩
    unfold lenSetD at P
    split at P
    · exact P.elim
    · rw [hi] at P
      simp only [Option.bind_some] at P
      cases hk : mapO keysOf ys with
      | none => rw [hk] at P; exact P.elim
      | some ks =>
        rw [hk] at P
        simp only [Option.bind_some] at P
        split at P
        · rw [hlen]
          exact P.now S (.int _)
        · exact P.elim
theorem se_sortSet {X : Cx} {a : Expr} {p p2 pos pos2 : Pos} {ma : ME} (hc : X.calm = true) (hu : X.A.units + 67 < cLine) (hg : Gl X "sorted") (hm : X.mg "sorted" = none) (hg2 : Gl X "set") (hm2 : X.mg "set" = none) (ha : PE X a (tI X.K ma)) (hs : notStar a = true) :
    PE X (.Call (.Name "sorted" p) [.Call (.Name "set" p2) [a] [] pos2] [] pos) (tI X.K (e1 sortSetD ma)) := by
  refine se_set (id := "sorted") hc hu (by decide +kernel) (by decide) (by decide) hg hm hg2 hm2 (fun x ⟨ds, e⟩ μ => by subst e; rfl) (fun x hx μ r e => ?_) (fun I S hi ht ey e3 R g P => ?_) ha hs
  · unfold sortSetD at e
    split at e
    · exact (hx _ rfl).elim
    · simp only [Option.bind_eq_some_iff] at e
      obtain ⟨ys, e1, ks, e2, ps, _, e3⟩ := e
      split at e3
      · rename_i hh
        simp only [Bool.and_eq_true, decide_eq_true_eq] at hh
        exact ⟨ys, ks, e1, e2, hh.1⟩
      · cases e3
  · rename_i pins σ H s Q al μ dx ys qs L es ep t A
    unfold sortSetD at P
    split at P
    · exact P.elim
    · rw [hi] at P
      simp only [Option.bind_some] at P
      cases hk : mapO keysOf ys with
      | none => rw [hk] at P; exact P.elim
      | some ks =>
        rw [hk] at P
        simp only [Option.bind_some] at P
        cases hm : mapO (dat μ deep) (dedL ys) with
        | none => rw [hm] at P; exact P.elim
        | some ps =>
          rw [hm] at P
          simp only [Option.bind_some] at P
          split at P
          · rename_i hh
            simp only [Bool.and_eq_true, decide_eq_true_eq] at hh
            obtain ⟨h64, hok, hst⟩ := hh
            have pm := set_perm g R.nd
            rw [← ey] at pm
            -- the data of the rows
            have hrow : ∀ d ∈ dedL ys, ∃ k, d = rowD k := fun d hd => by
              rw [ey] at hd
              obtain ⟨q, _, e⟩ := List.mem_map.mp (mem_ded.mp hd)
              exact ⟨q.2, e.symm⟩
            obtain ⟨kk, ekk⟩ : ∃ kk : List (List Key), dedL ys = kk.map rowD := by
              have : ∀ l : List D, (∀ d ∈ l, ∃ k, d = rowD k) → ∃ kk : List (List Key), l = kk.map rowD := by
                intro l
                induction l with
                | nil => intro _; exact ⟨[], rfl⟩
                | cons d l ih =>
                  intro h
                  obtain ⟨k, rfl⟩ := h d (List.mem_cons_self ..)
                  obtain ⟨kk, rfl⟩ := ih fun e he => h e (List.mem_cons_of_mem _ he)
                  exact ⟨k :: kk, rfl⟩
              exact this _ hrow
            have eps : ps = kk.map rowP := by
              have : ∀ kk : List (List Key), mapO (dat μ deep) (kk.map rowD) = some (kk.map rowP) := by
                intro kk
                induction kk with
                | nil => rfl
                | cons k kk ih =>
                  unfold List.map mapO
                  rw [ih, show dat μ deep (rowD k) = some (rowP k) from dat_row μ 39 k]
                  rfl
              rw [ekk, this] at hm
              exact (Option.some.inj hm).symm
            have ez : (dedL ys).zip ps = kk.map fun k => (rowD k, rowP k) := by
              rw [ekk, eps]
              clear ekk eps hm hrow hst hok P pm
              induction kk with
              | nil => rfl
              | cons k kk ih => simp only [List.map_cons, List.zip_cons_cons, ih]
            have pmk : (L.map fun q => (rowD q.2, rowP q.2)).Perm ((dedL ys).zip ps) := by
              rw [ez]
              have p1 : ((L.map (·.2)).map rowD).Perm (kk.map rowD) := by
                rw [← ekk, List.map_map]
                exact pm
              obtain ⟨k2, p2, e2⟩ := SZ.perm_lift p1 kk rfl
              have e3 : L.map (·.2) = k2 := List.map_inj_right (fun _ _ e => rowD_inj e) |>.mp e2
              have := p2.map fun k => (rowD k, rowP k)
              rw [← e3, List.map_map] at this
              exact this
            have dsnd : ∀ M : List (Addr × List Key), (M.map fun q => (rowD q.2, rowP q.2)).map Prod.snd = M.map fun q => rowP q.2 := fun M => by rw [List.map_map]; rfl
            have inps : ∀ d, d ∈ (L.map fun q => (rowD q.2, rowP q.2)).map Prod.snd → d ∈ ps := fun d hd => by
              have := (pmk.map Prod.snd).mem_iff.mp hd
              rwa [zip_snd (by rw [ekk, eps, List.length_map, List.length_map])] at this
            simp only [sortOk, Bool.and_eq_true, List.all_eq_true] at hok
            have isrep : ∀ q ∈ L, Rep X.K al H (.ref q.1) (rowD q.2) := fun q hq => e3 q (List.mem_of_mem_take (g.sub q hq))
            refine SZ.call_sorted (𝒦 := SZ.tupK X.prog X.w) (β := D × PyData) (enc := Prod.snd) (Rv := fun u b => ∃ y, RelV y u ∧ Rep X.K al H y b.1) R (I.ok.hd hc) (fun q => (rowD q.2, rowP q.2)) (fun q hq => ⟨.ref q.1, rfl, isrep q hq⟩)
              (fun q hq => Dp.reads I (rowP q.2) (.ref q.1) _ (dat_dp S deep _ _ _ (isrep q hq) (dat_row μ 39 q.2)) rfl) (fun d hd d' hd' => (hok.1 d (inps d hd)).2 d' (inps d' hd')) ?_ (fun q hq => ?_) fun s' pa out c L' pL k2 g2 o2 hp hget hlen hout => ?_
            · refine .inl fun d hd => ?_
              have h2 := hok.2
              rw [Bool.or_eq_true] at h2
              have hd2 := hd
              rw [dsnd] at hd2
              obtain ⟨q, _, rfl⟩ := List.mem_map.mp hd2
              rcases h2 with h2 | h2
              · have := List.all_eq_true.mp h2 _ (inps _ hd)
                revert this
                unfold rowP
                cases q.2.map keyP with
                | nil => intro z; cases z
                | cons x r => intro _; exact ⟨x, r, rfl⟩
              · have := List.all_eq_true.mp h2 _ (inps _ hd)
                cases this
            · show X.A.units + 3 + (rowP q.2).depth < cLine
              have hin := inps (rowP q.2) (by rw [dsnd]; exact List.mem_map.mpr ⟨q, hq, rfl⟩)
              have := (hok.1 _ hin).1
              simp only [SeqAt.shaped, Bool.and_eq_true, decide_eq_true_eq] at this
              omega
            · obtain ⟨os, h3, h4⟩ := each_back hout
              have hn : H pa = none := I.hok.fresh hp
              have hlo : os.length ≤ sizeLine := by
                rw [h3.length, hlen, sizeLine_eq]
                have := R.few
                omega
              rw [sort_eq ((pL.map _).trans pmk) hst] at h4
              have J : L2.Inv X pins σ (upd H pa (.lst os)) { s with heap := s'.heap, gens := s'.gens, drawn := s'.drawn, toks := s'.toks } :=
                I.call (ch := []) (Un.laid k2 hp hn) (I.hok.laid k2 hp ⟨hlo, out, c, h3, hget⟩) (by rw [g2]; exact I.bare) (fun _ z => nomatch z)
              have e : s' = { s with heap := s'.heap, gens := s'.gens, drawn := s'.drawn, toks := s'.toks } := by
                cases s'
                cases s
                cases o2
                rfl
              rw [e]
              exact ⟨.ref pa, _, J, rfl, fresh_fl S P h4 _ hn⟩
          · exact P.elim
/-! ### the table -/
def biD (x : Str) : Option (List D → Mu → R D) :=
  if x = "len" then some lenD else if x = "abs" then some absD else if x = "int" then some intD else if x = "max" then some maxD else if x = "min" then some minD
  else if x = "ord" then some ordD else if x = "tuple" then some tupleD else if x = "list" then some listD else if x = "sum" then some sumD else if x = "all" then some allD
  else if x = "any" then some anyD else if x = "sorted" then some sortedD else none
structure BiOk (X : Cx) (x : Str) (g : List D → Mu → R D) : Prop where
  rule : (∃ id, CallR X (.builtin id) (rLs X.K g) ∧ bootBuiltins x = some (.builtin id)) ∨ ∃ T, CallR X (.type T) (rLs X.K g) ∧ bootBuiltins x = some (.type T)
  n1 : x ≠ "__name__"
  n2 : (x == ("__debug__" : Str)) = false
theorem biD_ok (hc : X.calm = true) (hu : X.A.units + 67 < cLine) {x : Str} {g : List D → Mu → R D} (h : biD x = some g) : BiOk X x g := by
  unfold biD at h
  split at h
  · rename_i hx; subst hx; cases h; exact ⟨.inl ⟨_, bi_len, by decide +kernel⟩, by decide, by decide⟩
  split at h
  · rename_i hx; subst hx; cases h; exact ⟨.inl ⟨_, bi_abs, by decide +kernel⟩, by decide, by decide⟩
  split at h
  · rename_i hx; subst hx; cases h; exact ⟨.inr ⟨_, bi_int, by decide +kernel⟩, by decide, by decide⟩
  split at h
  · rename_i hx; subst hx; cases h; exact ⟨.inl ⟨_, bi_max hc, by decide +kernel⟩, by decide, by decide⟩
  split at h
  · rename_i hx; subst hx; cases h; exact ⟨.inl ⟨_, bi_min hc, by decide +kernel⟩, by decide, by decide⟩
  split at h
  · rename_i hx; subst hx; cases h; exact ⟨.inl ⟨_, bi_ord, by decide +kernel⟩, by decide, by decide⟩
  split at h
  · rename_i hx; subst hx; cases h; exact ⟨.inr ⟨_, bi_tuple, by decide +kernel⟩, by decide, by decide⟩
  split at h
  · rename_i hx; subst hx; cases h; exact ⟨.inr ⟨_, bi_list, by decide +kernel⟩, by decide, by decide⟩
  split at h
  · rename_i hx; subst hx; cases h; exact ⟨.inl ⟨_, bi_sum hc, by decide +kernel⟩, by decide, by decide⟩
  split at h
  · rename_i hx; subst hx; cases h; exact ⟨.inl ⟨_, bi_all hc, by decide +kernel⟩, by decide, by decide⟩
  split at h
  · rename_i hx; subst hx; cases h; exact ⟨.inl ⟨_, bi_any hc, by decide +kernel⟩, by decide, by decide⟩
  split at h
  · rename_i hx; subst hx; cases h; exact ⟨.inl ⟨_, bi_sorted hu, by decide +kernel⟩, by decide, by decide⟩
  · cases h
theorem se_bi {x : Str} {g : List D → Mu → R D} (o : BiOk X x g) (hg : Gl X x) (hm : X.mg x = none) (ha : PA X (e :: es) (tL X.K mas)) (hs : (e :: es).all notStar = true) : PE X (.Call (.Name x p) (e :: es) [] pos) (tI X.K (eL g mas)) := by
  simp only [List.all_cons, Bool.and_eq_true] at hs
  rcases o.rule with ⟨id, r, hb⟩ | ⟨T, r, hb⟩
  · exact (pe_callB r hg hm hb ha o.n1 o.n2 (star_ok hs.1 es X.env) (star_any hs.2 _ _)).imp fun σ H Q h => list_of h
  · exact (pe_callTy r hg hm hb ha o.n1 o.n2 (star_ok hs.1 es X.env) (star_any hs.2 _ _)).imp fun σ H Q h => list_of h

/-! ### isinstance -/
def tyN (μ : Mu) : D → Option String
  | .non => some "NoneType"
  | .bl _ => some "bool"
  | .int _ => some "int"
  | .str _ => some "str"
  | .tup _ => some "tuple"
  | .fl _ => some "list"
  | .sc _ => some "list"
  | .ref n => match μ[n]? with
    | some (.lst _) => some "list"
    | _ => none
def isiB (a b : String) : Bool := a == b || (a == "bool" && b == "int")
def tyT (x : Str) : Option String := if x = "int" then some "int" else if x = "bool" then some "bool" else if x = "str" then some "str" else if x = "tuple" then some "tuple" else if x = "list" then some "list" else none
theorem tyT_ok {x : Str} {T : String} (h : tyT x = some T) : bootBuiltins x = some (.type T) ∧ x ≠ "__name__" ∧ (x == ("__debug__" : Str)) = false ∧ T ∈ ["int", "bool", "str", "tuple", "list"] := by
  unfold tyT at h
  split at h
  · rename_i hx; subst hx; cases h; exact ⟨by decide +kernel, by decide, by decide, by simp⟩
  split at h
  · rename_i hx; subst hx; cases h; exact ⟨by decide +kernel, by decide, by decide, by simp⟩
  split at h
  · rename_i hx; subst hx; cases h; exact ⟨by decide +kernel, by decide, by decide, by simp⟩
  split at h
  · rename_i hx; subst hx; cases h; exact ⟨by decide +kernel, by decide, by decide, by simp⟩
  split at h
  · rename_i hx; subst hx; cases h; exact ⟨by decide +kernel, by decide, by decide, by simp⟩
  · cases h
theorem isi_tab : ∀ a ∈ ["NoneType", "bool", "int", "str", "tuple", "list"], ∀ b ∈ ["int", "bool", "str", "tuple", "list"], kitB a b = some (isiB a b) := by decide +kernel
def isiD (T : String) (d : D) (μ : Mu) : R D := (tyN μ d).map fun t => (.bl (isiB t T), μ)
theorem tyN_in {μ : Mu} {d : D} {t : String} (h : tyN μ d = some t) : t ∈ ["NoneType", "bool", "int", "str", "tuple", "list"] := by
  cases d <;> simp only [tyN, Option.some.injEq] at h <;> first
    | (subst h; decide)
    | (split at h
       · cases h; decide
       · cases h)
theorem tyN_ok {K : PySem.W.Frag} {al : List Addr} {μ : Mu} {H : Hp} {v : HV} {d : D} {t : String} (S : Sim K al μ H) (r : Rep K al H v d) (h : tyN μ d = some t) : TyX K H v (.type t) := by
  cases r with
  | non => cases h; exact .base .non
  | bl b => cases h; exact .base (.bl b)
  | int b => cases h; exact .base (.int b)
  | str b => cases h; exact .base (.str b)
  | tup h1 h2 =>
    cases h
    rcases h1 with (h1 | ⟨o, h1⟩) | ⟨o, its, n, h1, h3, _⟩
    · exact .base (.tup h1)
    · exact .fTuple h1
    · exact .kTuple h1 h3
  | fl h1 _ _ => cases h; exact .base (.lst h1)
  | sc h1 _ =>
    cases h
    rcases h1 with ⟨⟨o, h1⟩, _⟩ | ⟨o, its, n, h1, h3, _⟩
    · exact .base (.frz h1)
    · exact .kList h1 h3
  | @ref a n hn =>
    simp only [tyN] at h
    split at h
    · rename_i ds hd
      cases h
      obtain ⟨xs, q, _⟩ := S.ob n a _ hn hd
      exact .base (.lst q)
    · cases h
theorem se_isi {x : Str} {T : String} {p2 : Pos} (hT : tyT x = some T) (hg : Gl X "isinstance") (hm : X.mg "isinstance" = none) (hgT : Gl X x) (hmT : X.mg x = none) (ha : PE X a (tI X.K ma)) (hs : notStar a = true) :
    PE X (.Call (.Name "isinstance" p) [a, .Name x p2] [] pos) (tI X.K (e1 (isiD T) ma)) := by
  obtain ⟨hb, n1, n2, hin⟩ := tyT_ok hT
  have hn : PE X (.Name x p2) (tC (.ty T)) := pe_bltn hgT hmT hb rfl n1 n2
  refine (pe_callB call_isi hg hm (by decide +kernel) (pa_cons ha (pa_cons hn pa_nil (by rfl)) (star_ok hs _ _)) (by decide) (by decide) (star_ok hs _ _) (by rfl)).imp fun σ H Q h => ?_
  obtain ⟨al, μ, ρ, S, F, P⟩ := one_of h
  refine ⟨al, μ, ρ, S, F, P.imp fun v H1 ⟨al1, μ1, dx, S1, r1, P1⟩ => ?_⟩
  unfold isiD at P1
  cases ht : tyN μ1 dx with
  | none => rw [ht] at P1; exact P1.elim
  | some t =>
    rw [ht] at P1
    exact ⟨v, .ty T, .type t, .type T, isiB t T, rfl, .ty T, tyN_ok S1 r1 ht, kit_ty (isi_tab t (tyN_in ht) T hin), P1.now S1 (.bl _)⟩

/-! ### calls of defs -/
def spF (K : PySem.W.Frag) (f : List D → Mu → R D) : Sp := fun vs H Q _ => rLs K f vs H Q
theorem se_call {x : Str} {f : Addr} {fd : FuncData} {ps : List Str} {k : Nat} {g : List D → Mu → R D} (F : FnOk X.prog X.w X.K X.mg X.base CX0 k f fd ps (spF X.K g)) (hr : Room k X.A) (hg : Gl X x) (hm : X.mg x = some (.ref f)) (hk : PySem.W.keepIn X.K (.ref f) = true) (hb : Binds X.K fd ps [])
    (hd : (x == ("__debug__" : Str)) = false) (ha : PA X (e :: es) (tL X.K mas)) (hs : (e :: es).all notStar = true) : PE X (.Call (.Name x p) (e :: es) [] pos) (tI X.K (eL g mas)) := by
  simp only [List.all_cons, Bool.and_eq_true] at hs
  refine (pe_call F hr hg hm hk hb .nil pass0 ha hd (star_ok hs.1 es X.env) (star_any hs.2 _ _)).imp fun σ H Q h => ?_
  obtain ⟨al, μ, ρ, S, F2, P⟩ := list_of h
  refine ⟨al, μ, ρ, S, F2, P.imp fun vs H1 q => ?_⟩
  show spF X.K g (vs ++ []) H1 Q E0
  rw [List.append_nil]
  exact q
theorem se_call0 {x : Str} {f : Addr} {fd : FuncData} {ps : List Str} {k : Nat} {g : List D → Mu → R D} (F : FnOk X.prog X.w X.K X.mg X.base CX0 k f fd ps (spF X.K g)) (hr : Room k X.A) (hg : Gl X x) (hm : X.mg x = some (.ref f)) (hk : PySem.W.keepIn X.K (.ref f) = true) (hb : Binds X.K fd ps [])
    (hd : (x == ("__debug__" : Str)) = false) : PE X (.Call (.Name x p) [] [] pos) (tI X.K (eL g lNil)) := by
  refine (pe_call0 F hr hg hm hk hb .nil pass0 hd).imp fun σ H Q h => ?_
  obtain ⟨al, μ, ρ, S, F2, P⟩ := h
  exact ⟨al, μ, [], S, .nil, P⟩
/-! ### "..".join -/
def strOf : D → Option Str
  | .str z => some z
  | _ => none
def joinD (a : Str) (y : D) (μ : Mu) : R D := (itemsOf μ y).bind fun ys => (mapO strOf ys).bind fun zs => if (zs.map (fun z => z.length)).sum + zs.length * a.length ≤ 16777216 then some (.str (Txt.join a zs), μ) else none
def eJoin (a b : ME) : ME := fun ρ μ => (a ρ μ).bind fun p => match p.1 with
  | .str z => (b ρ p.2).bind fun q => joinD z q.1 q.2
  | _ => none
theorem mapO_strs {K : PySem.W.Frag} {al : List Addr} {H : Hp} : ∀ {ds : List D} {vs : List HV} {ns : List Str}, RepL K al H vs ds → mapO strOf ds = some ns → vs = ns.map V.str
  | [], _, _, h, e => by
    cases h
    cases e
    rfl
  | d :: ds, _, _, h, e => by
    cases h with
    | cons h1 h2 =>
      unfold mapO at e
      cases q : strOf d with
      | none => rw [q] at e; cases e
      | some p =>
        rw [q] at e
        cases q2 : mapO strOf ds with
        | none => rw [q2] at e; cases e
        | some ps =>
          rw [q2] at e
          cases e
          have ih := mapO_strs h2 q2
          subst ih
          cases d <;> simp [strOf] at q
          subst q
          cases h1
          rfl
def plainO : Expr → Bool
  | .Call _ [] [] _ => false
  | _ => true
theorem base_ok {o : Expr} (h : plainO o = true) (x : Str) (env : Env) : attributeBase o x env (eval o env) = eval o env := by
  cases o <;> first
    | rfl
    | (rename_i f as kws q
       cases as <;> cases kws <;> first
         | (exfalso; revert h; simp [plainO]; done)
         | (cases f <;> rfl))
theorem se_join {apos : Pos} (ha : PE X a (tI X.K ma)) (hb : PE X b (tI X.K mb)) (hs : notStar b = true) (hp : plainO a = true) (hl : (apos.endLine == pos.line) = true) : PE X (.Call (.Attribute a "join" apos) [b] [] pos) (tI X.K (eJoin ma mb)) := by
  refine (pe_join ha hb (star_ok hs [] X.env) (base_ok hp _ _) hl).imp fun σ H Q h => ?_
  obtain ⟨al, μ, ρ, S, F, P⟩ := h
  refine ⟨al, μ, ρ, S, F, (Post.bind (Rp := Rep X.K) (f := fun dx μ1 => match dx with
    | .str z => (mb ρ μ1).bind fun q => joinD z q.1 q.2
    | _ => none) P).imp fun x H1 ⟨al1, μ1, dx, N1, S1, r1, P1⟩ => ?_⟩
  cases dx with
  | str z =>
    cases r1
    refine ⟨⟨z, rfl⟩, al1, μ1, ρ, S1, F.mono N1 S, (Post.bind (Rp := Rep X.K) (f := fun dy μ2 => joinD z dy μ2) P1).imp fun y H2 ⟨al2, μ2, dy, N2, S2, r2, P2⟩ => ?_⟩
    unfold joinD at P2
    cases hi2 : itemsOf μ2 dy with
    | none => rw [hi2] at P2; exact P2.elim
    | some ys =>
      rw [hi2] at P2
      simp only [Option.bind_some] at P2
      cases hm : mapO strOf ys with
      | none => rw [hm] at P2; exact P2.elim
      | some zs =>
        rw [hm] at P2
        simp only [Option.bind_some] at P2
        split at P2
        · rename_i hlen
          obtain ⟨c, ws, rfl, r3, w⟩ := items_of S2 r2 hi2
          have e := mapO_strs r3 hm
          subst e
          exact ⟨z, c, zs, rfl, rfl, w.imp (·.1) (·.1), hlen, P2.now S2 (.str _)⟩
        · exact P2.elim
  | _ => exact P1.elim
end
end G
set_option Elab.async false
set_option linter.all false
set_option maxRecDepth 100000
set_option maxHeartbeats 4000000
/-! G8: targets, what is walked, comprehensions. -/
namespace G
open PySem L2
/-! ### targets -/
abbrev MG := D → Fr → Option Fr
def gName (i : Nat) : MG := fun d ρ => some (ρ.set i (some d))
def gAll : List MG → List D → Fr → Option Fr
  | [], [], ρ => some ρ
  | f :: fs, d :: ds, ρ => (f d ρ).bind fun ρ1 => gAll fs ds ρ1
  | _, _, _ => none
def gTup (fs : List MG) : MG := fun d ρ => match d with
  | .tup ds => if ds.length = fs.length then gAll fs ds ρ else none
  | _ => none
def gD (K : PySem.W.Frag) (ws : List Nat) (f : MG) : TG := fun v σ H Q => ∃ al μ d ρ ρ', Sim K al μ H ∧ FrRep K al H σ ρ ∧ Rep K al H v d ∧ f d ρ = some ρ' ∧ ∀ σ', FrRep K al H σ' ρ' → σ'.length = σ.length → (∀ i, i ∉ ws → σ'[i]? = σ[i]?) → Q σ' H
def gDs (K : PySem.W.Frag) (ws : List Nat) (fs : List MG) : TGs := fun vs σ H Q => ∃ al μ ds ρ ρ', Sim K al μ H ∧ FrRep K al H σ ρ ∧ RepL K al H vs ds ∧ gAll fs ds ρ = some ρ' ∧ ∀ σ', FrRep K al H σ' ρ' → σ'.length = σ.length → (∀ i, i ∉ ws → σ'[i]? = σ[i]?) → Q σ' H
theorem aEach_ok {e : Expr} (h : notStar e = true) (es : List Expr) (env : Env) : assignEach (e :: es) env = (false, assign e env) :: assignEach es env := by
  cases e <;> first | rfl | (simp [notStar] at h)
theorem aEach_len : ∀ {es : List Expr} (env : Env), (assignEach es env).length = es.length
  | [], _ => rfl
  | e :: es, env => by
    have ih := aEach_len (es := es) env
    cases e <;> simp only [assignEach, List.length_cons, ih]
theorem aEach_find : ∀ {es : List Expr}, es.all notStar = true → ∀ (env : Env), (assignEach es env).findIdx? (·.1) = none
  | [], _, _ => rfl
  | e :: es, h, env => by
    simp only [List.all_cons, Bool.and_eq_true] at h
    rw [aEach_ok h.1, List.findIdx?_cons]
    simp [aEach_find h.2]
section
variable {X : Cx} {tg e a b : Expr} {es : List Expr} {pos p : Pos}
theorem PG.imp {t t' : TG} (h : PG X e t) (hi : ∀ v σ H Q, t' v σ H Q → t v σ H Q) : PG X e t' := ⟨fun pins s σ H v u Q I r q => h.run pins s σ H v u Q I r (hi v σ H Q q)⟩
theorem PGs.imp {t t' : TGs} (h : PGs X es t) (hi : ∀ v σ H Q, t' v σ H Q → t v σ H Q) : PGs X es t' := ⟨fun pins s σ H v u Q I r q => h.run pins s σ H v u Q I r (hi v σ H Q q)⟩
theorem sg_name {i : Nat} {x : Str} (h : PG X (.Name x pos) (L2.gName i)) : PG X (.Name x pos) (gD X.K [i] (gName i)) := PG.imp h fun v σ H Q ⟨al, μ, d, ρ, ρ', S, F, r, e, q⟩ => by
  cases e
  exact q _ (F.set i r) (List.length_set ..) fun j hj => List.getElem?_set_ne (fun z => hj (by simp [z]))
theorem sgs_nil : PGs X [] (gDs X.K [] []) := PGs.imp pgs_nil fun v σ H Q ⟨al, μ, ds, ρ, ρ', S, F, r, e, q⟩ => by
  cases ds with
  | nil =>
    cases r
    cases e
    exact ⟨rfl, q _ F rfl fun _ _ => rfl⟩
  | cons _ _ => cases e
theorem sgs_cons {ws ws' : List Nat} {f : MG} {fs : List MG} (h1 : PG X e (gD X.K ws f)) (h2 : PGs X es (gDs X.K ws' fs)) (hs : notStar e = true) : PGs X (e :: es) (gDs X.K (ws ++ ws') (f :: fs)) :=
  PGs.imp (pgs_cons h1 h2 (by rw [aEach_ok hs]; rfl)) fun v σ H Q ⟨al, μ, ds, ρ, ρ', S, F, r, e, q⟩ => by
    cases ds with
    | nil => cases e
    | cons d ds =>
      cases r with
      | cons r1 r2 =>
        simp only [gAll] at e
        cases e1 : f d ρ with
        | none => rw [e1] at e; cases e
        | some ρ1 =>
          rw [e1] at e
          simp only [Option.bind_some] at e
          refine ⟨_, _, rfl, al, μ, d, ρ, ρ1, S, F, r1, e1, fun σ1 F1 l1 k1 => ?_⟩
          refine ⟨al, μ, ds, ρ1, ρ', S, F1, r2, e, fun σ2 F2 l2 k2 => q σ2 F2 (l2.trans l1) fun i hi => ?_⟩
          rw [List.mem_append, not_or] at hi
          exact (k2 i hi.2).trans (k1 i hi.1)
theorem sg_tup {ws : List Nat} {fs : List MG} {k : Nat} (hc : X.calm = true) (h : PGs X es (gDs X.K ws fs)) (hs : es.all notStar = true) (hl : es.length = fs.length) : PG X (.Tuple es k pos) (gD X.K ws (gTup fs)) :=
  PG.imp (pg_tup (n := es.length) hc h (aEach_len _) (aEach_find hs _)) fun v σ H Q ⟨al, μ, d, ρ, ρ', S, F, r, e, q⟩ => by
    cases d with
    | tup ds =>
      cases r with
      | tup h1 h2 =>
        simp only [gTup] at e
        split at e
        · rename_i hn
          exact ⟨_, _, rfl, h1, by rw [h2.length, hn, hl], al, μ, ds, ρ, ρ', S, F, h2, e, q⟩
        · cases e
    | _ => cases e

/-! ### what is walked -/
abbrev Chk := List (Nat × List D)
def okSrc (μ : Mu) (chk : Chk) : Bool := chk.all fun q => decide (μ[q.1]? = some (.lst q.2))
abbrev MI := Fr → Mu → R (Chk × List D)
structure SrcOk (K : PySem.W.Frag) (J : It) (chk : Chk) (items : List D) (al0 : List Addr) (H0 : Hp) : Prop where
  step : ∀ al μ H, Nxt al0 H0 al H → Sim K al μ H → okSrc μ chk = true → ∀ i, (∀ d, items[i]? = some d → J.go i H ∧ ∀ x H', J.yld i H x H' → Nxt al H al H' ∧ Sim K al μ H' ∧ Rep K al H' x d) ∧ (items[i]? = none → J.stop i H)
def iI (K : PySem.W.Frag) (mi : MI) : TI := fun σ H Rk => ∃ al μ ρ, Sim K al μ H ∧ FrRep K al H σ ρ ∧ ∃ chk items μ1, mi ρ μ = some ((chk, items), μ1) ∧ ∀ al1 H1 J, Nxt al H al1 H1 → Sim K al1 μ1 H1 → SrcOk K J chk items al1 H1 → Rk J H1
theorem PI.imp {w w' : TI} (h : PI X tg e w) (hi : ∀ σ H R, w' σ H R → w σ H R) : PI X tg e w' := ⟨fun pins s σ H R I q => h.run pins s σ H R I (hi σ H R q)⟩
/-- a list at a, whose items stand so at each turn -/
theorem src_lst {K : PySem.W.Frag} {a : Addr} {chk : Chk} {items : List D} {al0 : List Addr} {H0 : Hp} (h : ∀ al μ H, Nxt al0 H0 al H → Sim K al μ H → okSrc μ chk = true → ∃ xs, SqL K H a xs ∧ RepL K al H xs items) : SrcOk K (Itl K a) chk items al0 H0 :=
  ⟨fun al μ H N S ok i => by
    obtain ⟨xs, h1, h2⟩ := h al μ H N S ok
    refine ⟨fun d e => ?_, fun e => ⟨xs, h1, ?_⟩⟩
    · obtain ⟨v, hv, r⟩ := h2.get e
      refine ⟨⟨xs, v, h1, hv⟩, fun x H' y => ?_⟩
      obtain ⟨e1, y⟩ := y
      subst e1
      have := y xs h1
      rw [hv] at this
      cases this
      exact ⟨.refl, S, r⟩
    · have := h2.length
      have := List.getElem?_eq_none_iff.mp e
      omega⟩
theorem src_tup {K : PySem.W.Frag} {a : Addr} {chk : Chk} {items : List D} {al0 : List Addr} {H0 : Hp} (h : ∀ al μ H, Nxt al0 H0 al H → Sim K al μ H → okSrc μ chk = true → ∃ xs, SqT K H a xs ∧ RepL K al H xs items) : SrcOk K (Itt K a) chk items al0 H0 :=
  ⟨fun al μ H N S ok i => by
    obtain ⟨xs, h1, h2⟩ := h al μ H N S ok
    refine ⟨fun d e => ?_, fun e => ⟨xs, h1, ?_⟩⟩
    · obtain ⟨v, hv, r⟩ := h2.get e
      refine ⟨⟨xs, v, h1, hv⟩, fun x H' y => ?_⟩
      obtain ⟨e1, y⟩ := y
      subst e1
      have := y xs h1
      rw [hv] at this
      cases this
      exact ⟨.refl, S, r⟩
    · have := h2.length
      have := List.getElem?_eq_none_iff.mp e
      omega⟩
def signs (z : Str) : List D := z.cps.toList.map fun c => .str ⟨#[c]⟩
theorem src_str {K : PySem.W.Frag} {z : Str} {al0 : List Addr} {H0 : Hp} : SrcOk K (Its z) [] (signs z) al0 H0 :=
  ⟨fun al μ H N S ok i => by
    refine ⟨fun d e => ?_, fun e => ?_⟩
    · simp only [signs, List.getElem?_map, Option.map_eq_some_iff] at e
      obtain ⟨c, e1, rfl⟩ := e
      have hi : i < z.cps.size := by
        have := (List.getElem?_eq_some_iff.mp e1).1
        simpa using this
      refine ⟨hi, fun x H' y => ?_⟩
      obtain ⟨e2, c', e3, e4⟩ := y
      subst e2 e4
      rw [Array.getElem?_toList] at e1
      rw [e3] at e1
      cases e1
      exact ⟨.refl, S, .str _⟩
    · have := List.getElem?_eq_none_iff.mp e
      simp only [signs, List.length_map, Array.length_toList] at this
      exact this⟩
def srcD (μ : Mu) : D → Option (Chk × List D)
  | .tup ds => some ([], ds)
  | .fl ds => some ([], ds)
  | .sc ds => some ([], ds)
  | .str z => some ([], signs z)
  | .ref n => match μ[n]? with
    | some (.lst ds) => some ([(n, ds)], ds)
    | _ => none
  | _ => none
def iVal (m : ME) : MI := fun ρ μ => (m ρ μ).bind fun q => (srcD q.2 q.1).map fun s => (s, q.2)
theorem si_val {m : ME} (he : PE X e (tI X.K m)) : PI X tg e (iI X.K (iVal m)) := ⟨fun pins s σ H R I h => by
  obtain ⟨al, μ, ρ, S, F, chk, items, μ1, em, q⟩ := h
  unfold iVal at em
  cases e1 : m ρ μ with
  | none => rw [e1] at em; cases em
  | some dd =>
    obtain ⟨d, μd⟩ := dd
    rw [e1] at em
    simp only [Option.bind_some, Option.map_eq_some_iff] at em
    obtain ⟨src, e2, e3⟩ := em
    cases e3
    cases d with
    | tup ds =>
      cases e2
      refine (pi_tup he).run pins s σ H R I ⟨al, μ, ρ, S, F, ?_⟩
      rw [e1]
      intro v al' H' N S' r
      cases r with
      | tup h1 h2 => exact ⟨_, rfl, ⟨_, h1⟩, q al' H' _ N S' (src_tup fun al2 μ2 H2 N2 S2 _ => ⟨_, N2.sqT S' h1, h2.mono N2 S'⟩)⟩
    | fl ds =>
      cases e2
      refine (pi_list he).run pins s σ H R I ⟨al, μ, ρ, S, F, ?_⟩
      rw [e1]
      intro v al' H' N S' r
      cases r with
      | fl h1 hn h2 => exact ⟨_, rfl, ⟨_, SqL.of h1⟩, q al' H' _ N S' (src_lst fun al2 μ2 H2 N2 S2 _ => ⟨_, SqL.of (N2.old _ _ h1 hn), h2.mono N2 S'⟩)⟩
    | sc ds =>
      cases e2
      refine (pi_list he).run pins s σ H R I ⟨al, μ, ρ, S, F, ?_⟩
      rw [e1]
      intro v al' H' N S' r
      cases r with
      | sc h1 h2 => exact ⟨_, rfl, ⟨_, h1.sq⟩, q al' H' _ N S' (src_lst fun al2 μ2 H2 N2 S2 _ => ⟨_, (h1.mono N2).sq, h2.mono N2 S'⟩)⟩
    | str z =>
      cases e2
      refine (pi_str he).run pins s σ H R I ⟨al, μ, ρ, S, F, ?_⟩
      rw [e1]
      intro v al' H' N S' r
      cases r
      exact ⟨z, rfl, q al' H' _ N S' src_str⟩
    | ref n =>
      simp only [srcD] at e2
      split at e2
      · rename_i ds hd
        cases e2
        refine (pi_list he).run pins s σ H R I ⟨al, μ, ρ, S, F, ?_⟩
        rw [e1]
        intro v al' H' N S' r
        obtain ⟨a, xs, rfl, ha, h1, h2⟩ := S'.get r hd
        refine ⟨a, rfl, ⟨_, SqL.of h1⟩, q al' H' _ N S' (src_lst fun al2 μ2 H2 N2 S2 ok => ?_)⟩
        simp only [okSrc, List.all_cons, List.all_nil, Bool.and_true, decide_eq_true_eq] at ok
        obtain ⟨ys, h3, h4⟩ := S2.ob n a _ (N2.get ha) ok
        exact ⟨ys, SqL.of h3, h4⟩
      · cases e2
    | _ => cases e2⟩
/-! range -/
def rngL (lo : Int) (n : Nat) : List D := (List.range n).map fun (i : Nat) => .int (lo + (i : Int))
theorem src_rng {K : PySem.W.Frag} {lo : Int} {n : Nat} {al0 : List Addr} {H0 : Hp} : SrcOk K (Itr lo n) [] (rngL lo n) al0 H0 :=
  ⟨fun al μ H N S ok i => by
    refine ⟨fun d e => ?_, fun e => ?_⟩
    · simp only [rngL, List.getElem?_map, Option.map_eq_some_iff] at e
      obtain ⟨j, e1, rfl⟩ := e
      have hi : i < n := by
        have := (List.getElem?_eq_some_iff.mp e1).1
        simpa using this
      have e5 : i = j := by
        rw [List.getElem?_range hi] at e1
        cases e1
        rfl
      subst e5
      refine ⟨hi, fun x H' y => ?_⟩
      obtain ⟨e2, e4⟩ := y
      subst e2 e4
      exact ⟨.refl, S, .int _⟩
    · have := List.getElem?_eq_none_iff.mp e
      simp only [rngL, List.length_map, List.length_range] at this
      exact this⟩
def okR (i : Int) : Bool := decide (-(2 ^ 62) ≤ i ∧ i < 2 ^ 62)
def iRng (as : MA) : MI := fun ρ μ => (as ρ μ).bind fun q => match q.1 with
  | [.int j] => if okR j then some (([], rngL 0 j.toNat), q.2) else none
  | [.int i, .int j] => if okR i && okR j then some (([], rngL i (j - i).toNat), q.2) else none
  | _ => none
theorem si_rng1 {m : ME} (hg : Gl X "range") (hm : X.mg "range" = none) (ha : PE X a (tI X.K m)) (hs : notStar a = true) : PI X tg (.Call (.Name "range" p) [a] [] pos) (iI X.K (iRng (lCons m lNil))) :=
  PI.imp (pi_range1 hg hm (sa_cons ha sa_nil hs) (star_ok hs [] X.env)) fun σ H R h => by
    obtain ⟨al, μ, ρ, S, F, chk, items, μ1, em, q⟩ := h
    unfold iRng at em
    refine ⟨al, μ, ρ, S, F, ?_⟩
    cases e1 : lCons m lNil ρ μ with
    | none => rw [e1] at em; cases em
    | some dd =>
      obtain ⟨ds, μd⟩ := dd
      rw [e1] at em
      simp only [Option.bind_some] at em
      intro v al' H' N S' r
      have hlen : ds.length = 1 := by
        unfold lCons lNil at e1
        cases e3 : m ρ μ with
        | none => rw [e3] at e1; cases e1
        | some q3 =>
          rw [e3] at e1
          cases e1
          rfl
      split at em
      · rename_i j
        split at em
        · rename_i hj
          cases em
          simp only [okR, decide_eq_true_eq] at hj
          obtain ⟨w, rfl, r1⟩ := r.one
          cases r1
          exact ⟨j, rfl, hj.1, hj.2, q al' H' _ N S' src_rng⟩
        · cases em
      · rename_i h1
        simp at hlen
      · cases em
theorem si_rng2 {m m2 : ME} (hg : Gl X "range") (hm : X.mg "range" = none) (ha : PE X a (tI X.K m)) (hb : PE X b (tI X.K m2)) (hs : notStar a = true) (hs2 : notStar b = true) : PI X tg (.Call (.Name "range" p) [a, b] [] pos) (iI X.K (iRng (lCons m (lCons m2 lNil)))) :=
  PI.imp (pi_range2 hg hm (sa_cons ha (sa_cons hb sa_nil hs2) hs) (by rw [star_ok hs, star_ok hs2]; rfl) (star_ok hs2 [] X.env)) fun σ H R h => by
    obtain ⟨al, μ, ρ, S, F, chk, items, μ1, em, q⟩ := h
    unfold iRng at em
    refine ⟨al, μ, ρ, S, F, ?_⟩
    cases e1 : lCons m (lCons m2 lNil) ρ μ with
    | none => rw [e1] at em; cases em
    | some dd =>
      obtain ⟨ds, μd⟩ := dd
      rw [e1] at em
      simp only [Option.bind_some] at em
      intro v al' H' N S' r
      have hlen : ds.length = 2 := by
        unfold lCons lNil at e1
        cases e3 : m ρ μ with
        | none => rw [e3] at e1; cases e1
        | some q3 =>
          rw [e3] at e1
          simp only [Option.bind_some] at e1
          cases e4 : m2 ρ q3.2 with
          | none => rw [e4] at e1; cases e1
          | some q4 =>
            rw [e4] at e1
            cases e1
            rfl
      split at em
      · simp at hlen
      · rename_i i j
        split at em
        · rename_i hj
          cases em
          simp only [okR, Bool.and_eq_true, decide_eq_true_eq] at hj
          obtain ⟨w, w2, rfl, r1, r2⟩ := r.two
          cases r1; cases r2
          exact ⟨i, j, rfl, ⟨hj.1.1, hj.1.2, hj.2.1, hj.2.2⟩, q al' H' _ N S' src_rng⟩
        · cases em
      · cases em
/-! ### comprehensions -/
def wipeF (ρ : Fr) : List Nat → Fr
  | [] => ρ
  | v :: vs => (wipeF ρ vs).set v none
theorem wipeF_some {ρ : Fr} {i : Nat} {d : D} : ∀ {vs : List Nat}, (wipeF ρ vs)[i]? = some (some d) → ρ[i]? = some (some d) ∧ i ∉ vs
  | [], h => ⟨h, by simp⟩
  | v :: vs, h => by
    unfold wipeF at h
    by_cases hi : v = i
    · subst hi
      by_cases hv : v < (wipeF ρ vs).length
      · rw [List.getElem?_set_self hv] at h; cases h
      · rw [List.getElem?_eq_none (by simpa using hv)] at h; cases h
    · rw [List.getElem?_set_ne hi] at h
      obtain ⟨h1, h2⟩ := wipeF_some h
      exact ⟨h1, by simp only [List.mem_cons, not_or]; exact ⟨fun e => hi e.symm, h2⟩⟩
theorem wipeF_length (ρ : Fr) : ∀ vs : List Nat, (wipeF ρ vs).length = ρ.length
  | [] => rfl
  | v :: vs => by unfold wipeF; rw [List.length_set, wipeF_length ρ vs]
theorem wipe_out {σ : L2.St} {i : Nat} : ∀ {vs : List Nat}, i ∉ vs → (wipe σ vs)[i]? = σ[i]?
  | [], _ => rfl
  | v :: vs, h => by
    simp only [List.mem_cons, not_or] at h
    unfold wipe
    rw [List.getElem?_set_ne (Ne.symm h.1)]
    exact wipe_out h.2
theorem wipe_in {σ : L2.St} {i : Nat} : ∀ {vs : List Nat}, i ∈ vs → (wipe σ vs)[i]? = if i < σ.length then some none else none
  | [], h => by simp at h
  | v :: vs, h => by
    unfold wipe
    by_cases e : v = i
    · subst e
      rw [List.getElem?_set]
      simp [wipe_length]
    · rw [List.getElem?_set_ne e]
      exact wipe_in ((List.mem_cons.mp h).resolve_left (Ne.symm e))
theorem wipe_eq {σ σ' : L2.St} {vs ws : List Nat} (hl : σ'.length = σ.length) (hsub : ∀ i ∈ ws, i ∈ vs) (h : ∀ i, i ∉ ws → σ'[i]? = (wipe σ vs)[i]?) : wipe σ' vs = wipe σ vs := by
  apply List.ext_getElem?
  intro i
  by_cases hi : i ∈ vs
  · rw [wipe_in hi, wipe_in hi, hl]
  · rw [wipe_out hi]
    exact h i fun z => hi (hsub i z)
theorem FrRep.wipe {K : PySem.W.Frag} {al : List Addr} {H : Hp} {σ : L2.St} {ρ : Fr} (F : FrRep K al H σ ρ) (vs : List Nat) : FrRep K al H (L2.wipe σ vs) (wipeF ρ vs) where
  len := by rw [wipe_length, wipeF_length, F.len]
  at_ := fun i d h => by
    obtain ⟨h1, h2⟩ := wipeF_some h
    obtain ⟨v, h3, r⟩ := F.at_ i d h1
    exact ⟨v, by rw [wipe_out h2]; exact h3, r⟩
theorem Sim.store {K : PySem.W.Frag} {al : List Addr} {μ : Mu} {H : Hp} (S : Sim K al μ H) {n : Nat} {a : Addr} (ha : al[n]? = some a) {xs : List HV} {ds : List D} (r : RepL K al H xs ds) :
    Nxt al H al (upd H a (.lst xs)) ∧ Sim K al (μ.set n (.lst ds)) (upd H a (.lst xs)) := by
  have N : Nxt al H al (upd H a (.lst xs)) := ⟨List.prefix_refl _, fun _ h => .inl h, fun b o e hb => by
    rw [upd_ne]
    · exact e
    · intro z
      subst z
      exact hb (List.mem_of_getElem? ha)⟩
  refine ⟨N, by rw [List.length_set]; exact S.len, S.nd, fun m b o h1 h2 => ?_⟩
  by_cases hm : n = m
  · subst hm
    have hn : n < μ.length := by rw [← S.len]; exact (List.getElem?_eq_some_iff.mp ha).1
    rw [List.getElem?_set_self hn] at h2
    have e1 : a = b := Option.some.inj (ha.symm.trans h1)
    have e2 := Option.some.inj h2
    subst e1 e2
    exact ⟨xs, upd_same, r.mono N S⟩
  · rw [List.getElem?_set_ne hm] at h2
    refine (S.ob m b o h1 h2).mono N S ?_
    rw [upd_ne]
    intro z
    subst z
    obtain ⟨h4, e4⟩ := List.getElem?_eq_some_iff.mp ha
    obtain ⟨h5, e5⟩ := List.getElem?_eq_some_iff.mp h1
    exact hm ((List.getElem_inj S.nd).mp (e4.trans e5.symm))
def compL (chk : Chk) (f : MG) (cond elt : ME) (n : Nat) (ρ : Fr) : List D → Mu → Option Mu
  | [], μ => if okSrc μ chk then some μ else none
  | d :: ds, μ => if okSrc μ chk then (f d ρ).bind fun ρ1 => (asB (cond ρ1 μ)).bind fun c => if c.1 = true then (elt ρ1 c.2).bind fun y => match y.2[n]? with
    | some (.lst acc) => if acc.length < sizeLine then compL chk f cond elt n ρ ds (y.2.set n (.lst (acc ++ [y.1]))) else none
    | _ => none else compL chk f cond elt n ρ ds c.2 else none
def eComp (src : MI) (f : MG) (vs : List Nat) (cond elt : ME) (keep : Bool) : ME := fun ρ μ => (src ρ μ).bind fun s => (compL s.1.1 f cond elt s.2.length (wipeF ρ vs) s.1.2 (s.2 ++ [.lst []])).bind fun μ3 =>
  if keep = true then some (.ref s.2.length, μ3) else finish s.2.length s.2 (.ref s.2.length) μ3
theorem comp_of {K : PySem.W.Frag} {σ : L2.St} {H : Hp} {Q : VK} {src : MI} {f : MG} {vs ws : List Nat} {cond elt : ME} {keep : Bool} (hsub : ∀ i ∈ ws, i ∈ vs) (h : tI K (eComp src f vs cond elt keep) σ H Q) : tLc (iI K src) (gD K ws f) (tTb K cond) (tI K elt) vs σ H Q := by
  obtain ⟨al, μ, ρ, S, F, P⟩ := h
  unfold eComp at P
  cases es : src ρ μ with
  | none => rw [es] at P; exact P.elim
  | some ss =>
    obtain ⟨⟨chk, items⟩, μ1⟩ := ss
    rw [es] at P
    simp only [Option.bind_some] at P
    refine ⟨al, μ, ρ, S, F, chk, items, μ1, es, fun al1 H1 J N1 S1 ok => ?_⟩
    intro D0 hD0
    cases ec : compL chk f cond elt μ1.length (wipeF ρ vs) items (μ1 ++ [.lst []]) with
    | none => rw [ec] at P; exact P.elim
    | some μ3 =>
      rw [ec] at P
      simp only [Option.bind_some] at P
      have P1 := Post.rebase N1 P
      have N0 := Nxt.push S1 hD0 (.lst [])
      have S0 := S1.push hD0 (xs := []) (ds := []) .nil
      have F1 := F.mono N1 S
      refine ⟨fun i m H2 => m = items.length - i ∧ ∃ al2 μ2, Nxt (al1 ++ [D0]) (upd H1 D0 (.lst [])) al2 H2 ∧ Sim K al2 μ2 H2 ∧ compL chk f cond elt μ1.length (wipeF ρ vs) (items.drop i) μ2 = some μ3, ⟨_, rfl, _, _, .refl, S0, ec⟩, ?_⟩
      rintro i m H2 ⟨rfl, al2, μ2, N2, S2, e2⟩
      have N12 : Nxt al1 H1 al2 H2 := N0.trans N2
      have hat : al2[μ1.length]? = some D0 := by
        refine N2.get ?_
        rw [← S1.len]
        simp
      cases hd : items[i]? with
      | none =>
        left
        have hdrop : items.drop i = [] := List.drop_eq_nil_of_le (List.getElem?_eq_none_iff.mp hd)
        rw [hdrop] at e2
        simp only [compL] at e2
        split at e2
        · rename_i hok
          cases e2
          refine ⟨(ok.step al2 μ3 H2 N12 S2 hok i).2 hd, ?_⟩
          split at P1
          · exact P1 _ al2 H2 N12 S2 (.ref hat)
          · exact Post.finish S1 P1 N12 S2 (.ref hat)
        · cases e2
      | some d =>
        right
        have hlt : i < items.length := (List.getElem?_eq_some_iff.mp hd).1
        have hdrop : items.drop i = d :: items.drop (i + 1) := by
          rw [List.drop_eq_getElem_cons hlt]
          have := (List.getElem?_eq_some_iff.mp hd).2
          rw [this]
        rw [hdrop] at e2
        simp only [compL] at e2
        split at e2
        · rename_i hok
          obtain ⟨hgo, hy⟩ := (ok.step al2 μ2 H2 N12 S2 hok i).1 d hd
          refine ⟨hgo, fun H3 => ∃ al2 μ2, Nxt (al1 ++ [D0]) (upd H1 D0 (.lst [])) al2 H3 ∧ Sim K al2 μ2 H3 ∧ compL chk f cond elt μ1.length (wipeF ρ vs) (items.drop (i + 1)) μ2 = some μ3, fun H' q => ⟨items.length - (i + 1), by omega, rfl, q⟩, fun x H' y => ?_⟩
          obtain ⟨N3, S3, r3⟩ := hy x H' y
          cases ef : f d (wipeF ρ vs) with
          | none => rw [ef] at e2; cases e2
          | some ρ1 =>
            rw [ef] at e2
            simp only [Option.bind_some] at e2
            refine ⟨al2, μ2, d, wipeF ρ vs, ρ1, S3, ((F1.mono N12 S1).mono N3 S2).wipe vs, r3, ef, fun σ' F' l' k' => ⟨wipe_eq (l'.trans (wipe_length _ _)) hsub k', ?_⟩⟩
            · cases eb : asB (cond ρ1 μ2) with
              | none => rw [eb] at e2; cases e2
              | some c =>
                rw [eb] at e2
                simp only [Option.bind_some] at e2
                refine ⟨al2, μ2, ρ1, S3, F', ?_⟩
                show Post K _ al2 H' _ (asB (cond ρ1 μ2))
                rw [eb]
                intro b al4 H4 N4 S4 eb2
                subst eb2
                split at e2
                · rename_i hb
                  rw [if_pos hb]
                  cases ee : elt ρ1 c.2 with
                  | none => rw [ee] at e2; cases e2
                  | some yy =>
                    rw [ee] at e2
                    simp only [Option.bind_some] at e2
                    refine ⟨al4, c.2, ρ1, S4, F'.mono N4 S3, ?_⟩
                    rw [ee]
                    intro v al5 H5 N5 S5 r5
                    split at e2
                    · rename_i acc hacc
                      split at e2
                      · rename_i hl
                        have hat5 : al5[μ1.length]? = some D0 := N5.get (N4.get hat)
                        obtain ⟨xs, q1, q2⟩ := S5.ob _ _ _ hat5 hacc
                        obtain ⟨N6, S6⟩ := S5.store hat5 (q2.append (.cons r5 .nil))
                        exact ⟨xs, q1, by rw [q2.length]; exact hl, al5, _, (((N2.trans N3).trans N4).trans N5).trans N6, S6, e2⟩
                      · cases e2
                    · cases e2
                · rename_i hb
                  rw [if_neg hb]
                  exact ⟨al4, c.2, (N2.trans N3).trans N4, S4, e2⟩
        · cases e2
end
end G
set_option Elab.async false
set_option linter.all false
set_option maxRecDepth 100000
set_option maxHeartbeats 4000000
/-! G9: statements. -/
namespace G
open PySem L2
inductive Fl where
  | nx (ρ : Fr) | rt (d : D) | bk (ρ : Fr) | ct (ρ : Fr)
abbrev MS := Fr → Mu → R Fl
def PostS (K : PySem.W.Frag) (al : List Addr) (H : Hp) (E : Ends) : R Fl → Prop
  | none => False
  | some (.nx ρ', μ') => ∀ σ' al' H', Nxt al H al' H' → Sim K al' μ' H' → FrRep K al' H' σ' ρ' → E.nx σ' H'
  | some (.rt d, μ') => ∀ v al' H', Nxt al H al' H' → Sim K al' μ' H' → Rep K al' H' v d → E.rt v H'
  | some (.bk ρ', μ') => ∀ σ' al' H', Nxt al H al' H' → Sim K al' μ' H' → FrRep K al' H' σ' ρ' → E.bk σ' H'
  | some (.ct ρ', μ') => ∀ σ' al' H', Nxt al H al' H' → Sim K al' μ' H' → FrRep K al' H' σ' ρ' → E.ct σ' H'
def tS (K : PySem.W.Frag) (m : MS) : TS := fun E σ H => ∃ al μ ρ, Sim K al μ H ∧ FrRep K al H σ ρ ∧ PostS K al H E (m ρ μ)
def sNil : MS := fun ρ μ => some (.nx ρ, μ)
def sSeq (s t : MS) : MS := fun ρ μ => (s ρ μ).bind fun r => match r.1 with
  | .nx ρ1 => t ρ1 r.2
  | f => some (f, r.2)
def sSet (i : Nat) (e : ME) : MS := fun ρ μ => (e ρ μ).bind fun r => some (.nx (ρ.set i (some r.1)), r.2)
def sAsg (f : MG) (e : ME) : MS := fun ρ μ => (e ρ μ).bind fun r => (f r.1 ρ).bind fun ρ1 => some (.nx ρ1, r.2)
def setD (o i v : D) (μ : Mu) : Option Mu := match o, i with
  | .ref n, .int k => match μ[n]? with
    | some (.lst ds) => (L2.ixN ds.length k).bind fun j => some (μ.set n (.lst (ds.set j v)))
    | _ => none
  | _, _ => none
def sSub (o i e : ME) : MS := fun ρ μ => (e ρ μ).bind fun v => (o ρ v.2).bind fun x => (i ρ x.2).bind fun y => (setD x.1 y.1 v.1 y.2).bind fun μ1 => some (.nx ρ, μ1)
def sExpr (e : ME) : MS := fun ρ μ => (e ρ μ).bind fun r => some (.nx ρ, r.2)
def sRet (e : ME) : MS := fun ρ μ => (e ρ μ).bind fun r => some (.rt r.1, r.2)
def sRetN : MS := fun _ μ => some (.rt .non, μ)
def sBrk : MS := fun ρ μ => some (.bk ρ, μ)
def sCnt : MS := fun ρ μ => some (.ct ρ, μ)
def sNo : MS := fun _ _ => none
def sIf (c : ME) (s t : MS) : MS := fun ρ μ => (asB (c ρ μ)).bind fun r => if r.1 = true then s ρ r.2 else t ρ r.2
def forL (chk : Chk) (f : MG) (body : MS) : List D → Fr → Mu → R Fl
  | [], ρ, μ => if okSrc μ chk then some (.nx ρ, μ) else none
  | d :: ds, ρ, μ => if okSrc μ chk then (f d ρ).bind fun ρ1 => (body ρ1 μ).bind fun r => match r.1 with
    | .nx ρ2 => forL chk f body ds ρ2 r.2
    | .ct ρ2 => forL chk f body ds ρ2 r.2
    | .bk ρ2 => some (.nx ρ2, r.2)
    | .rt d => some (.rt d, r.2) else none
def sFor (src : MI) (f : MG) (body : MS) : MS := fun ρ μ => (src ρ μ).bind fun s => forL s.1.1 f body s.1.2 ρ s.2
def whileL (c : ME) (body : MS) : Nat → Fr → Mu → R Fl
  | 0, _, _ => none
  | n + 1, ρ, μ => (asB (c ρ μ)).bind fun b => if b.1 = true then (body ρ b.2).bind fun r => match r.1 with
    | .nx ρ2 => whileL c body n ρ2 r.2
    | .ct ρ2 => whileL c body n ρ2 r.2
    | .bk ρ2 => some (.nx ρ2, r.2)
    | .rt d => some (.rt d, r.2) else some (.nx ρ, b.2)
def wfuel : Nat := 100000
def sWhile (c : ME) (body : MS) : MS := whileL c body wfuel
def augD (op : Operator) (x y : D) : Option D := match op, x, y with
  | .Add, .int i, .int j => some (.int (i + j))
  | .Sub, .int i, .int j => some (.int (i - j))
  | _, _, _ => none
def sAug (i : Nat) (op : Operator) (e : ME) : MS := fun ρ μ => match ρ[i]? with
  | some (some x) => (e ρ μ).bind fun r => (augD op x r.1).bind fun z => some (.nx (ρ.set i (some z)), r.2)
  | _ => none
section
variable {K : PySem.W.Frag} {al al1 : List Addr} {H H1 : Hp} {μ : Mu} {E : Ends}
theorem PostS.rebase {r : R Fl} (N : Nxt al H al1 H1) (h : PostS K al H E r) : PostS K al1 H1 E r := by
  cases r with
  | none => exact h
  | some q =>
    obtain ⟨f, μ'⟩ := q
    cases f with
    | nx ρ => exact fun σ' al' H' N' => h σ' al' H' (N.trans N')
    | rt d => exact fun v al' H' N' => h v al' H' (N.trans N')
    | bk ρ => exact fun σ' al' H' N' => h σ' al' H' (N.trans N')
    | ct ρ => exact fun σ' al' H' N' => h σ' al' H' (N.trans N')
/-- an expression ahead of what follows -/
theorem PostS.bind {α β : Type} {Rp : List Addr → Hp → β → α → Prop} {r : R α} {f : α → Mu → R Fl} (h : PostS K al H E (r.bind fun p => f p.1 p.2)) :
    Post K Rp al H (fun v H1 => ∃ al1 μ1 x, Nxt al H al1 H1 ∧ Sim K al1 μ1 H1 ∧ Rp al1 H1 v x ∧ PostS K al1 H1 E (f x μ1)) r := by
  cases r with
  | none => exact h
  | some p => exact fun v al' H' N S q => ⟨al', p.2, p.1, N, S, q, PostS.rebase N h⟩
theorem PostS.nxt {σ : L2.St} {ρ : Fr} (h : PostS K al H E (some (.nx ρ, μ))) (S : Sim K al μ H) (F : FrRep K al H σ ρ) : E.nx σ H := h σ al H .refl S F
end
section
variable {X : Cx} {tg e a b o i : Expr} {es : List Expr} {pos p : Pos} {st : Stmt} {sts sts2 : List Stmt} {m ma mb mc : ME} {s t : MS}
theorem ss_nil : PSs X [] (tS X.K sNil) := pss_nil.imp fun E σ H ⟨al, μ, ρ, S, F, P⟩ => P.nxt S F
theorem ss_cons (h1 : PS X st (tS X.K s)) (h2 : PSs X sts (tS X.K t)) : PSs X (st :: sts) (tS X.K (sSeq s t)) := (pss_cons h1 h2).imp fun E σ H ⟨al, μ, ρ, S, F, P⟩ => by
  refine ⟨al, μ, ρ, S, F, ?_⟩
  unfold sSeq at P
  cases es : s ρ μ with
  | none => rw [es] at P; exact P.elim
  | some q =>
    obtain ⟨f, μ'⟩ := q
    rw [es] at P
    cases f with
    | nx ρ1 => exact fun σ' al' H' N S' F' => ⟨al', μ', ρ1, S', F', PostS.rebase N P⟩
    | rt d => exact P
    | bk ρ1 => exact P
    | ct ρ1 => exact P
theorem ss_set {j : Nat} (h : PS X st (tAsg (tI X.K m) (L2.gName j))) : PS X st (tS X.K (sSet j m)) := h.imp fun E σ H ⟨al, μ, ρ, S, F, P⟩ =>
  ⟨al, μ, ρ, S, F, (PostS.bind (Rp := Rep X.K) (f := fun d μ1 => some (.nx (ρ.set j (some d)), μ1)) P).imp fun v H1 ⟨al1, μ1, d, N1, S1, r1, P1⟩ => P1.nxt S1 ((F.mono N1 S).set j r1)⟩
theorem ss_asg {ws : List Nat} {f : MG} (h : PS X st (tAsg (tI X.K m) (gD X.K ws f))) : PS X st (tS X.K (sAsg f m)) := h.imp fun E σ H ⟨al, μ, ρ, S, F, P⟩ =>
  ⟨al, μ, ρ, S, F, (PostS.bind (Rp := Rep X.K) (f := fun d μ1 => (f d ρ).bind fun ρ1 => some (.nx ρ1, μ1)) P).imp fun v H1 ⟨al1, μ1, d, N1, S1, r1, P1⟩ => by
    cases ef : f d ρ with
    | none => rw [ef] at P1; exact P1.elim
    | some ρ1 =>
      rw [ef] at P1
      exact ⟨al1, μ1, d, ρ, ρ1, S1, F.mono N1 S, r1, ef, fun σ' F' _ _ => P1.nxt S1 F'⟩⟩
theorem RepL.ixSet {K : PySem.W.Frag} {al : List Addr} {H : Hp} {ds : List D} {vs : List HV} {v : HV} {d : D} (r : RepL K al H vs ds) (q : Rep K al H v d) (j : Nat) : RepL K al H (vs.set j v) (ds.set j d) := r.set j q
theorem ss_sub {tpos : Pos} (he : PE X e (tI X.K m)) (ho : PE X o (tI X.K ma)) (hi : PE X i (tI X.K mb)) (hix : PlainIx i) (hsw : swapsWithSole [.Subscript o i tpos] e pos.line X.env = pure false) (hsa : ∀ v, assign (.Subscript o i tpos) X.env v = (do
      let ov ← holding [v] (eval o X.env)
      let iv ← holding [v, ov] (eval i X.env)
      standAt tpos
      holding [v, ov, iv] (setItem ov iv v)
      release [v, ov, iv] [])) : PS X (.Assign [.Subscript o i tpos] e pos) (tS X.K (sSub ma mb m)) :=
  (ps_asg he (pg_sub ho hi set_list hsa) hsw (by rfl) (by rfl)).imp fun E σ H ⟨al, μ, ρ, S, F, P⟩ => by
    refine ⟨al, μ, ρ, S, F, (PostS.bind (Rp := Rep X.K) (f := fun v μ1 => (ma ρ μ1).bind fun x => (mb ρ x.2).bind fun y => (setD x.1 y.1 v y.2).bind fun μ2 => some (.nx ρ, μ2)) P).imp fun v H1 ⟨al1, μ1, d, N1, S1, r1, P1⟩ => ?_⟩
    have F1 := F.mono N1 S
    refine ⟨al1, μ1, ρ, S1, F1, (PostS.bind (Rp := Rep X.K) (f := fun x μ2 => (mb ρ μ2).bind fun y => (setD x y.1 d y.2).bind fun μ3 => some (.nx ρ, μ3)) P1).imp fun ov H2 ⟨al2, μ2, x, N2, S2, r2, P2⟩ => ?_⟩
    have F2 := F1.mono N2 S1
    refine ⟨al2, μ2, ρ, S2, F2, (PostS.bind (Rp := Rep X.K) (f := fun y μ3 => (setD x y d μ3).bind fun μ4 => some (.nx ρ, μ4)) P2).imp fun iv H3 ⟨al3, μ3, y, N3, S3, r3, P3⟩ => ?_⟩
    have F3 := F2.mono N3 S2
    have rv := (r1.mono' N2 S1).mono' N3 S2
    have ro := r2.mono' N3 S2
    unfold setD at P3
    split at P3
    · rename_i n k _
      split at P3
      · rename_i ds hd
        obtain ⟨c, xs, rfl, hc, h1, h2⟩ := S3.get ro hd
        cases r3
        cases ej : ixN ds.length k with
        | none => rw [ej] at P3; exact P3.elim
        | some j =>
          rw [ej] at P3
          simp only [Option.bind_some] at P3
          obtain ⟨N4, S4⟩ := S3.store hc (h2.set j rv)
          exact ⟨c, xs, k, j, rfl, rfl, h1, by rw [h2.length]; exact ej, P3 σ al3 _ N4 S4 (F3.mono N4 S3)⟩
      · exact P3.elim
    · exact P3.elim
theorem ss_expr (h : PE X e (tI X.K m)) (hs : swapsWith e none pos.line X.env = pure false) : PS X (.Expr e pos) (tS X.K (sExpr m)) := (ps_expr h hs).imp fun E σ H ⟨al, μ, ρ, S, F, P⟩ =>
  ⟨al, μ, ρ, S, F, (PostS.bind (Rp := Rep X.K) (f := fun d μ1 => some (.nx ρ, μ1)) P).imp fun v H1 ⟨al1, μ1, d, N1, S1, r1, P1⟩ => P1.nxt S1 (F.mono N1 S)⟩
theorem ss_ret (h : PE X e (tI X.K m)) : PS X (.Return (some e) pos) (tS X.K (sRet m)) := (ps_ret h).imp fun E σ H ⟨al, μ, ρ, S, F, P⟩ =>
  ⟨al, μ, ρ, S, F, (PostS.bind (Rp := Rep X.K) (f := fun d μ1 => some (.rt d, μ1)) P).imp fun v H1 ⟨al1, μ1, d, N1, S1, r1, P1⟩ => P1 v al1 H1 .refl S1 r1⟩
theorem ss_retN : PS X (.Return none pos) (tS X.K sRetN) := ps_retN.imp fun E σ H ⟨al, μ, ρ, S, F, P⟩ => P .non al H .refl S .non
theorem ss_pass : PS X (.Pass pos) (tS X.K sNil) := ps_pass.imp fun E σ H ⟨al, μ, ρ, S, F, P⟩ => P.nxt S F
theorem ss_brk : PS X (.Break pos) (tS X.K sBrk) := ps_break.imp fun E σ H ⟨al, μ, ρ, S, F, P⟩ => P σ al H .refl S F
theorem ss_cnt : PS X (.Continue pos) (tS X.K sCnt) := ps_continue.imp fun E σ H ⟨al, μ, ρ, S, F, P⟩ => P σ al H .refl S F
theorem ss_no : PS X st (tS X.K sNo) := ps_never.imp fun E σ H ⟨al, μ, ρ, S, F, P⟩ => P
theorem ss_if (hc : PT X e (tTb X.K m)) (h1 : PSs X sts (tS X.K s)) (h2 : PSs X sts2 (tS X.K t)) : PS X (.If e sts sts2 pos) (tS X.K (sIf m s t)) := (ps_if hc h1 h2).imp fun E σ H ⟨al, μ, ρ, S, F, P⟩ => by
  refine ⟨al, μ, ρ, S, F, ?_⟩
  refine (PostS.bind (Rp := fun _ _ (b : Bool) c => b = c) (f := fun b μ1 => if b = true then s ρ μ1 else t ρ μ1) P).imp fun b H1 ⟨al1, μ1, b', N1, S1, r1, P1⟩ => ?_
  subst r1
  cases b with
  | true => exact ⟨al1, μ1, ρ, S1, F.mono N1 S, P1⟩
  | false => exact ⟨al1, μ1, ρ, S1, F.mono N1 S, P1⟩
theorem ss_aug {j : Nat} {op : Operator} (h : ∀ f : Int → Int → Int, (op = .Add ∧ f = fun i j => i + j) ∨ (op = .Sub ∧ f = fun i j => i - j) → PS X st (tAug j (tI X.K m) (ipI f))) : PS X st (tS X.K (sAug j op m)) := by
  by_cases ho : op = .Add ∨ op = .Sub
  · have : ∃ f : Int → Int → Int, ((op = .Add ∧ f = fun i j => i + j) ∨ (op = .Sub ∧ f = fun i j => i - j)) ∧ ∀ x y z, augD op x y = some z → ∃ i j, x = .int i ∧ y = .int j ∧ z = .int (f i j) := by
      rcases ho with rfl | rfl
      · refine ⟨_, .inl ⟨rfl, rfl⟩, fun x y z q => ?_⟩
        unfold augD at q
        split at q
        · cases q; exact ⟨_, _, rfl, rfl, rfl⟩
        · rename_i h; cases h
        · cases q
      · refine ⟨_, .inr ⟨rfl, rfl⟩, fun x y z q => ?_⟩
        unfold augD at q
        split at q
        · rename_i h; cases h
        · cases q; exact ⟨_, _, rfl, rfl, rfl⟩
        · cases q
    obtain ⟨f, hf, hz⟩ := this
    refine (h f hf).imp fun E σ H ⟨al, μ, ρ, S, F, P⟩ => ?_
    unfold sAug at P
    split at P
    · rename_i x hx
      obtain ⟨xv, hv, rx⟩ := F.at_ j x hx
      refine ⟨xv, hv, al, μ, ρ, S, F, (PostS.bind (Rp := Rep X.K) (f := fun d μ1 => (augD op x d).bind fun z => some (.nx (ρ.set j (some z)), μ1)) P).imp fun v H1 ⟨al1, μ1, d, N1, S1, r1, P1⟩ => ?_⟩
      cases ez : augD op x d with
      | none => rw [ez] at P1; exact P1.elim
      | some z =>
        rw [ez] at P1
        obtain ⟨i1, i2, rfl, rfl, rfl⟩ := hz _ _ _ ez
        cases rx
        cases r1
        exact ⟨i1, i2, rfl, rfl, P1.nxt S1 ((F.mono N1 S).set j (.int _))⟩
    · exact P.elim
  · refine ps_never.imp fun E σ H ⟨al, μ, ρ, S, F, P⟩ => ?_
    unfold sAug at P
    split at P
    · rename_i x hx
      cases er : m ρ μ with
      | none => rw [er] at P; exact P
      | some r =>
        rw [er] at P
        simp only [Option.bind_some] at P
        have : augD op x r.1 = none := by
          unfold augD
          split
          · exact absurd (.inl rfl) ho
          · exact absurd (.inr rfl) ho
          · rfl
        rw [this] at P
        exact P
    · exact P
/-! loops -/
theorem for_of {src : MI} {f : MG} {ws : List Nat} {E : Ends} {σ : L2.St} {H : Hp} {K : PySem.W.Frag} (h : tS K (sFor src f s) E σ H) : tFor (iI K src) (gD K ws f) (tS K s) E σ H := by
  obtain ⟨al, μ, ρ, S, F, P⟩ := h
  unfold sFor at P
  cases es : src ρ μ with
  | none => rw [es] at P; exact P.elim
  | some ss =>
    obtain ⟨⟨chk, items⟩, μ1⟩ := ss
    rw [es] at P
    simp only [Option.bind_some] at P
    refine ⟨al, μ, ρ, S, F, chk, items, μ1, es, fun al1 H1 J N1 S1 ok => ?_⟩
    refine ⟨fun i m σ2 H2 => m = items.length - i ∧ ∃ al2 μ2 ρ2, Nxt al1 H1 al2 H2 ∧ Sim K al2 μ2 H2 ∧ FrRep K al2 H2 σ2 ρ2 ∧ PostS K al2 H2 E (forL chk f s (items.drop i) ρ2 μ2), ⟨_, rfl, al1, μ1, ρ, .refl, S1, F.mono N1 S, PostS.rebase N1 P⟩, ?_⟩
    rintro i m σ2 H2 ⟨rfl, al2, μ2, ρ2, N2, S2, F2, P2⟩
    cases hd : items[i]? with
    | none =>
      left
      have hdrop : items.drop i = [] := List.drop_eq_nil_of_le (List.getElem?_eq_none_iff.mp hd)
      rw [hdrop] at P2
      simp only [forL] at P2
      split at P2
      · rename_i hok
        exact ⟨(ok.step al2 μ2 H2 N2 S2 hok i).2 hd, P2.nxt S2 F2⟩
      · exact P2.elim
    | some d =>
      right
      have hlt : i < items.length := (List.getElem?_eq_some_iff.mp hd).1
      have hdrop : items.drop i = d :: items.drop (i + 1) := by
        rw [List.drop_eq_getElem_cons hlt]
        have := (List.getElem?_eq_some_iff.mp hd).2
        rw [this]
      rw [hdrop] at P2
      simp only [forL] at P2
      split at P2
      · rename_i hok
        obtain ⟨hgo, hy⟩ := (ok.step al2 μ2 H2 N2 S2 hok i).1 d hd
        refine ⟨hgo, fun σ3 H3 => ∃ al3 μ3 ρ3, Nxt al1 H1 al3 H3 ∧ Sim K al3 μ3 H3 ∧ FrRep K al3 H3 σ3 ρ3 ∧ PostS K al3 H3 E (forL chk f s (items.drop (i + 1)) ρ3 μ3), fun σ' H' q => ⟨items.length - (i + 1), by omega, rfl, q⟩, fun x H' y => ?_⟩
        obtain ⟨N3, S3, r3⟩ := hy x H' y
        cases ef : f d ρ2 with
        | none => rw [ef] at P2; exact P2.elim
        | some ρ1 =>
          rw [ef] at P2
          simp only [Option.bind_some] at P2
          refine ⟨al2, μ2, d, ρ2, ρ1, S3, F2.mono N3 S2, r3, ef, fun σ' F' _ _ => ⟨al2, μ2, ρ1, S3, F', ?_⟩⟩
          have P3 := PostS.rebase N3 P2
          cases eb : s ρ1 μ2 with
          | none => rw [eb] at P3; exact P3.elim
          | some q =>
            obtain ⟨fl, μ4⟩ := q
            rw [eb] at P3
            simp only [Option.bind_some] at P3
            cases fl with
            | nx ρ4 => exact fun σ4 al4 H4 N4 S4 F4 => ⟨al4, μ4, ρ4, (N2.trans N3).trans N4, S4, F4, PostS.rebase N4 P3⟩
            | ct ρ4 => exact fun σ4 al4 H4 N4 S4 F4 => ⟨al4, μ4, ρ4, (N2.trans N3).trans N4, S4, F4, PostS.rebase N4 P3⟩
            | bk ρ4 => exact P3
            | rt d4 => exact P3
      · exact P2.elim
theorem while_of {E : Ends} {σ : L2.St} {H : Hp} {K : PySem.W.Frag} {n : Nat} (h : tS K (whileL m s n) E σ H) : tWhile (tTb K m) (tS K s) E σ H := by
  refine ⟨fun k σ2 H2 => tS K (whileL m s k) E σ2 H2, ⟨n, h⟩, fun k σ2 H2 w => ?_⟩
  obtain ⟨al, μ, ρ, S, F, P⟩ := w
  cases k with
  | zero => exact P.elim
  | succ k =>
    simp only [whileL] at P
    refine ⟨al, μ, ρ, S, F, ?_⟩
    refine (PostS.bind (Rp := fun _ _ (b : Bool) c => b = c) (f := fun b μ1 => if b = true then (s ρ μ1).bind fun r => match r.1 with
      | .nx ρ2 => whileL m s k ρ2 r.2
      | .ct ρ2 => whileL m s k ρ2 r.2
      | .bk ρ2 => some (.nx ρ2, r.2)
      | .rt d => some (.rt d, r.2) else some (.nx ρ, μ1)) P).imp fun b H1 ⟨al1, μ1, b', N1, S1, r1, P1⟩ => ?_
    subst r1
    cases b with
    | false => exact P1.nxt S1 (F.mono N1 S)
    | true =>
      rw [if_pos rfl]
      simp only [if_true] at P1
      refine ⟨fun σ3 H3 => tS K (whileL m s k) E σ3 H3, fun σ' H' q => ⟨k, by omega, q⟩, al1, μ1, ρ, S1, F.mono N1 S, ?_⟩
      cases eb : s ρ μ1 with
      | none => rw [eb] at P1; exact P1.elim
      | some q =>
        obtain ⟨fl, μ4⟩ := q
        rw [eb] at P1
        simp only [Option.bind_some] at P1
        cases fl with
        | nx ρ4 => exact fun σ4 al4 H4 N4 S4 F4 => ⟨al4, μ4, ρ4, S4, F4, PostS.rebase N4 P1⟩
        | ct ρ4 => exact fun σ4 al4 H4 N4 S4 F4 => ⟨al4, μ4, ρ4, S4, F4, PostS.rebase N4 P1⟩
        | bk ρ4 => exact P1
        | rt d4 => exact P1
end
end G
set_option Elab.async false
set_option linter.all false
set_option maxRecDepth 100000
set_option maxHeartbeats 4000000
/-! G10: from the text to what it does. -/
namespace G
open PySem L2
structure Ctx where
  N : List Str
  fn : Str → Option (List D → Mu → R D)
  cst : Str → Option D
  free : Str → Bool
  md : Pos → Bool
def ixOf (N : List Str) (x : Str) : Option Nat := N.findIdx? fun y => decide (y = x)
theorem ixOf_ok {N : List Str} {x : Str} {i : Nat} (h : ixOf N x = some i) : N[i]? = some x := by
  unfold ixOf at h
  obtain ⟨h1, h2, _⟩ := List.findIdx?_eq_some_iff_getElem.mp h
  rw [List.getElem?_eq_getElem h1]
  simpa using h2
def nameOk (x : Str) : Bool := !(x == ("__debug__" : Str)) && !(x == ("__classdict__" : Str)) && !(x == ("__name__" : Str))
theorem nameOk_1 {x : Str} (h : nameOk x = true) : (x == ("__debug__" : Str)) = false := by
  simp only [nameOk, Bool.and_eq_true, Bool.not_eq_true'] at h
  exact h.1.1
theorem nameOk_2 {x : Str} (h : nameOk x = true) : (x == ("__classdict__" : Str)) = false := by
  simp only [nameOk, Bool.and_eq_true, Bool.not_eq_true'] at h
  exact h.1.2
def isLoc (sc : Scope) (x : Str) : Bool := match sc.names.lookup x with
  | some .local => true
  | some .cell => true
  | _ => false
def isVis (sc : Scope) (x : Str) : Bool := match sc.names.lookup x with
  | some .local => true
  | some .cell => true
  | some .free => true
  | _ => false
def isGl (sc : Scope) (x : Str) : Bool := match sc.names.lookup x with
  | some .globalImplicit => true
  | _ => false
def notIf : Expr → Bool
  | .IfExp _ _ _ _ => false
  | _ => true
def notSlice : Expr → Bool
  | .Slice _ _ _ _ => false
  | _ => true
def notSet : Expr → Bool
  | .Set _ _ _ => false
  | _ => true
def notComp : Expr → Bool
  | .ListComp _ _ _ _ => false
  | .SetComp _ _ _ _ => false
  | .DictComp _ _ _ _ _ => false
  | _ => true
def notTup : Expr → Bool
  | .Tuple _ _ _ => false
  | _ => true
def denName (c : Ctx) (sc : Scope) (x : Str) : Option ME := if nameOk x then (if isVis sc x then (ixOf c.N x).map eVar else if isGl sc x then (c.cst x).map eCon else none) else none
abbrev Rec := Scope → Expr → Option ME
def denCmp (rec : Rec) (sc : Scope) (a : Expr) : List CmpOp → List Expr → Option ME
  | [.Is], [.Constant .none _ _] => (rec sc a).map (e1 isNoneD)
  | [.IsNot], [.Constant .none _ _] => (rec sc a).map (e1 notNoneD)
  | [op], [b] => if behindInMarks op b = false then (cmpD op).bind fun f => (rec sc a).bind fun ma => (rec sc b).map fun mb => e2 f ma mb else none
  | [op, op'], [b, d] => if lastMarks [op, op'] [b, d] = false then (cmpD op).bind fun f => (cmpD op').bind fun g => (rec sc a).bind fun ma => (rec sc b).bind fun mb => (rec sc d).map fun md => eChain f g ma mb md else none
  | _, _ => none
def denO (rec : Rec) (sc : Scope) : Option Expr → Option MO
  | none => some oNone
  | some e => (rec sc e).map oSome
def denSub (rec : Rec) (sc : Scope) (a : Expr) : Expr → Option ME
  | .Slice lo hi none _ => (rec sc a).bind fun ma => (denO rec sc lo).bind fun ml => (denO rec sc hi).map fun mh => eSl ma ml mh
  | .Slice none none (some (.UnaryOp .USub (.Constant (.int 1) _ _) _)) _ => (rec sc a).map (e1 revD)
  | i => if notSlice i then (rec sc a).bind fun ma => (rec sc i).map fun mi => e2 ixD ma mi else none
def denIter (c : Ctx) (rec : Rec) (sc : Scope) : Expr → Option MI
  | .Call (.Name f p) as [] q => if f = "range" then (if isGl sc f && c.free f then (match as with
      | [a] => if notStar a then (rec sc a).map fun m => iRng (lCons m lNil) else none
      | [a, b] => if notStar a && notStar b then (rec sc a).bind fun m => (rec sc b).map fun m2 => iRng (lCons m (lCons m2 lNil)) else none
      | _ => none) else none) else (rec sc (.Call (.Name f p) as [] q)).map iVal
  | e => (rec sc e).map iVal
def denTg (c : Ctx) (sc : Scope) : Nat → Expr → Option (MG × List Nat)
  | _, .Name x _ => if isLoc sc x then (ixOf c.N x).map fun i => (gName i, [i]) else none
  | n + 1, .Tuple es _ _ => if es.all notStar then (mapO (denTg c sc n) es).map fun ps => (gTup (ps.map (·.1)), (ps.map (·.2)).flatten) else none
  | _, _ => none
def ownOf (N : List Str) (scope : Scope) : List (Str × Nat) := scope.names.filterMap fun q => match q.2 with
  | .local => (ixOf N q.1).map fun i => (q.1, i)
  | .cell => (ixOf N q.1).map fun i => (q.1, i)
  | _ => none
def denIfs (rec : Rec) (sc : Scope) : List Expr → Option ME
  | [] => some (eCon (.bl true))
  | [e] => if notIf e then rec sc e else none
  | _ => none
def denComp (c : Ctx) (rec : Rec) (sc : Scope) (elt : Expr) (scope : Scope) (keep : Bool) : List Comprehension → Option ME
  | [⟨tg, iter, ifs, 0⟩] => if blkC c.N sc scope (ownOf c.N scope) && notSet iter then
      (denIter c rec sc iter).bind fun mi => (denTg c scope 4 tg).bind fun g => (denIfs rec scope ifs).bind fun mc => (rec scope elt).bind fun me =>
        if g.2.all fun i => ((ownOf c.N scope).map (·.2)).contains i then some (eComp mi g.1 ((ownOf c.N scope).map (·.2)) mc me keep) else none
    else none
  | _ => none
/-- len(set(a)), sorted(set(a)) -/
def denSet (c : Ctx) (rec : Rec) (sc : Scope) (x : Str) : List Expr → Option ME
  | [.Call (.Name s _) [a] [] _] => if s = "set" ∧ isGl sc s = true ∧ c.free s = true ∧ notStar a = true then
      (if x = "len" then (rec sc a).map (e1 lenSetD) else if x = "sorted" then (rec sc a).map (e1 sortSetD) else none) else none
  | _ => none
def denCall (c : Ctx) (rec : Rec) (sc : Scope) (pos : Pos) : Expr → List Expr → Option ME
  | .Name x _, as => if isGl sc x && nameOk x && as.all notStar then (match c.fn x with
    | some g => (mapO (rec sc) as).map fun ms => eL g (lAll ms)
    | none => if c.free x then (if x = "isinstance" then (match as with
        | [a, .Name t _] => if isGl sc t && c.free t then (tyT t).bind fun T => (rec sc a).map (e1 (isiD T)) else none
        | _ => none) else if as.isEmpty then none else if x = "list" ∧ c.md pos = true then (mapO (rec sc) as).map fun ms => eL listNewD (lAll ms) else match denSet c rec sc x as with
          | some m => some m
          | none => (biD x).bind fun g => (mapO (rec sc) as).map fun ms => eL g (lAll ms)) else none) else none
  | .Attribute o m apos, as => if m = "join" then (match as with
    | [b] => if notStar b && plainO o && (apos.endLine == pos.line) then (rec sc o).bind fun mo => (rec sc b).map fun mb => eJoin mo mb else none
    | _ => none) else none
  | _, _ => none
def denStep (c : Ctx) (rec : Rec) (sc : Scope) : Expr → Option ME
  | .Constant k _ _ => match k with
    | .int i => some (eCon (.int i))
    | .str x => some (eCon (.str x))
    | .bool b => some (eCon (.bl b))
    | .none => some (eCon .non)
    | _ => none
  | .Name x _ => denName c sc x
  | .BinOp a op b _ => (binD op).bind fun f => (rec sc a).bind fun ma => (rec sc b).map fun mb => e2 f ma mb
  | .UnaryOp op a _ => match op with
    | .Not => if notIf a then (rec sc a).map eNot else none
    | .USub => (rec sc a).map (e1 negD)
    | _ => none
  | .BoolOp op vs _ => if vs.all notIf then (mapO (rec sc) vs).bind (boolM op) else none
  | .IfExp t a b _ => if notIf t then (rec sc t).bind fun mt => (rec sc a).bind fun ma => (rec sc b).map fun mb => eIf mt ma mb else none
  | .Compare a ops bs _ => denCmp rec sc a ops bs
  | .Tuple es _ _ => if es.all notStar then (mapO (rec sc) es).map fun ms => eL tupD (lAll ms) else none
  | .List es pos => if es.all notStar then (mapO (rec sc) es).map fun ms => eL (if c.md pos then newD else flD) (lAll ms) else none
  | .Subscript a i _ => denSub rec sc a i
  | .ListComp elt gens scope pos => denComp c rec sc elt scope (c.md pos) gens
  | .Call f as kws pos => match kws with
    | [] => denCall c rec sc pos f as
    | _ => none
  | _ => none
def den (c : Ctx) : Nat → Rec
  | 0 => fun _ _ => none
  | n + 1 => denStep c (den c n)
/-! ### what the context must be -/
structure XOk (X : Cx) (c : Ctx) (sc : Scope) : Prop where
  nd : X.N.Nodup
  N : X.N = c.N
  calm : X.calm = true
  xe : X.xe = fun _ _ => False
  kind : X.env.scope.kind = .function
  look : ∀ x k, sc.names.lookup x = some k → X.env.scope.names.lookup x = some k ∨ (k = .free ∧ X.env.scope.names.lookup x = some .cell)
  fnc : ∀ x, sc.names.lookup x = some .cell → X.fn x = true
  un : X.A.units + 67 < cLine
  free : ∀ x, c.free x = true → X.mg x = none
  cst : ∀ x d, c.cst x = some d → ∃ u v, X.mg x = some u ∧ RelV v u ∧ ∀ al H, Rep X.K al H v d
  fns : ∀ x g, c.fn x = some g → ∃ f fd ps k, X.mg x = some (.ref f) ∧ PySem.W.keepIn X.K (.ref f) = true ∧ Binds X.K fd ps [] ∧ FnOk X.prog X.w X.K X.mg X.base CX0 k f fd ps (spF X.K g) ∧ Room k X.A
section
variable {X : Cx} {c : Ctx} {sc : Scope} {rec : Rec}
theorem XOk.vis (O : XOk X c sc) {x : Str} (h : isVis sc x = true) : Vis X.env.scope x := by
  unfold isVis at h
  split at h
  · rename_i e
    rcases O.look _ _ e with q | ⟨q, _⟩
    · exact .inl q
    · cases q
  · rename_i e
    rcases O.look _ _ e with q | ⟨q, _⟩
    · exact .inr (.inl q)
    · cases q
  · rename_i e
    rcases O.look _ _ e with q | ⟨_, q⟩
    · exact .inr (.inr q)
    · exact .inr (.inl q)
  · cases h
theorem XOk.loc (O : XOk X c sc) {x : Str} (h : isLoc sc x = true) : Loc X.env.scope x ∧ (X.fn x = true ∨ X.env.scope.names.lookup x = some .local) := by
  unfold isLoc at h
  split at h
  · rename_i e
    rcases O.look _ _ e with q | ⟨q, _⟩
    · exact ⟨.inl q, .inr q⟩
    · cases q
  · rename_i e
    rcases O.look _ _ e with q | ⟨q, _⟩
    · exact ⟨.inr q, .inl (O.fnc _ e)⟩
    · cases q
  · cases h
theorem XOk.gl (O : XOk X c sc) {x : Str} (h : isGl sc x = true) : Gl X x := by
  unfold isGl at h
  split at h
  · rename_i e
    rcases O.look _ _ e with q | ⟨q, _⟩
    · exact q
    · cases q
  · cases h
theorem XOk.ix (O : XOk X c sc) {x : Str} {i : Nat} (h : ixOf c.N x = some i) : X.N[i]? = some x := by
  rw [O.N]
  exact ixOf_ok h
/-- what rec tells is so -/
def RecOk (c : Ctx) (rec : Rec) : Prop := ∀ (X : Cx) (sc : Scope), XOk X c sc → ∀ e m, rec sc e = some m → PE X e (tI X.K m) ∧ (notIf e = true → PT X e (tTb X.K m))
theorem RecOk.pe (h : RecOk c rec) (O : XOk X c sc) {e : Expr} {m : ME} (q : rec sc e = some m) : PE X e (tI X.K m) := (h X sc O e m q).1
theorem RecOk.pt (h : RecOk c rec) (O : XOk X c sc) {e : Expr} {m : ME} (q : rec sc e = some m) (n : notIf e = true) : PT X e (tTb X.K m) := (h X sc O e m q).2 n
theorem RecOk.all (h : RecOk c rec) (O : XOk X c sc) : ∀ {es : List Expr} {ms : List ME}, mapO (rec sc) es = some ms → Paired (fun (e : Expr) (m : ME) => PE X e (tI X.K m)) es ms
  | [], _, e => by cases e; exact .nil
  | a :: es, _, e => by
    unfold mapO at e
    cases q : rec sc a with
    | none => rw [q] at e; cases e
    | some p =>
      rw [q] at e
      cases q2 : mapO (rec sc) es with
      | none => rw [q2] at e; cases e
      | some ps =>
        rw [q2] at e
        cases e
        exact .cons (h.pe O q) (h.all O q2)
theorem RecOk.all2 (h : RecOk c rec) (O : XOk X c sc) : ∀ {es : List Expr} {ms : List ME}, mapO (rec sc) es = some ms → es.all notIf = true → Paired (fun (e : Expr) (m : ME) => PE X e (tI X.K m) ∧ PT X e (tTb X.K m)) es ms
  | [], _, e, _ => by cases e; exact .nil
  | a :: es, _, e, n => by
    simp only [List.all_cons, Bool.and_eq_true] at n
    unfold mapO at e
    cases q : rec sc a with
    | none => rw [q] at e; cases e
    | some p =>
      rw [q] at e
      cases q2 : mapO (rec sc) es with
      | none => rw [q2] at e; cases e
      | some ps =>
        rw [q2] at e
        cases e
        exact .cons ⟨h.pe O q, h.pt O q n.1⟩ (h.all2 O q2 n.2)
theorem both {e : Expr} {m : ME} (h : PE X e (tI X.K m)) (hv : ∀ whole, isTrue e X.env whole = (do let v ← whole; standAt e.pos; holding [v] (truthy v))) : PE X e (tI X.K m) ∧ (notIf e = true → PT X e (tTb X.K m)) := ⟨h, fun _ => st_val h hv⟩
theorem denName_ok (O : XOk X c sc) {x : Str} {p : Pos} {m : ME} (h : denName c sc x = some m) : PE X (.Name x p) (tI X.K m) := by
  unfold denName at h
  split at h
  · rename_i hn
    split at h
    · rename_i hv
      rw [Option.map_eq_some_iff] at h
      obtain ⟨i, e, rfl⟩ := h
      exact se_var (pe_var (O.ix e) (O.vis hv) (nameOk_1 hn) (nameOk_2 hn))
    · split at h
      · rename_i hg
        rw [Option.map_eq_some_iff] at h
        obtain ⟨d, e, rfl⟩ := h
        obtain ⟨u, v, h1, h2, h3⟩ := O.cst _ _ e
        exact se_con (pe_glob (O.gl hg) h1 h2 (nameOk_1 hn)) h3
      · cases h
  · cases h
theorem cmpD_not {op : CmpOp} (h : op = .Is ∨ op = .IsNot) : cmpD op = none := by
  rcases h with rfl | rfl <;> rfl
theorem denCmp_ok (h : RecOk c rec) (O : XOk X c sc) {a : Expr} {ops : List CmpOp} {bs : List Expr} {p : Pos} {m : ME} (q : denCmp rec sc a ops bs = some m) : PE X (.Compare a ops bs p) (tI X.K m) ∧ PT X (.Compare a ops bs p) (tTb X.K m) := by
  have hu : X.A.units + 65 < cLine := by have := O.un; omega
  unfold denCmp at q
  split at q
  · rw [Option.map_eq_some_iff] at q
    obtain ⟨ma, e, rfl⟩ := q
    exact ⟨se_isN (h.pe O e), st_isN (h.pe O e)⟩
  · rw [Option.map_eq_some_iff] at q
    obtain ⟨ma, e, rfl⟩ := q
    exact ⟨se_notN (h.pe O e), st_notN (h.pe O e)⟩
  · split at q
    · rename_i hb
      simp only [Option.bind_eq_some_iff, Option.map_eq_some_iff] at q
      obtain ⟨f, e1, ma, e2, mb, e3, rfl⟩ := q
      exact ⟨se_cmp hu e1 hb (h.pe O e2) (h.pe O e3), st_cmp hu e1 hb (h.pe O e2) (h.pe O e3)⟩
    · cases q
  · split at q
    · rename_i hb
      simp only [Option.bind_eq_some_iff, Option.map_eq_some_iff] at q
      obtain ⟨f, e1, g, e2, ma, e3, mb, e4, md, e5, rfl⟩ := q
      exact ⟨se_chain hu e1 e2 hb (h.pe O e3) (h.pe O e4) (h.pe O e5), st_chain hu e1 e2 hb (h.pe O e3) (h.pe O e4) (h.pe O e5)⟩
    · cases q
  · cases q
theorem denO_ok (h : RecOk c rec) (O : XOk X c sc) {o : Option Expr} {m : MO} (q : denO rec sc o = some m) : PO X o (tO X.K m) := by
  cases o with
  | none => cases q; exact so_none
  | some e =>
    simp only [denO, Option.map_eq_some_iff] at q
    obtain ⟨ma, e, rfl⟩ := q
    exact so_some (h.pe O e)
theorem plain_ix {i : Expr} (h : notSlice i = true) : PlainIx i := by
  intro o v
  cases i <;> first | rfl | (simp [notSlice] at h)
theorem denSub_ok (h : RecOk c rec) (O : XOk X c sc) {a i : Expr} {p : Pos} {m : ME} (q : denSub rec sc a i = some m) : PE X (.Subscript a i p) (tI X.K m) := by
  unfold denSub at q
  split at q
  · simp only [Option.bind_eq_some_iff, Option.map_eq_some_iff] at q
    obtain ⟨ma, e1, ml, e2, mh, e3, rfl⟩ := q
    exact se_slice (h.pe O e1) (denO_ok h O e2) (denO_ok h O e3)
  · simp only [Option.map_eq_some_iff] at q
    obtain ⟨ma, e1, rfl⟩ := q
    exact se_rev (h.pe O e1)
  · split at q
    · rename_i hs
      simp only [Option.bind_eq_some_iff, Option.map_eq_some_iff] at q
      obtain ⟨ma, e1, mi, e2, rfl⟩ := q
      exact se_ix (h.pe O e1) (h.pe O e2) (plain_ix hs)
    · cases q
theorem denIter_ok (h : RecOk c rec) (O : XOk X c sc) {e tg : Expr} {m : MI} (q : denIter c rec sc e = some m) : PI X tg e (iI X.K m) := by
  unfold denIter at q
  split at q
  · split at q
    · rename_i hf
      subst hf
      split at q
      · rename_i hg
        rw [Bool.and_eq_true] at hg
        split at q
        · split at q
          · rename_i hs
            simp only [Option.map_eq_some_iff] at q
            obtain ⟨ma, e1, rfl⟩ := q
            exact si_rng1 (O.gl hg.1) (O.free _ hg.2) (h.pe O e1) hs
          · cases q
        · split at q
          · rename_i hs
            rw [Bool.and_eq_true] at hs
            simp only [Option.bind_eq_some_iff, Option.map_eq_some_iff] at q
            obtain ⟨ma, e1, mb, e2, rfl⟩ := q
            exact si_rng2 (O.gl hg.1) (O.free _ hg.2) (h.pe O e1) (h.pe O e2) hs.1 hs.2
          · cases q
        · cases q
      · cases q
    · simp only [Option.map_eq_some_iff] at q
      obtain ⟨ma, e1, rfl⟩ := q
      exact si_val (h.pe O e1)
  · simp only [Option.map_eq_some_iff] at q
    obtain ⟨ma, e1, rfl⟩ := q
    exact si_val (h.pe O e1)
theorem denTg_ok (O : XOk X c sc) : ∀ (n : Nat) {e : Expr} {g : MG × List Nat}, denTg c sc n e = some g → PG X e (gD X.K g.2 g.1) := by
  intro n
  have nm : ∀ {x : Str} {p : Pos} {g : MG × List Nat}, (if isLoc sc x then (ixOf c.N x).map fun i => (gName i, [i]) else none) = some g → PG X (.Name x p) (gD X.K g.2 g.1) := by
    intro x p g q
    split at q
    · rename_i hl
      simp only [Option.map_eq_some_iff] at q
      obtain ⟨i, e1, rfl⟩ := q
      exact sg_name (pg_name O.nd (O.ix e1) (O.loc hl).1 (O.loc hl).2)
    · cases q
  induction n with
  | zero =>
    intro e g q
    cases e with
    | Name x p => exact nm q
    | _ => cases q
  | succ n ih =>
    intro e g q
    cases e with
    | Name x p => exact nm q
    | Tuple es k p =>
      simp only [denTg] at q
      split at q
      · rename_i hs
        simp only [Option.map_eq_some_iff] at q
        obtain ⟨ps, e1, rfl⟩ := q
        have all : ∀ {es : List Expr} {ps : List (MG × List Nat)}, es.all notStar = true → mapO (denTg c sc n) es = some ps → PGs X es (gDs X.K (ps.map (·.2)).flatten (ps.map (·.1))) := by
          intro es
          induction es with
          | nil =>
            intro ps _ e
            cases e
            exact sgs_nil
          | cons a es ih2 =>
            intro ps hs e
            simp only [List.all_cons, Bool.and_eq_true] at hs
            unfold mapO at e
            cases q1 : denTg c sc n a with
            | none => rw [q1] at e; cases e
            | some p1 =>
              rw [q1] at e
              cases q2 : mapO (denTg c sc n) es with
              | none => rw [q2] at e; cases e
              | some p2 =>
                rw [q2] at e
                cases e
                simp only [List.map_cons, List.flatten_cons]
                exact sgs_cons (ih q1) (ih2 hs.2 q2) hs.1
        exact sg_tup O.calm (all hs e1) hs (by rw [List.length_map, mapO_length e1])
      · cases q
    | _ => cases q
end
end G
set_option Elab.async false
set_option linter.all false
set_option maxRecDepth 100000
set_option maxHeartbeats 4000000
/-! G11: the text's readings do what is told of them. -/
namespace G
open PySem L2
theorem lookup_relab (g : Str → NameKind → Bool) : ∀ (l : List (Str × NameKind)) (x : Str), (l.map fun (q : Str × NameKind) => if g q.1 q.2 = true then (q.1, NameKind.cell) else (q.1, q.2)).lookup x = (l.lookup x).map fun k => if g x k = true then .cell else k
  | [], x => rfl
  | (n, k) :: r, x => by
    have ih := lookup_relab g r x
    simp only [List.map_cons]
    by_cases hx : x = n
    · subst hx
      by_cases hg : g x k = true
      · simp [hg, List.lookup_cons]
      · simp [hg, List.lookup_cons]
    · have hb : (x == n) = false := by simpa using hx
      by_cases hg : g n k = true
      · rw [if_pos hg, List.lookup_cons, hb, List.lookup_cons, hb]
        exact ih
      · rw [if_neg hg, List.lookup_cons, hb, List.lookup_cons, hb]
        exact ih
section
variable {X : Cx} {c : Ctx} {sc : Scope} {rec : Rec}
theorem relab_names (scope : Scope) (env : Env) (x : Str) : (relabel scope env).names.lookup x = (scope.names.lookup x).map fun k => if (k == NameKind.free && env.scope.kind == .function && env.kindOf x == some .cell) = true then .cell else k :=
  lookup_relab (fun n k => k == NameKind.free && env.scope.kind == .function && env.kindOf n == some .cell) scope.names x
theorem XOk.blkOk (O : XOk X c sc) {scope : Scope} {own : List (Str × Nat)} (h : blkC c.N sc scope own = true) : BlkOk X.N X.env.scope scope own := by
  have B := blkOk_by h
  refine ⟨B.kind, B.uniq, by rw [O.N]; exact B.ix, fun y hy e => ?_, by rw [O.N]; exact B.own⟩
  rcases B.free y hy e with q | q
  · rcases O.look _ _ q with z | ⟨z, _⟩
    · exact .inl z
    · cases z
  · rcases O.look _ _ q with z | ⟨_, z⟩
    · exact .inr z
    · exact .inl z
theorem XOk.blk (O : XOk X c sc) {scope : Scope} {own : List (Str × Nat)} (h : blkC c.N sc scope own = true) (s : Shared) (H : Hp) (C : Addr) (cl : List (Str × Addr)) (fp : List Addr) : XOk (X.blk s H scope (compEnvC scope cl C X.env) fp) c scope where
  nd := O.nd
  N := O.N
  calm := O.calm
  xe := rfl
  kind := (blkOk_by h).kind
  look := fun x k e => by
    show (relabel scope X.env).names.lookup x = some k ∨ _
    rw [relab_names, e]
    simp only [Option.map_some, Option.some.injEq]
    by_cases hg : (k == NameKind.free && X.env.scope.kind == .function && X.env.kindOf x == some .cell) = true
    · right
      refine ⟨?_, ?_⟩
      · simp only [Bool.and_eq_true, beq_iff_eq] at hg
        exact hg.1.1
      · show (relabel scope X.env).names.lookup x = _
        rw [relab_names, e]
        simp only [Option.map_some, if_pos hg]
    · left
      rw [if_neg hg]
  fnc := fun x e => by
    show (scope.names.lookup x == some .cell) = true
    rw [e]
    rfl
  un := O.un
  free := O.free
  cst := O.cst
  fns := O.fns
theorem set_ok {e : Expr} (h : notSet e = true) (env : Env) : ∀ x, foldedSetIterable e env x = pure x := by
  intro x
  cases e <;> first | rfl | (simp [notSet] at h)
theorem denIfs_ok (h : RecOk c rec) (O : XOk X c sc) {es : List Expr} {m : ME} (q : denIfs rec sc es = some m) : PTs X es (tTb X.K m) := by
  unfold denIfs at q
  split at q
  · cases q
    exact ⟨fun pins s σ H Q I hh => pts_nil.run pins s σ H Q I (by
      obtain ⟨al, μ, ρ, S, F, P⟩ := hh
      exact P.now S rfl)⟩
  · split at q
    · rename_i hn
      exact pts_one (h.pt O q hn)
    · cases q
  · cases q
/-- a comprehension's parts -/
structure CompOk (X : Cx) (c : Ctx) (sc : Scope) (elt : Expr) (scope : Scope) (gens : List Comprehension) (m : ME) : Prop where
  ex : ∃ tg iter ifs mi g vs mc me keep own, gens = [⟨tg, iter, ifs, 0⟩] ∧ m = eComp mi g (own.map (·.2)) mc me keep ∧ PI X tg iter (iI X.K mi) ∧ BlkOk X.N X.env.scope scope own ∧ (∀ i ∈ vs, i ∈ own.map (·.2)) ∧
    (∀ s H C cl fp, PG (X.blk s H scope (compEnvC scope cl C X.env) fp) tg (gD X.K vs g)) ∧ (∀ s H C cl fp, PTs (X.blk s H scope (compEnvC scope cl C X.env) fp) ifs (tTb X.K mc)) ∧
    (∀ s H C cl fp, PE (X.blk s H scope (compEnvC scope cl C X.env) fp) elt (tI X.K me)) ∧ ∀ x, foldedSetIterable iter X.env x = pure x
theorem denComp_ok (h : RecOk c rec) (O : XOk X c sc) {elt : Expr} {scope : Scope} {keep : Bool} {gens : List Comprehension} {m : ME} (q : denComp c rec sc elt scope keep gens = some m) : CompOk X c sc elt scope gens m := by
  unfold denComp at q
  split at q
  · rename_i tg iter ifs
    split at q
    · rename_i hb
      rw [Bool.and_eq_true] at hb
      simp only [Option.bind_eq_some_iff] at q
      obtain ⟨mi, e1, g, e2, mc, e3, me, e4, q⟩ := q
      split at q
      · rename_i hw
        cases q
        refine ⟨tg, iter, ifs, mi, g.1, g.2, mc, me, keep, ownOf c.N scope, rfl, rfl, denIter_ok h O e1, O.blkOk hb.1, fun i hi => ?_, fun s H C cl fp => denTg_ok (O.blk hb.1 s H C cl fp) 4 e2, fun s H C cl fp => denIfs_ok h (O.blk hb.1 s H C cl fp) e3, fun s H C cl fp => h.pe (O.blk hb.1 s H C cl fp) e4, set_ok hb.2 _⟩
        have := List.all_eq_true.mp hw i hi
        simpa using this
      · cases q
    · cases q
  · cases q
theorem CompOk.pe {elt : Expr} {scope : Scope} {gens : List Comprehension} {m : ME} (O : XOk X c sc) (k : CompOk X c sc elt scope gens m) (p : Pos) : PE X (.ListComp elt gens scope p) (tI X.K m) := by
  obtain ⟨tg, iter, ifs, mi, g, vs, mc, me, keep, own, rfl, rfl, h1, h2, h3, h4, h5, h6, h7⟩ := k.ex
  exact (pe_lc O.calm O.nd h1 h2 h4 h5 h6 h7).imp fun σ H Q q => comp_of h3 q
theorem CompOk.set {elt : Expr} {scope : Scope} {gens : List Comprehension} {m : ME} (O : XOk X c sc) (k : CompOk X c sc elt scope gens m) {i : Nat} {y : Str} {p py spos : Pos} (hy : X.N[i]? = some y) (hl : X.env.scope.names.lookup y = some .local)
    (hw : swapsWith (.ListComp elt gens scope p) (some (.Name y py)) spos.line X.env = pure true) : PS X (.Assign [.Name y py] (.ListComp elt gens scope p) spos) (tS X.K (sSet i m)) := by
  obtain ⟨tg, iter, ifs, mi, g, vs, mc, me, keep, own, rfl, rfl, h1, h2, h3, h4, h5, h6, h7⟩ := k.ex
  exact ss_set ((ps_setLc O.calm O.nd hy hl hw h1 h2 h4 h5 h6 h7).imp fun E σ H q => comp_of h3 q)
theorem denSet_ok (h : RecOk c rec) (O : XOk X c sc) {pos p : Pos} {x : Str} {as : List Expr} {m : ME} (hg : isGl sc x = true) (hf : c.free x = true) (q : denSet c rec sc x as = some m) : PE X (.Call (.Name x p) as [] pos) (tI X.K m) := by
  unfold denSet at q
  split at q
  · split at q
    · rename_i hc
      obtain ⟨rfl, h1, h2, h3⟩ := hc
      split at q
      · rename_i hx
        subst hx
        rw [Option.map_eq_some_iff] at q
        obtain ⟨ma, e1, rfl⟩ := q
        exact se_lenSet O.calm O.un (O.gl hg) (O.free _ hf) (O.gl h1) (O.free _ h2) (h.pe O e1) h3
      · split at q
        · rename_i hx
          subst hx
          rw [Option.map_eq_some_iff] at q
          obtain ⟨ma, e1, rfl⟩ := q
          exact se_sortSet O.calm O.un (O.gl hg) (O.free _ hf) (O.gl h1) (O.free _ h2) (h.pe O e1) h3
        · cases q
    · cases q
  · cases q
theorem denCall_ok (h : RecOk c rec) (O : XOk X c sc) {pos : Pos} {f : Expr} {as : List Expr} {m : ME} (q : denCall c rec sc pos f as = some m) : PE X (.Call f as [] pos) (tI X.K m) := by
  unfold denCall at q
  split at q
  · rename_i x p
    split at q
    · rename_i hg
      simp only [Bool.and_eq_true] at hg
      obtain ⟨⟨hgl, hn⟩, hs⟩ := hg
      split at q
      · rename_i g hf
        simp only [Option.map_eq_some_iff] at q
        obtain ⟨ms, e1, rfl⟩ := q
        obtain ⟨f, fd, ps, k, h1, h2, h3, h4, h5⟩ := O.fns _ _ hf
        have ha := sa_all (h.all O e1) hs
        cases as with
        | nil =>
          cases e1
          exact se_call0 h4 h5 (O.gl hgl) h1 h2 h3 (nameOk_1 hn)
        | cons a as => exact se_call h4 h5 (O.gl hgl) h1 h2 h3 (nameOk_1 hn) ha hs
      · split at q
        · rename_i hfree
          split at q
          · rename_i hx
            subst hx
            split at q
            · rename_i a t p2
              split at q
              · rename_i ht
                rw [Bool.and_eq_true] at ht
                simp only [Option.bind_eq_some_iff, Option.map_eq_some_iff] at q
                obtain ⟨T, e1, ma, e2, rfl⟩ := q
                simp only [List.all_cons, Bool.and_eq_true] at hs
                exact se_isi e1 (O.gl hgl) (O.free _ hfree) (O.gl ht.1) (O.free _ ht.2) (h.pe O e2) hs.1
              · cases q
            · cases q
          · split at q
            · cases q
            · rename_i hne
              split at q
              · rename_i hl
                obtain ⟨rfl, _⟩ := hl
                simp only [Option.map_eq_some_iff] at q
                obtain ⟨ms, e1, rfl⟩ := q
                have ha := sa_all (h.all O e1) hs
                cases as with
                | nil => simp at hne
                | cons a as => exact se_bi ⟨.inr ⟨_, bi_listNew, by decide +kernel⟩, by decide, by decide⟩ (O.gl hgl) (O.free _ hfree) ha hs
              · split at q
                · rename_i m2 hd
                  cases q
                  exact denSet_ok h O hgl hfree hd
                · simp only [Option.bind_eq_some_iff, Option.map_eq_some_iff] at q
                  obtain ⟨g, e1, ms, e2, rfl⟩ := q
                  have ha := sa_all (h.all O e2) hs
                  cases as with
                  | nil => simp at hne
                  | cons a as => exact se_bi (biD_ok O.calm O.un e1) (O.gl hgl) (O.free _ hfree) ha hs
        · cases q
    · cases q
  · split at q
    · rename_i hm
      subst hm
      split at q
      · split at q
        · rename_i hc
          simp only [Bool.and_eq_true] at hc
          simp only [Option.bind_eq_some_iff, Option.map_eq_some_iff] at q
          obtain ⟨mo, e1, mb, e2, rfl⟩ := q
          exact se_join (h.pe O e1) (h.pe O e2) hc.1.1 hc.1.2 hc.2
        · cases q
      · cases q
    · cases q
  · cases q
theorem denStep_ok (h : RecOk c rec) : RecOk c (denStep c rec) := by
  intro X sc O e m q
  cases e with
  | Constant k j p =>
    simp only [denStep] at q
    split at q
    · cases q; exact both (se_con pe_int fun _ _ => .int _) fun _ => rfl
    · cases q; exact both (se_con pe_str fun _ _ => .str _) fun _ => rfl
    · cases q; exact both (se_con pe_bl fun _ _ => .bl _) fun _ => rfl
    · cases q; exact both (se_con pe_non fun _ _ => .non) fun _ => rfl
    · cases q
  | Name x p => exact both (denName_ok O q) fun _ => rfl
  | BinOp a op b p =>
    simp only [denStep, Option.bind_eq_some_iff, Option.map_eq_some_iff] at q
    obtain ⟨f, e1, ma, e2, mb, e3, rfl⟩ := q
    exact both (se_bin e1 (h.pe O e2) (h.pe O e3)) fun _ => rfl
  | UnaryOp op a p =>
    simp only [denStep] at q
    split at q
    · split at q
      · rename_i hn
        rw [Option.map_eq_some_iff] at q
        obtain ⟨ma, e1, rfl⟩ := q
        exact ⟨se_not (h.pe O e1), fun _ => st_not (h.pt O e1 hn)⟩
      · cases q
    · rw [Option.map_eq_some_iff] at q
      obtain ⟨ma, e1, rfl⟩ := q
      exact both (se_un ur_neg (h.pe O e1)) fun _ => rfl
    · cases q
  | BoolOp op vs p =>
    simp only [denStep] at q
    split at q
    · rename_i hn
      simp only [Option.bind_eq_some_iff] at q
      obtain ⟨ms, e1, e2⟩ := q
      have := se_bool (pos := p) (h.all2 O e1 hn) e2
      exact ⟨this.1, fun _ => this.2.pt⟩
    · cases q
  | IfExp t a b p =>
    simp only [denStep] at q
    split at q
    · rename_i hn
      simp only [Option.bind_eq_some_iff, Option.map_eq_some_iff] at q
      obtain ⟨mt, e1, ma, e2, mb, e3, rfl⟩ := q
      exact ⟨se_if (h.pt O e1 hn) (h.pe O e2) (h.pe O e3), fun z => by cases z⟩
    · cases q
  | Compare a ops bs p =>
    have := denCmp_ok (p := p) h O q
    exact ⟨this.1, fun _ => this.2⟩
  | Tuple es k p =>
    simp only [denStep] at q
    split at q
    · rename_i hs
      rw [Option.map_eq_some_iff] at q
      obtain ⟨ms, e1, rfl⟩ := q
      exact both (se_tup (sa_all (h.all O e1) hs)) fun _ => rfl
    · cases q
  | List es p =>
    simp only [denStep] at q
    split at q
    · rename_i hs
      rw [Option.map_eq_some_iff] at q
      obtain ⟨ms, e1, rfl⟩ := q
      refine both ?_ fun _ => rfl
      split
      · exact se_new (sa_all (h.all O e1) hs)
      · exact se_fl (sa_all (h.all O e1) hs)
    · cases q
  | Subscript a i p => exact both (denSub_ok h O q) fun _ => rfl
  | ListComp elt gens scope p => exact both ((denComp_ok h O q).pe O p) fun _ => rfl
  | Call f as kws p =>
    simp only [denStep] at q
    split at q
    · exact both (denCall_ok h O q) fun _ => rfl
    · cases q
  | _ => cases q
theorem den_ok : ∀ n, RecOk c (den c n)
  | 0 => fun X sc O e m q => by cases q
  | n + 1 => denStep_ok (den_ok n)
end
/-! ### statements -/
def sAll : List MS → MS
  | [] => sNil
  | s :: r => sSeq s (sAll r)
def denAsg (c : Ctx) (rec : Rec) (sc : Scope) (e : Expr) : Expr → Option MS
  | .Name x _ => if isLoc sc x then (ixOf c.N x).bind fun i => (match e with
    | .ListComp elt gens scope pos => (denComp c rec sc elt scope (c.md pos) gens).map (sSet i)
    | e => if notComp e then (rec sc e).map (sSet i) else none) else none
  | .Tuple es k p => if notTup e && notComp e then (denTg c sc 4 (.Tuple es k p)).bind fun g => (rec sc e).map (sAsg g.1) else none
  | .Subscript o i _ => if notSlice i && notComp e then (rec sc e).bind fun m => (rec sc o).bind fun mo => (rec sc i).map fun mi => sSub mo mi m else none
  | _ => none
def denS (c : Ctx) (rec : Rec) (sc : Scope) : Nat → Stmt → Option MS
  | 0, _ => none
  | n + 1, st => match st with
    | .Assign tgs e _ => (match tgs with
      | [tg] => denAsg c rec sc e tg
      | _ => none)
    | .AugAssign tg op e _ => (match tg with
      | .Name x _ => if isLoc sc x then (ixOf c.N x).bind fun i => (rec sc e).map (sAug i op) else none
      | _ => none)
    | .Expr e _ => if notComp e then (rec sc e).map sExpr else none
    | .Return o _ => (match o with
      | none => some sRetN
      | some e => (rec sc e).map sRet)
    | .If t a b _ => if notIf t then (rec sc t).bind fun mt => (mapO (denS c rec sc n) a).bind fun ma => (mapO (denS c rec sc n) b).map fun mb => sIf mt (sAll ma) (sAll mb) else none
    | .For tg iter body els _ => if els.isEmpty && notSet iter then (denIter c rec sc iter).bind fun mi => (denTg c sc 4 tg).bind fun g => (mapO (denS c rec sc n) body).map fun mb => sFor mi g.1 (sAll mb) else none
    | .While t body els _ => if els.isEmpty && notIf t then (rec sc t).bind fun mt => (mapO (denS c rec sc n) body).map fun mb => sWhile mt (sAll mb) else none
    | .Pass _ => some sNil
    | .Break _ => some sBrk
    | .Continue _ => some sCnt
    | .Raise _ _ _ => some sNo
    | _ => none
section
variable {X : Cx} {c : Ctx} {sc : Scope} {rec : Rec}
theorem swN {e : Expr} (h : notComp e = true) (t : Option Expr) (l : Nat) (env : Env) : swapsWith e t l env = pure false := by
  cases e <;> first | rfl | (simp [notComp] at h)
theorem denAsg_ok (h : RecOk c rec) (O : XOk X c sc) {tg e : Expr} {p : Pos} {m : MS} (q : denAsg c rec sc e tg = some m) : PS X (.Assign [tg] e p) (tS X.K m) := by
  unfold denAsg at q
  split at q
  · rename_i x px
    split at q
    · rename_i hl
      simp only [Option.bind_eq_some_iff] at q
      obtain ⟨i, e1, q⟩ := q
      have hx := O.ix e1
      obtain ⟨hloc, hfn⟩ := O.loc hl
      split at q
      · rename_i elt gens scope pos
        simp only [Option.map_eq_some_iff] at q
        obtain ⟨mm, e2, rfl⟩ := q
        have k := denComp_ok h O e2
        have sw : swapsWith (.ListComp elt gens scope pos) (some (.Name x px)) p.line X.env = pure (X.env.blockKind == .function && X.env.kindOf x == some .local && px.line == pos.line && !(scope.names.any fun (q : Str × NameKind) => q.1 == x && (q.2 == .local || q.2 == .cell))) := rfl
        cases hb : (X.env.blockKind == .function && X.env.kindOf x == some .local && px.line == pos.line && !(scope.names.any fun (q : Str × NameKind) => q.1 == x && (q.2 == .local || q.2 == .cell))) with
        | true =>
          rw [hb] at sw
          refine k.set O hx ?_ sw
          simp only [Bool.and_eq_true, beq_iff_eq] at hb
          exact hb.1.1.2
        | false =>
          rw [hb] at sw
          exact ss_set (ps_set O.nd hx hloc (k.pe O pos) sw hfn)
      · split at q
        · rename_i hn
          simp only [Option.map_eq_some_iff] at q
          obtain ⟨mm, e2, rfl⟩ := q
          exact ss_set (ps_set O.nd hx hloc (h.pe O e2) (swN hn _ _ _) hfn)
        · cases q
    · cases q
  · rename_i es k px
    split at q
    · rename_i hn
      rw [Bool.and_eq_true] at hn
      simp only [Option.bind_eq_some_iff, Option.map_eq_some_iff] at q
      obtain ⟨g, e1, mm, e2, rfl⟩ := q
      refine ss_asg (ps_asg (h.pe O e2) (denTg_ok O 4 e1) (by show swapsWith e (some (.Tuple es k px)) p.line X.env = pure false; exact swN hn.2 _ _ _) ?_ (by rfl))
      cases e <;> first | rfl | (simp [notTup] at hn)
    · cases q
  · rename_i o i px
    split at q
    · rename_i hn
      rw [Bool.and_eq_true] at hn
      simp only [Option.bind_eq_some_iff, Option.map_eq_some_iff] at q
      obtain ⟨mm, e1, mo, e2, mi, e3, rfl⟩ := q
      refine ss_sub (h.pe O e1) (h.pe O e2) (h.pe O e3) (plain_ix hn.1) (by show swapsWith e (some (.Subscript o i px)) p.line X.env = pure false; exact swN hn.2 _ _ _) fun v => ?_
      have hs := hn.1
      cases i <;> first | rfl | (simp [notSlice] at hs)
    · cases q
  · cases q
theorem all_ok {f : Stmt → Option MS} (hf : ∀ st m, f st = some m → PS X st (tS X.K m)) : ∀ {sts : List Stmt} {ms : List MS}, mapO f sts = some ms → PSs X sts (tS X.K (sAll ms))
  | [], _, e => by cases e; exact ss_nil
  | a :: es, _, e => by
    unfold mapO at e
    cases q : f a with
    | none => rw [q] at e; cases e
    | some p =>
      rw [q] at e
      cases q2 : mapO f es with
      | none => rw [q2] at e; cases e
      | some ps =>
        rw [q2] at e
        cases e
        exact ss_cons (hf _ _ q) (all_ok hf q2)
theorem denS_ok (h : RecOk c rec) (O : XOk X c sc) : ∀ (n : Nat) (st : Stmt) (m : MS), denS c rec sc n st = some m → PS X st (tS X.K m) := by
  have hp : PassesOwn (model X.prog X.w) X.A X.env X.xe := by
    rw [O.xe]
    exact PassesOwn.never
  intro n
  induction n with
  | zero => intro st m q; cases q
  | succ n ih =>
    intro st m q
    cases st with
    | Assign tgs e p =>
      simp only [denS] at q
      split at q
      · exact denAsg_ok h O q
      · cases q
    | AugAssign tg op e p =>
      simp only [denS] at q
      split at q
      · rename_i x px
        split at q
        · rename_i hl
          simp only [Option.bind_eq_some_iff, Option.map_eq_some_iff] at q
          obtain ⟨i, e1, mm, e2, rfl⟩ := q
          refine ss_aug fun f hf => ?_
          rcases hf with ⟨rfl, rfl⟩ | ⟨rfl, rfl⟩
          · exact ps_aug O.nd (O.ix e1) (O.loc hl).1 (h.pe O e2) ip_add (O.loc hl).2
          · exact ps_aug O.nd (O.ix e1) (O.loc hl).1 (h.pe O e2) ip_sub (O.loc hl).2
        · cases q
      · cases q
    | Expr e p =>
      simp only [denS] at q
      split at q
      · rename_i hn
        rw [Option.map_eq_some_iff] at q
        obtain ⟨mm, e1, rfl⟩ := q
        exact ss_expr (h.pe O e1) (swN hn _ _ _)
      · cases q
    | Return o p =>
      simp only [denS] at q
      split at q
      · cases q; exact ss_retN
      · rw [Option.map_eq_some_iff] at q
        obtain ⟨mm, e1, rfl⟩ := q
        exact ss_ret (h.pe O e1)
    | If t a b p =>
      simp only [denS] at q
      split at q
      · rename_i hn
        simp only [Option.bind_eq_some_iff, Option.map_eq_some_iff] at q
        obtain ⟨mt, e1, ma, e2, mb, e3, rfl⟩ := q
        exact ss_if (h.pt O e1 hn) (all_ok ih e2) (all_ok ih e3)
      · cases q
    | For tg iter body els p =>
      simp only [denS] at q
      split at q
      · rename_i hn
        rw [Bool.and_eq_true] at hn
        simp only [Option.bind_eq_some_iff, Option.map_eq_some_iff] at q
        obtain ⟨mi, e1, g, e2, mb, e3, rfl⟩ := q
        have : els = [] := by simpa using hn.1
        subst this
        exact (ps_for hp O.calm (denIter_ok h O e1) (denTg_ok O 4 e2) (all_ok ih e3) (set_ok hn.2 _)).imp fun _ _ _ z => for_of z
      · cases q
    | While t body els p =>
      simp only [denS] at q
      split at q
      · rename_i hn
        rw [Bool.and_eq_true] at hn
        simp only [Option.bind_eq_some_iff, Option.map_eq_some_iff] at q
        obtain ⟨mt, e1, mb, e3, rfl⟩ := q
        have : els = [] := by simpa using hn.1
        subst this
        exact (ps_while hp (h.pt O e1 hn.2) (all_ok ih e3)).imp fun _ _ _ z => while_of z
      · cases q
    | Pass p => cases q; exact ss_pass
    | Break p => cases q; exact ss_brk
    | Continue p => cases q; exact ss_cnt
    | Raise a b p => cases q; exact ss_no
    | _ => cases q
end
end G
set_option Elab.async false
set_option linter.all false
set_option maxRecDepth 100000
set_option maxHeartbeats 4000000
/-! G12: a whole program: each def does what callF tells. -/
namespace G
open PySem L2
structure FnI where
  params : List Str
  N : List Str
  keep : Bool
  st : Stmt
structure Pg where
  tab : Str → Option FnI
  cst : Str → Option D
  free : Str → Bool
  md : Pos → Bool
abbrev Calls := Str → List D → Mu → R D
def ctxOf (P : Pg) (N : List Str) (Φ : Calls) : Ctx := ⟨N, fun x => (P.tab x).map fun _ => Φ x, P.cst, P.free, P.md⟩
def fnBody (P : Pg) (Φ : Calls) (fi : FnI) : Option MS := (mapO (denS (ctxOf P fi.N Φ) (den (ctxOf P fi.N Φ) 60) (defScope fi.st) 30) (defBody fi.st)).map sAll
def start (N : List Str) (ds : List D) : Fr := ds.map some ++ List.replicate (N.length - ds.length) none
/-- what a def hands back: as it is, or what it made put in line -/
def outD (keep : Bool) (μ : Mu) (d : D) (μ' : Mu) : R D := if keep = true then some (d, μ') else finish μ.length μ d μ'
def runFn (N : List Str) (np : Nat) (keep : Bool) (body : MS) (ds : List D) (μ : Mu) : R D := if ds.length = np then (match body (start N ds) μ with
  | some (.rt d, μ') => outD keep μ d μ'
  | some (.nx _, μ') => outD keep μ .non μ'
  | _ => none) else none
def callF (P : Pg) : Nat → Calls
  | 0, _, _, _ => none
  | n + 1, f, ds, μ => match P.tab f with
    | none => none
    | some fi => match fnBody P (callF P n) fi with
      | some b => runFn fi.N fi.params.length fi.keep b ds μ
      | none => none
structure Wd (P : Pg) (K : PySem.W.Frag) (mg : Str → Option Value) : Prop where
  fns : ∀ x fi, P.tab x = some fi → ∃ f fd, mg x = some (.ref f) ∧ Fun K x x fi.st f fd ∧ Binds K fd fi.params [] ∧ FnScope fi.N fi.params (defScope fi.st)
  cst : ∀ x d, P.cst x = some d → ∃ u v, mg x = some u ∧ RelV v u ∧ ∀ al H, Rep K al H v d
  free : ∀ x, P.free x = true → mg x = none
theorem post_out {K : PySem.W.Frag} {al al' : List Addr} {H H' : Hp} {μ μ' : Mu} {Q : VK} {v : HV} {d : D} {keep : Bool} (S0 : Sim K al μ H) (P : Post K (Rep K) al H Q (outD keep μ d μ')) (N : Nxt al H al' H') (S : Sim K al' μ' H') (r : Rep K al' H' v d) : Q v H' := by
  unfold outD at P
  split at P
  · exact P v al' H' N S r
  · exact Post.finish S0 P N S r
theorem start_rep {K : PySem.W.Frag} {al : List Addr} {H : Hp} {ds : List D} {vs : List HV} (r : RepL K al H vs ds) (N : List Str) : FrRep K al H (L2.start N vs) (start N ds) where
  len := by simp [L2.start, start, r.length]
  at_ := fun i d h => by
    unfold start at h
    unfold L2.start
    by_cases hi : i < ds.length
    · rw [List.getElem?_append_left (by simpa using hi), List.getElem?_map] at h
      rw [List.getElem?_append_left (by simpa [r.length] using hi), List.getElem?_map]
      rw [Option.map_eq_some_iff] at h
      obtain ⟨d', h1, h2⟩ := h
      cases h2
      obtain ⟨v, h3, h4⟩ := r.get h1
      exact ⟨v, by rw [h3]; rfl, h4⟩
    · rw [List.getElem?_append_right (by simpa using hi), List.getElem?_replicate] at h
      split at h
      · cases h
      · cases h
section
variable {Pr : Program} {w : World} {K : PySem.W.Frag} {mg : Str → Option Value} {base : Heap} {P : Pg}
theorem fn_ok (W : Wd P K mg) : ∀ (n : Nat) (x : Str) (fi : FnI) (f : Addr) (fd : FuncData), P.tab x = some fi → Fun K x x fi.st f fd → FnScope fi.N fi.params (defScope fi.st) → FnOk Pr w K mg base CX0 (n + 1) f fd fi.params (spF K (callF P n x)) := by
  intro n
  induction n with
  | zero =>
    intro x fi f fd ht F S
    refine F.ok S (fun vs H Q E h => ?_) (fun cdv A outer s H vs Q E hr h => ?_)
    · obtain ⟨al, μ, ds, _, _, P⟩ := h
      exact P.elim
    · obtain ⟨al, μ, ds, _, _, P⟩ := h
      exact P.elim
  | succ n ih =>
    intro x fi f fd ht F S
    have hcall : ∀ ds μ, callF P (n + 1) x ds μ = match fnBody P (callF P n) fi with
      | some b => runFn fi.N fi.params.length fi.keep b ds μ
      | none => none := fun ds μ => by
      show (match P.tab x with
        | none => none
        | some fi => match fnBody P (callF P n) fi with
          | some b => runFn fi.N fi.params.length fi.keep b ds μ
          | none => none) = _
      rw [ht]
    refine F.ok S (fun vs H Q E h => ?_) (fun cdv A outer s H vs Q E hr h => ?_)
    · obtain ⟨al, μ, ds, S2, r, P2⟩ := h
      rw [hcall] at P2
      split at P2
      · unfold runFn at P2
        split at P2
        · rename_i hl
          rw [r.length]
          exact hl
        · exact P2.elim
      · exact P2.elim
    · obtain ⟨al, μ, ds, S2, r, P2⟩ := h
      rw [hcall] at P2
      split at P2
      · rename_i b hb
        have O : XOk (cxOf CX0 Pr w K mg base fi.N x (defScope fi.st) f cdv A outer s H E).nox (ctxOf P fi.N (callF P n)) (defScope fi.st) := {
          nd := S.nd
          N := rfl
          calm := rfl
          xe := rfl
          kind := S.kind
          look := fun x k e => .inl e
          fnc := fun _ _ => rfl
          un := by
            have := hr.un
            show (A.deeper _).units + 67 < cLine
            omega
          free := W.free
          cst := W.cst
          fns := fun y g e => by
            simp only [ctxOf, Option.map_eq_some_iff] at e
            obtain ⟨fi2, e1, rfl⟩ := e
            obtain ⟨f2, fd2, h1, h2, h3, h4⟩ := W.fns _ _ e1
            exact ⟨f2, fd2, fi2.params, n + 1, h1, h2.kp, h3, ih y fi2 f2 fd2 e1 h2 h4, hr⟩ }
        simp only [fnBody, Option.map_eq_some_iff] at hb
        obtain ⟨ms, hb1, rfl⟩ := hb
        refine ⟨tS K (sAll ms), all_ok (fun st m q => denS_ok (den_ok 60) O 30 st m q) hb1, al, μ, start fi.N ds, S2, start_rep r fi.N, ?_⟩
        unfold runFn at P2
        split at P2
        · cases eb : sAll ms (start fi.N ds) μ with
          | none => rw [eb] at P2; exact P2.elim
          | some q =>
            obtain ⟨fl, μ'⟩ := q
            rw [eb] at P2
            cases fl with
            | rt d => exact fun v al' H' N' S' r' => post_out S2 P2 N' S' r'
            | nx ρ => exact fun σ' al' H' N' S' _ => post_out S2 P2 N' S' .non
            | bk ρ => exact P2.elim
            | ct ρ => exact P2.elim
        · exact P2.elim
      · exact P2.elim
end
end G
set_option Elab.async false
set_option linter.all false
set_option maxRecDepth 100000
set_option maxHeartbeats 4000000
/-! G13: from the head's facts to the program's table; the law's end. -/
namespace G
open PySem L2
def defOf (p : Str × FnI) : He.DefD := ⟨(p.1, none), p.1, p.1, defArgs p.2.st, defBody p.2.st, defScope p.2.st, [], []⟩
def faOf (tab : List (Str × FnI)) (free : List Str) (nums : List (Str × Int)) : List He.Fa := tab.map (fun p => .glo p.1) ++ (free.map .free ++ nums.map fun p => .int p.1 p.2)
def BindOk (p : Str × FnI) : Prop := ∀ (kV doc pm : Value) (an : Option Addr) (cdv ct : Value) (us : List Value), us.length = p.2.params.length → bindArgs (PySem.W.fnOf p.1 p.1 (defArgs p.2.st) (defBody p.2.st) (defScope p.2.st) .none kV doc pm an cdv ct) ⟨us, []⟩ = pure (p.2.params.zip us)
theorem lookup_mem {β : Type} {x : Str} {b : β} : ∀ {l : List (Str × β)}, l.lookup x = some b → (x, b) ∈ l
  | [], h => by cases h
  | (y, c) :: l, h => by
    rw [List.lookup_cons] at h
    cases e : x == y with
    | true =>
      rw [e] at h
      cases h
      rw [eq_of_beq e]
      exact List.mem_cons_self ..
    | false =>
      rw [e] at h
      exact List.mem_cons_of_mem _ (lookup_mem h)
section
variable {tab : List (Str × FnI)} {free : List Str} {nums : List (Str × Int)} {K : PySem.W.Frag} {h : Heap} {mg : Str → Option Value}
theorem fact_mem {fn : List He.DefD} {fa : List He.Fa} (c : He.SaysD fa fn K) {f : He.Fa} (m : f ∈ fa) : f.ok K = true := by
  obtain ⟨i, hi⟩ := List.mem_iff_getElem?.mp m
  exact c.fact i hi
theorem fn_at (X : K.In h) (G : h.Ns mainGlobals mg) (c : He.SaysD (faOf tab free nums) (tab.map defOf) K) {p : Str × FnI} (m : p ∈ tab) : ∃ f fd, mg p.1 = some (.ref f) ∧ FunD K p.1 p.1 (defArgs p.2.st) (defBody p.2.st) (defScope p.2.st) [] [] f fd := by
  obtain ⟨i, hi⟩ := List.mem_iff_getElem?.mp m
  obtain ⟨fd, F⟩ := c.def_ i (d := defOf p) (by rw [List.getElem?_map, hi]; rfl)
  exact ⟨_, fd, He.glo_ok X G (fact_mem c (List.mem_append_left _ (List.mem_map_of_mem m))), F⟩
theorem wd_of (X : K.In h) (G : h.Ns mainGlobals mg) (c : He.SaysD (faOf tab free nums) (tab.map defOf) K) (hb : ∀ p ∈ tab, BindOk p) (hs : ∀ p ∈ tab, FnScope p.2.N p.2.params (defScope p.2.st)) {cst : Str → Option D} (hc : ∀ x d, cst x = some d → ∃ i, d = .int i ∧ (x, i) ∈ nums) {md : Pos → Bool} :
    Wd ⟨fun x => tab.lookup x, cst, fun x => free.contains x, md⟩ K mg where
  fns := fun x fi e => by
    have m := lookup_mem e
    obtain ⟨f, fd, h1, F⟩ := fn_at X G c m
    have F2 := He5.fun_of F
    exact ⟨f, fd, h1, F2, F2.binds (hb _ m), hs _ m⟩
  cst := fun x d e => by
    obtain ⟨i, rfl, m⟩ := hc x d e
    obtain ⟨t, ht⟩ := He.int_ok X G (x := x) (i := i) (fact_mem c (List.mem_append_right _ (List.mem_append_right _ (List.mem_map.mpr ⟨_, m, rfl⟩))))
    exact ⟨_, .int i, ht, ⟨t, rfl⟩, fun _ _ => .int i⟩
  free := fun x e => He.free_ok X G (fact_mem c (List.mem_append_right _ (List.mem_append_left _ (List.mem_map_of_mem (by simpa using e)))))
end
theorem nums_rep {K : PySem.W.Frag} {al : List Addr} {H : Hp} : ∀ ns : List Int, RepL K al H (ns.map V.int) (ns.map D.int)
  | [] => .nil
  | n :: ns => .cons (.int n) (nums_rep ns)
theorem only_sc {K : PySem.W.Frag} {H : Hp} {a : Addr} {ns : List Int} (O : Only H) (h : SqL K H a (ns.map V.int)) : Rep K [] H (.ref a) (.sc (ns.map .int)) := by
  refine .sc (xs := ns.map V.int) ?_ (nums_rep ns)
  rcases h with (h | ⟨o, h⟩) | h
  · rcases O a with z | ⟨o, xs, z⟩
    · rw [z] at h; cases h
    · rw [z] at h; cases h
  · exact .inl ⟨⟨o, h⟩, by simp⟩
  · exact .inr h
/-- the law's promise, over the evaluator's answer -/
theorem law_sp {P : Pg} {K : PySem.W.Frag} {n m : Nat} (hlaw : ∀ ns : List Int, ns.length ≤ m → ∃ μ', callF P n "law" [.sc (ns.map .int)] [] = some (.bl true, μ')) (H : Hp) (a : Addr) (ns : List Int) (hl : ns.length ≤ m) (O : Only H) (h : SqL K H a (ns.map V.int)) :
    spF K (callF P n "law") [.ref a] H (fun v _ => v = .bl true) fun _ _ _ => False := by
  obtain ⟨μ', e⟩ := hlaw ns hl
  refine ⟨[], [], [.sc (ns.map .int)], ⟨rfl, List.nodup_nil, fun n a o h => by simp at h⟩, .cons (only_sc O h) .nil, ?_⟩
  rw [e]
  intro v al' H' _ _ r
  cases r
  rfl
theorem law_facts {tab : List (Str × FnI)} {free : List Str} {nums : List (Str × Int)} {K : PySem.W.Frag} {h : Heap} {mg : Str → Option Value} {Pr : Program} {w : World} {f : Addr} {x : Str} {fi : FnI} {n : Nat} (X : K.In h) (G : h.Ns mainGlobals mg) (hfa : mg ("law" : Str) = some (.ref f)) (c : He.SaysD (faOf tab free nums) (tab.map defOf) K)
    (hb : ∀ p ∈ tab, BindOk p) (hs : ∀ p ∈ tab, FnScope p.2.N p.2.params (defScope p.2.st)) {cst : Str → Option D} (hc : ∀ x d, cst x = some d → ∃ i, d = .int i ∧ (x, i) ∈ nums) {md : Pos → Bool} (hlaw : tab.lookup ("law" : Str) = some fi) (hx : fi.params = [x]) :
    ∃ fd : FuncData, (∀ (s : Shared) (v : Value), BindsTo s fd ⟨[v], []⟩ [(x, v)]) ∧ ∀ base : Heap, K.In base → base.Ns mainGlobals mg → FnOk Pr w K mg base CX0 (n + 1) f fd [x] (spF K (callF ⟨fun x => tab.lookup x, cst, fun x => free.contains x, md⟩ n "law")) := by
  have W := wd_of (md := md) X G c hb hs hc
  have m := lookup_mem hlaw
  obtain ⟨f2, fd, h1, F⟩ := fn_at X G c m
  have e := hfa.symm.trans h1
  cases e
  refine ⟨fd, fun s v => ?_, fun base _ _ => ?_⟩
  · have := FunD.bindsA (ps := fi.params) F (hb _ m) s [v] (by rw [hx]; rfl)
    rw [hx] at this
    exact this
  · have := fn_ok (Pr := Pr) (w := w) (base := base) W n "law" fi f fd hlaw (He5.fun_of F) (hs _ m)
    rw [hx] at this
    exact this
end G
set_option Elab.async false
set_option linter.all false
set_option maxRecDepth 100000
set_option maxHeartbeats 4000000
namespace G
open PySem L2
def top (i : Nat) : Stmt := PySem.Challenge.pw_warnloop_k55_joined_claims.main.body.getD i (.Pass ⟨0, 0, 0, 0⟩)
abbrev cEq : D → D → Mu → R D := fun x y μ => b2 (eqD μ x y) μ
abbrev cNe : D → D → Mu → R D := fun x y μ => b2 ((eqD μ x y).map (!·)) μ
abbrev cLt : D → D → Mu → R D := fun x y μ => b2 (ltO μ x y) μ
abbrev cLe : D → D → Mu → R D := ltI fun i j => decide (i ≤ j)
abbrev cGt : D → D → Mu → R D := ltI fun i j => decide (j < i)
abbrev cGe : D → D → Mu → R D := ltI fun i j => decide (j ≤ i)
abbrev cIn : D → D → Mu → R D := fun x y μ => b2 (inD μ x y) μ
abbrev cNi : D → D → Mu → R D := fun x y μ => b2 ((inD μ x y).map (!·)) μ
def i__law_bag : FnI := ⟨["_law_script", "_law_k"], ["_law_script", "_law_k", "_law_cell"], true, top 87⟩
def i__law_take : FnI := ⟨["_law_bag_here", "_law_many"], ["_law_bag_here", "_law_many", "_law_primes", "_law_step", "_law_base", "_law_found", "_law_digit"], false, top 88⟩
def i__law_entry : FnI := ⟨["_law_bag_here", "_law_number"], ["_law_bag_here", "_law_number", "_law_text", "_law_at"], false, top 89⟩
def i__law_odd : FnI := ⟨["_law_bag_here", "_law_log"], ["_law_bag_here", "_law_log", "_law_way", "_law_at", "_law_odd_here", "_law_stamp", "_law_panel", "_law_number", "_law_text"], false, top 90⟩
def i__law_is_log : FnI := ⟨["_law_thing"], ["_law_thing", "_law_one", "_law_k", "_law_part"], false, top 91⟩
def i__law_due : FnI := ⟨["_law_one", "_law_other", "_law_log"], ["_law_one", "_law_other", "_law_log", "_law_k", "_law_entry_here"], false, top 93⟩
def i__law_copy : FnI := ⟨["_law_thing"], ["_law_thing"], false, top 92⟩
def i_all_so : FnI := ⟨["plan", "faults", "parted"], ["plan", "faults", "parted"], false, top 71⟩
def i_is_heard : FnI := ⟨["claim", "way"], ["claim", "way"], false, top 74⟩
def i_is_still : FnI := ⟨["claim", "fence"], ["claim", "fence"], false, top 78⟩
def i_are_fewest : FnI := ⟨["claim", "spans"], ["claim", "spans"], false, top 80⟩
def i_is_whole : FnI := ⟨["thing", "least", "most"], ["thing", "least", "most"], false, top 3⟩
def i_is_written : FnI := ⟨["thing", "fewest", "most"], ["thing", "fewest", "most", "sign"], false, top 8⟩
def i_is_entry : FnI := ⟨["thing"], ["thing"], false, top 81⟩
def i_rises : FnI := ⟨["things"], ["things", "k"], false, top 5⟩
def i_is_log : FnI := ⟨["thing"], ["thing", "one"], false, top 82⟩
def i_are_joined : FnI := ⟨["one", "other", "log"], ["one", "other", "log", "entry"], false, top 83⟩
def i_are_said : FnI := ⟨["table", "history", "addresses"], ["table", "history", "addresses"], false, top 84⟩
def i_holds : FnI := ⟨["claim", "paper"], ["claim", "paper", "form"], false, top 85⟩
def i_law : FnI := ⟨["_law_script"], ["_law_script", "_law_k", "_law_bag_here", "_law_entries", "_law_one", "_law_other", "_law_log", "_law_some", "_law_due_here", "_law_handed", "_law_told", "_law_number", "_law_entry_here"], false, top 94⟩
def tabL : List (Str × FnI) := [("_law_bag", i__law_bag), ("_law_take", i__law_take), ("_law_entry", i__law_entry), ("_law_odd", i__law_odd), ("_law_is_log", i__law_is_log), ("_law_due", i__law_due), ("_law_copy", i__law_copy), ("all_so", i_all_so), ("is_heard", i_is_heard), ("is_still", i_is_still), ("are_fewest", i_are_fewest), ("is_whole", i_is_whole), ("is_written", i_is_written), ("is_entry", i_is_entry), ("rises", i_rises), ("is_log", i_is_log), ("are_joined", i_are_joined), ("are_said", i_are_said), ("holds", i_holds), ("law", i_law)]
def cstL : List (Str × D) := [("MOST_STAMP", (.int 999)), ("MOST_TEXT", (.int 20))]
def freeL : List Str := ["range", "max", "min", "len", "abs", "int", "sorted", "tuple", "isinstance", "list", "str", "all", "bool", "set", "ord"]
def newL : List (Nat × Nat) := [(390, 11)]
def pg : Pg := ⟨fun x => tabL.lookup x, fun x => cstL.lookup x, fun x => freeL.contains x, fun p => newL.contains (p.line, p.col)⟩
def b__law_bag (Φ : Calls) : MS := sAll [sSet 2 (e2 addD (e2 addD (e2 mulD (e2 mulD (eCon (.int 9973)) (eVar 1)) (eVar 1)) (e2 mulD (eCon (.int 101)) (eVar 1))) (eCon (.int 17))),
    sIf (e2 cLt (eVar 1) (eL lenD (lAll [(eVar 0)]))) (sAll [sSet 2 (e2 ixD (eVar 0) (eVar 1))]) (sAll []),
    sRet (eL newD (lAll [(e2 mulD (eL absD (lAll [(eVar 2)])) (eL intD (lAll [(e2 cGe (eL absD (lAll [(eVar 2)])) (e2 powD (eCon (.int 10)) (eCon (.int 18))))]))), (e2 addD (e2 modD (eVar 2) (eCon (.int 2147483647))) (e2 mulD (eCon (.int 37)) (eVar 1))), (eCon (.int 0))]))]
theorem f__law_bag (Φ : Calls) : fnBody pg Φ i__law_bag = some (b__law_bag Φ) := by kernel_rfl
theorem c__law_bag (n : Nat) (ds : List D) (μ : Mu) : callF pg (n + 1) "_law_bag" ds μ = runFn i__law_bag.N 2 true (b__law_bag (callF pg n)) ds μ := by
  have h : pg.tab "_law_bag" = some i__law_bag := by kernel_rfl
  simp only [callF, h, f__law_bag]
  rfl
def b__law_take (Φ : Calls) : MS := sAll [sIf (e2 cGt (e2 ixD (eVar 0) (eCon (.int 0))) (eCon (.int 0))) (sAll [sSet 6 (e2 modD (e2 ixD (eVar 0) (eCon (.int 0))) (eVar 1)),
    sSub (eVar 0) (eCon (.int 0)) (e2 fdivD (e2 ixD (eVar 0) (eCon (.int 0))) (eVar 1)),
    sRet (eVar 6)]) (sAll []),
    sSet 2 (eL tupD (lAll [(eCon (.int 2147483629)), (eCon (.int 2147483587)), (eCon (.int 2147483579)), (eCon (.int 2147483563)), (eCon (.int 2147483549)), (eCon (.int 2147483543)), (eCon (.int 2147483497))])),
    sSub (eVar 0) (eCon (.int 2)) (e2 addD (e2 ixD (eVar 0) (eCon (.int 2))) (eCon (.int 1))),
    sSet 3 (e2 ixD (eVar 0) (eCon (.int 2))),
    sSet 4 (e2 addD (e2 addD (e2 mulD (e2 ixD (eVar 0) (eCon (.int 1))) (e2 addD (e2 mulD (eCon (.int 2)) (eVar 3)) (eCon (.int 1)))) (e2 mulD (e2 mulD (eCon (.int 6007)) (eVar 3)) (eVar 3))) (eCon (.int 29))),
    sSet 5 (e2 modD (e2 powD (eVar 4) (eCon (.int 3))) (e2 ixD (eVar 2) (e2 modD (eVar 3) (eCon (.int 7))))),
    sRet (e2 modD (e2 fdivD (e2 modD (e2 mulD (eVar 5) (e2 addD (e2 fdivD (eVar 5) (eCon (.int 4096))) (eCon (.int 11)))) (e2 ixD (eVar 2) (e2 modD (e2 addD (eVar 3) (eCon (.int 3))) (eCon (.int 7))))) (eCon (.int 16))) (eVar 1))]
theorem f__law_take (Φ : Calls) : fnBody pg Φ i__law_take = some (b__law_take Φ) := by kernel_rfl
theorem c__law_take (n : Nat) (ds : List D) (μ : Mu) : callF pg (n + 1) "_law_take" ds μ = runFn i__law_take.N 2 false (b__law_take (callF pg n)) ds μ := by
  have h : pg.tab "_law_take" = some i__law_take := by kernel_rfl
  simp only [callF, h, f__law_take]
  rfl
def b__law_entry (Φ : Calls) : MS := sAll [sSet 2 (eJoin (eCon (.str "")) (eComp (iRng (lAll [(e2 addD (eCon (.int 1)) (eL (Φ "_law_take") (lAll [(eVar 0), (e2 ixD (eL flD (lAll [(eCon (.int 3)), (eCon (.int 20))])) (e2 modD (eVar 1) (eCon (.int 2))))])))])) (gName 3) [3] (eCon (.bl true)) (e2 ixD (eCon (.str " !a~zQ09-/")) (eL (Φ "_law_take") (lAll [(eVar 0), (eCon (.int 10))]))) false)),
    sRet (eL tupD (lAll [(eL (Φ "_law_take") (lAll [(eVar 0), (e2 ixD (eL flD (lAll [(eCon (.int 4)), (eCon (.int 1000))])) (eL intD (lAll [(e2 cEq (eL (Φ "_law_take") (lAll [(eVar 0), (eCon (.int 4))])) (eCon (.int 0)))])))])), (eL (Φ "_law_take") (lAll [(eVar 0), (eCon (.int 4))])), (eVar 1), (eVar 2)]))]
theorem f__law_entry (Φ : Calls) : fnBody pg Φ i__law_entry = some (b__law_entry Φ) := by kernel_rfl
theorem c__law_entry (n : Nat) (ds : List D) (μ : Mu) : callF pg (n + 1) "_law_entry" ds μ = runFn i__law_entry.N 2 false (b__law_entry (callF pg n)) ds μ := by
  have h : pg.tab "_law_entry" = some i__law_entry := by kernel_rfl
  simp only [callF, h, f__law_entry]
  rfl
def b__law_odd (Φ : Calls) : MS := sAll [sSet 2 (eL (Φ "_law_take") (lAll [(eVar 0), (eCon (.int 9))])),
    sIf (e2 cEq (eL lenD (lAll [(eVar 1)])) (eCon (.int 0))) (sAll [sRet (e2 ixD (eL flD (lAll [(eL flD (lAll [(eL tupD (lAll [(eCon (.int 0)), (eCon (.int 0)), (eCon (.int 0)), (eCon (.str "a"))]))])), (eL tupD (lAll [])), (eCon .non), (eL flD (lAll [(eL tupD (lAll []))])), (eL flD (lAll [(eL tupD (lAll [(eCon (.int 0)), (eCon (.int 0)), (eCon (.int 0))]))])), (eL flD (lAll [(eCon .non)])), (eL flD (lAll [(eL tupD (lAll [(eCon (.int 0)), (eCon (.int 0)), (eCon (.int 0)), (eCon (.str ""))]))])), (eL flD (lAll [(eL tupD (lAll [(eCon (.int 0)), (eCon (.int 4)), (eCon (.int 0)), (eCon (.str "a"))]))])), (eL flD (lAll [(eCon (.str "a"))]))])) (eVar 2))]) (sAll []),
    sSet 3 (eL (Φ "_law_take") (lAll [(eVar 0), (eL lenD (lAll [(eVar 1)]))])),
    sAsg (gTup [(gName 5), (gName 6), (gName 7), (gName 8)]) (e2 ixD (eVar 1) (eVar 3)),
    sSet 4 (eL flD (lAll [(e2 addD (eSl (eVar 1) oNone (oSome (eVar 3))) (eSl (eVar 1) (oSome (e2 addD (eVar 3) (eCon (.int 1)))) oNone)), (e2 addD (e2 addD (eSl (eVar 1) oNone (oSome (eVar 3))) (eL flD (lAll [(e2 ixD (eVar 1) (eVar 3))]))) (eSl (eVar 1) (oSome (eVar 3)) oNone)), (e1 revD (eVar 1)), (eL tupleD (lAll [(eVar 1)])), (e2 addD (e2 addD (eSl (eVar 1) oNone (oSome (eVar 3))) (eL flD (lAll [(eL tupD (lAll [(eVar 5), (eVar 6), (eVar 7), (e2 addD (eVar 8) (eCon (.str "b")))]))]))) (eSl (eVar 1) (oSome (e2 addD (eVar 3) (eCon (.int 1)))) oNone)), (eL sortedD (lAll [(e2 addD (eVar 1) (eL flD (lAll [(eL tupD (lAll [(e2 addD (eVar 5) (eCon (.int 1))), (eVar 6), (eVar 7), (eVar 8)]))])))])), (eL sortedD (lAll [(e2 addD (eVar 1) (eL flD (lAll [(eL tupD (lAll [(eCon (.int 0)), (eCon (.int 3)), (eCon (.int 998)), (eCon (.str "new"))]))])))])), (e2 addD (e2 addD (eSl (eVar 1) oNone (oSome (eVar 3))) (eL flD (lAll [(eL tupD (lAll [(eVar 5), (eVar 6), (eVar 7), (e2 mulD (eSl (eVar 8) oNone (oSome (eCon (.int 1)))) (eCon (.int 21)))]))]))) (eSl (eVar 1) (oSome (e2 addD (eVar 3) (eCon (.int 1)))) oNone)), (e2 addD (e2 addD (eSl (eVar 1) oNone (oSome (eVar 3))) (eL flD (lAll [(eL flD (lAll [(eVar 5), (eVar 6), (eVar 7), (eVar 8)]))]))) (eSl (eVar 1) (oSome (e2 addD (eVar 3) (eCon (.int 1)))) oNone))])),
    sRet (e2 ixD (eVar 4) (eVar 2))]
theorem f__law_odd (Φ : Calls) : fnBody pg Φ i__law_odd = some (b__law_odd Φ) := by kernel_rfl
theorem c__law_odd (n : Nat) (ds : List D) (μ : Mu) : callF pg (n + 1) "_law_odd" ds μ = runFn i__law_odd.N 2 false (b__law_odd (callF pg n)) ds μ := by
  have h : pg.tab "_law_odd" = some i__law_odd := by kernel_rfl
  simp only [callF, h, f__law_odd]
  rfl
def b__law_is_log (Φ : Calls) : MS := sAll [sIf (eNot (e1 (isiD "list") (eVar 0))) (sAll [sRet (eCon (.bl false))]) (sAll []),
    sFor (iVal (eVar 0)) (gName 1) (sAll [sIf (eOr (eNot (e1 (isiD "tuple") (eVar 1))) (eOr (e2 cNe (eL lenD (lAll [(eVar 1)])) (eCon (.int 4))) (eOr (eNot (e1 (isiD "str") (e2 ixD (eVar 1) (eCon (.int 3))))) (eNot (eChain cLe cLe (eCon (.int 1)) (eL lenD (lAll [(e2 ixD (eVar 1) (eCon (.int 3)))])) (eCon (.int 20))))))) (sAll [sRet (eCon (.bl false))]) (sAll []),
    sIf (eNot (eL allD (lAll [(eComp (iVal (eSl (eVar 1) oNone (oSome (eCon (.int 3))))) (gName 3) [3] (eCon (.bl true)) (eAnd (e1 (isiD "int") (eVar 3)) (eAnd (eNot (e1 (isiD "bool") (eVar 3))) (eChain cLe cLe (eCon (.int 0)) (eVar 3) (eCon (.int 999))))) false)]))) (sAll [sRet (eCon (.bl false))]) (sAll []),
    sIf (e2 cGt (e2 ixD (eVar 1) (eCon (.int 1))) (eCon (.int 3))) (sAll [sRet (eCon (.bl false))]) (sAll [])]),
    sRet (eL allD (lAll [(eComp (iRng (lAll [(e2 subD (eL lenD (lAll [(eVar 0)])) (eCon (.int 1)))])) (gName 2) [2] (eCon (.bl true)) (e2 cLt (e2 ixD (eVar 0) (eVar 2)) (e2 ixD (eVar 0) (e2 addD (eVar 2) (eCon (.int 1))))) false)]))]
theorem f__law_is_log (Φ : Calls) : fnBody pg Φ i__law_is_log = some (b__law_is_log Φ) := by kernel_rfl
theorem c__law_is_log (n : Nat) (ds : List D) (μ : Mu) : callF pg (n + 1) "_law_is_log" ds μ = runFn i__law_is_log.N 1 false (b__law_is_log (callF pg n)) ds μ := by
  have h : pg.tab "_law_is_log" = some i__law_is_log := by kernel_rfl
  simp only [callF, h, f__law_is_log]
  rfl
def b__law_due (Φ : Calls) : MS := sAll [sIf (eOr (eNot (eL (Φ "_law_is_log") (lAll [(eVar 0)]))) (eOr (eNot (eL (Φ "_law_is_log") (lAll [(eVar 1)]))) (eNot (eL (Φ "_law_is_log") (lAll [(eVar 2)]))))) (sAll [sRet (eCon (.bl false))]) (sAll []),
    sFor (iRng (lAll [(eL lenD (lAll [(eVar 2)]))])) (gName 3) (sAll [sIf (e2 cIn (eSl (e2 ixD (eVar 2) (eVar 3)) (oSome (eCon (.int 1))) (oSome (eCon (.int 3)))) (eComp (iVal (eSl (eVar 2) oNone (oSome (eVar 3)))) (gName 4) [4] (eCon (.bl true)) (eSl (eVar 4) (oSome (eCon (.int 1))) (oSome (eCon (.int 3)))) false)) (sAll [sRet (eCon (.bl false))]) (sAll [])]),
    sRet (e2 cEq (e1 sortSetD (e2 addD (eVar 0) (eVar 1))) (eVar 2))]
theorem f__law_due (Φ : Calls) : fnBody pg Φ i__law_due = some (b__law_due Φ) := by kernel_rfl
theorem c__law_due (n : Nat) (ds : List D) (μ : Mu) : callF pg (n + 1) "_law_due" ds μ = runFn i__law_due.N 3 false (b__law_due (callF pg n)) ds μ := by
  have h : pg.tab "_law_due" = some i__law_due := by kernel_rfl
  simp only [callF, h, f__law_due]
  rfl
def b__law_copy (Φ : Calls) : MS := sAll [sRet (eIf (e1 (isiD "list") (eVar 0)) (eL listD (lAll [(eVar 0)])) (eVar 0))]
theorem f__law_copy (Φ : Calls) : fnBody pg Φ i__law_copy = some (b__law_copy Φ) := by kernel_rfl
theorem c__law_copy (n : Nat) (ds : List D) (μ : Mu) : callF pg (n + 1) "_law_copy" ds μ = runFn i__law_copy.N 1 false (b__law_copy (callF pg n)) ds μ := by
  have h : pg.tab "_law_copy" = some i__law_copy := by kernel_rfl
  simp only [callF, h, f__law_copy]
  rfl
def b_is_whole (Φ : Calls) : MS := sAll [sRet (eAnd (e1 (isiD "int") (eVar 0)) (eAnd (eNot (e1 (isiD "bool") (eVar 0))) (eChain cLe cLe (eVar 1) (eVar 0) (eVar 2))))]
theorem f_is_whole (Φ : Calls) : fnBody pg Φ i_is_whole = some (b_is_whole Φ) := by kernel_rfl
theorem c_is_whole (n : Nat) (ds : List D) (μ : Mu) : callF pg (n + 1) "is_whole" ds μ = runFn i_is_whole.N 3 false (b_is_whole (callF pg n)) ds μ := by
  have h : pg.tab "is_whole" = some i_is_whole := by kernel_rfl
  simp only [callF, h, f_is_whole]
  rfl
def b_is_written (Φ : Calls) : MS := sAll [sIf (eOr (eNot (e1 (isiD "str") (eVar 0))) (eNot (eChain cLe cLe (eVar 1) (eL lenD (lAll [(eVar 0)])) (eVar 2)))) (sAll [sRet (eCon (.bl false))]) (sAll []),
    sRet (eL allD (lAll [(eComp (iVal (eVar 0)) (gName 3) [3] (eCon (.bl true)) (eAnd (eChain cLe cLe (eCon (.int 32)) (eL ordD (lAll [(eVar 3)])) (eCon (.int 126))) (e2 cNe (eL ordD (lAll [(eVar 3)])) (eCon (.int 37)))) false)]))]
theorem f_is_written (Φ : Calls) : fnBody pg Φ i_is_written = some (b_is_written Φ) := by kernel_rfl
theorem c_is_written (n : Nat) (ds : List D) (μ : Mu) : callF pg (n + 1) "is_written" ds μ = runFn i_is_written.N 3 false (b_is_written (callF pg n)) ds μ := by
  have h : pg.tab "is_written" = some i_is_written := by kernel_rfl
  simp only [callF, h, f_is_written]
  rfl
def b_is_entry (Φ : Calls) : MS := sAll [sIf (eOr (eNot (e1 (isiD "tuple") (eVar 0))) (eOr (e2 cNe (eL lenD (lAll [(eVar 0)])) (eCon (.int 4))) (eNot (eL (Φ "is_whole") (lAll [(e2 ixD (eVar 0) (eCon (.int 1))), (eCon (.int 0)), (eCon (.int 3))]))))) (sAll [sRet (eCon (.bl false))]) (sAll []),
    sIf (eOr (eNot (eL (Φ "is_whole") (lAll [(e2 ixD (eVar 0) (eCon (.int 0))), (eCon (.int 0)), (eCon (.int 999))]))) (eNot (eL (Φ "is_whole") (lAll [(e2 ixD (eVar 0) (eCon (.int 2))), (eCon (.int 0)), (eCon (.int 999))])))) (sAll [sRet (eCon (.bl false))]) (sAll []),
    sRet (eL (Φ "is_written") (lAll [(e2 ixD (eVar 0) (eCon (.int 3))), (eCon (.int 1)), (eCon (.int 20))]))]
theorem f_is_entry (Φ : Calls) : fnBody pg Φ i_is_entry = some (b_is_entry Φ) := by kernel_rfl
theorem c_is_entry (n : Nat) (ds : List D) (μ : Mu) : callF pg (n + 1) "is_entry" ds μ = runFn i_is_entry.N 1 false (b_is_entry (callF pg n)) ds μ := by
  have h : pg.tab "is_entry" = some i_is_entry := by kernel_rfl
  simp only [callF, h, f_is_entry]
  rfl
def b_rises (Φ : Calls) : MS := sAll [sRet (eL allD (lAll [(eComp (iRng (lAll [(e2 subD (eL lenD (lAll [(eVar 0)])) (eCon (.int 1)))])) (gName 1) [1] (eCon (.bl true)) (e2 cLt (e2 ixD (eVar 0) (eVar 1)) (e2 ixD (eVar 0) (e2 addD (eVar 1) (eCon (.int 1))))) false)]))]
theorem f_rises (Φ : Calls) : fnBody pg Φ i_rises = some (b_rises Φ) := by kernel_rfl
theorem c_rises (n : Nat) (ds : List D) (μ : Mu) : callF pg (n + 1) "rises" ds μ = runFn i_rises.N 1 false (b_rises (callF pg n)) ds μ := by
  have h : pg.tab "rises" = some i_rises := by kernel_rfl
  simp only [callF, h, f_rises]
  rfl
def b_is_log (Φ : Calls) : MS := sAll [sRet (eAnd (e1 (isiD "list") (eVar 0)) (eAnd (eL allD (lAll [(eComp (iVal (eVar 0)) (gName 1) [1] (eCon (.bl true)) (eL (Φ "is_entry") (lAll [(eVar 1)])) false)])) (eL (Φ "rises") (lAll [(eVar 0)]))))]
theorem f_is_log (Φ : Calls) : fnBody pg Φ i_is_log = some (b_is_log Φ) := by kernel_rfl
theorem c_is_log (n : Nat) (ds : List D) (μ : Mu) : callF pg (n + 1) "is_log" ds μ = runFn i_is_log.N 1 false (b_is_log (callF pg n)) ds μ := by
  have h : pg.tab "is_log" = some i_is_log := by kernel_rfl
  simp only [callF, h, f_is_log]
  rfl
def b_are_joined (Φ : Calls) : MS := sAll [sIf (eOr (eNot (eL (Φ "is_log") (lAll [(eVar 0)]))) (eOr (eNot (eL (Φ "is_log") (lAll [(eVar 1)]))) (eNot (eL (Φ "is_log") (lAll [(eVar 2)]))))) (sAll [sRet (eCon (.bl false))]) (sAll []),
    sIf (e2 cNe (e1 lenSetD (eComp (iVal (eVar 2)) (gName 3) [3] (eCon (.bl true)) (eSl (eVar 3) (oSome (eCon (.int 1))) (oSome (eCon (.int 3)))) false)) (eL lenD (lAll [(eVar 2)]))) (sAll [sRet (eCon (.bl false))]) (sAll []),
    sIf (eOr (eNot (eL allD (lAll [(eComp (iVal (eVar 0)) (gName 3) [3] (eCon (.bl true)) (e2 cIn (eVar 3) (eVar 2)) false)]))) (eNot (eL allD (lAll [(eComp (iVal (eVar 1)) (gName 3) [3] (eCon (.bl true)) (e2 cIn (eVar 3) (eVar 2)) false)])))) (sAll [sRet (eCon (.bl false))]) (sAll []),
    sRet (eL allD (lAll [(eComp (iVal (eVar 2)) (gName 3) [3] (eCon (.bl true)) (eOr (e2 cIn (eVar 3) (eVar 0)) (e2 cIn (eVar 3) (eVar 1))) false)]))]
theorem f_are_joined (Φ : Calls) : fnBody pg Φ i_are_joined = some (b_are_joined Φ) := by kernel_rfl
theorem c_are_joined (n : Nat) (ds : List D) (μ : Mu) : callF pg (n + 1) "are_joined" ds μ = runFn i_are_joined.N 3 false (b_are_joined (callF pg n)) ds μ := by
  have h : pg.tab "are_joined" = some i_are_joined := by kernel_rfl
  simp only [callF, h, f_are_joined]
  rfl
def b_holds (Φ : Calls) : MS := sAll [sIf (eOr (eNot (e1 (isiD "tuple") (eVar 0))) (eOr (e2 cEq (eL lenD (lAll [(eVar 0)])) (eCon (.int 0))) (eNot (e1 (isiD "str") (e2 ixD (eVar 0) (eCon (.int 0))))))) (sAll [sRet (eCon (.bl false))]) (sAll []),
    sSet 2 (eL tupD (lAll [(e2 ixD (eVar 0) (eCon (.int 0))), (eL lenD (lAll [(eVar 0)]))])),
    sIf (e2 cEq (eVar 2) (eL tupD (lAll [(eCon (.str "rest")), (eCon (.int 4))]))) (sAll [sRet (eAnd (e1 isNoneD (eVar 1)) (eL (Φ "all_so") (lAll [(e2 ixD (eVar 0) (eCon (.int 1))), (e2 ixD (eVar 0) (eCon (.int 2))), (e2 ixD (eVar 0) (eCon (.int 3)))])))]) (sAll []),
    sIf (e2 cEq (eVar 2) (eL tupD (lAll [(eCon (.str "heard")), (eCon (.int 6))]))) (sAll [sRet (eL (Φ "is_heard") (lAll [(eVar 0), (eVar 1)]))]) (sAll []),
    sIf (e2 cEq (eVar 2) (eL tupD (lAll [(eCon (.str "still")), (eCon (.int 5))]))) (sAll [sRet (eL (Φ "is_still") (lAll [(eVar 0), (eVar 1)]))]) (sAll []),
    sIf (e2 cEq (eVar 2) (eL tupD (lAll [(eCon (.str "fewest")), (eCon (.int 4))]))) (sAll [sRet (eL (Φ "are_fewest") (lAll [(eVar 0), (eVar 1)]))]) (sAll []),
    sIf (e2 cEq (eVar 2) (eL tupD (lAll [(eCon (.str "joined")), (eCon (.int 4))]))) (sAll [sRet (eAnd (e1 isNoneD (eVar 1)) (eL (Φ "are_joined") (lAll [(e2 ixD (eVar 0) (eCon (.int 1))), (e2 ixD (eVar 0) (eCon (.int 2))), (e2 ixD (eVar 0) (eCon (.int 3)))])))]) (sAll []),
    sRet (eAnd (e2 cEq (eVar 2) (eL tupD (lAll [(eCon (.str "says")), (eCon (.int 4))]))) (eAnd (e1 isNoneD (eVar 1)) (eL (Φ "are_said") (lAll [(e2 ixD (eVar 0) (eCon (.int 1))), (e2 ixD (eVar 0) (eCon (.int 2))), (e2 ixD (eVar 0) (eCon (.int 3)))]))))]
theorem f_holds (Φ : Calls) : fnBody pg Φ i_holds = some (b_holds Φ) := by kernel_rfl
theorem c_holds (n : Nat) (ds : List D) (μ : Mu) : callF pg (n + 1) "holds" ds μ = runFn i_holds.N 2 false (b_holds (callF pg n)) ds μ := by
  have h : pg.tab "holds" = some i_holds := by kernel_rfl
  simp only [callF, h, f_holds]
  rfl
def b_law (Φ : Calls) : MS := sAll [sFor (iRng (lAll [(eL maxD (lAll [(eCon (.int 1)), (eL minD (lAll [(eCon (.int 8)), (eL lenD (lAll [(eVar 0)]))]))]))])) (gName 1) (sAll [sSet 2 (eL (Φ "_law_bag") (lAll [(eVar 0), (eVar 1)])),
    sSet 3 (eComp (iRng (lAll [(eL (Φ "_law_take") (lAll [(eVar 2), (eCon (.int 13))]))])) (gName 11) [11] (eCon (.bl true)) (eL (Φ "_law_entry") (lAll [(eVar 2), (eVar 11)])) false),
    sSet 4 (eL sortedD (lAll [(eComp (iVal (eVar 3)) (gName 12) [12] (e2 cEq (eL (Φ "_law_take") (lAll [(eVar 2), (eCon (.int 2))])) (eCon (.int 0))) (eVar 12) false)])),
    sSet 5 (eL sortedD (lAll [(eComp (iVal (eVar 3)) (gName 12) [12] (eOr (e2 cNi (eVar 12) (eVar 4)) (e2 cEq (eL (Φ "_law_take") (lAll [(eVar 2), (eCon (.int 3))])) (eCon (.int 0)))) (eVar 12) false)])),
    sIf (e2 cEq (eL (Φ "_law_take") (lAll [(eVar 2), (eCon (.int 4))])) (eCon (.int 0))) (sAll [sSet 5 (eL (Φ "_law_odd") (lAll [(eVar 2), (eVar 5)]))]) (sAll []),
    sSet 6 (eL sortedD (lAll [(eVar 3)])),
    sFor (iVal (eL flD (lAll [(eVar 6), (eL (Φ "_law_odd") (lAll [(eVar 2), (eVar 6)])), (eL (Φ "_law_odd") (lAll [(eVar 2), (eVar 6)])), (eVar 6)]))) (gName 7) (sAll [sSet 8 (eL (Φ "_law_due") (lAll [(eVar 4), (eVar 5), (eVar 7)])),
    sSet 9 (eL flD (lAll [(eL (Φ "_law_copy") (lAll [(eVar 4)])), (eL (Φ "_law_copy") (lAll [(eVar 5)])), (eL (Φ "_law_copy") (lAll [(eVar 7)]))])),
    sSet 10 (eL (Φ "holds") (lAll [(eL tupD (lAll [(eCon (.str "joined")), (e2 ixD (eVar 9) (eCon (.int 0))), (e2 ixD (eVar 9) (eCon (.int 1))), (e2 ixD (eVar 9) (eCon (.int 2)))])), (eCon .non)])),
    sIf (eOr (eNot (e1 (isiD "bool") (eVar 10))) (eOr (e2 cNe (eVar 10) (eVar 8)) (e2 cNe (eVar 9) (eL flD (lAll [(eVar 4), (eVar 5), (eVar 7)]))))) (sAll [sRet (eCon (.bl false))]) (sAll [])]),
    sIf (eOr (e2 cNe (eL (Φ "holds") (lAll [(eL tupD (lAll [(eCon (.str "joined")), (eVar 4), (eVar 4), (eVar 4)])), (eL tupD (lAll []))])) (eCon (.bl false))) (e2 cNe (eL (Φ "holds") (lAll [(eL tupD (lAll [(eCon (.str "joined")), (eVar 4), (eVar 4)])), (eCon .non)])) (eCon (.bl false)))) (sAll [sRet (eCon (.bl false))]) (sAll []),
    sIf (e2 cNe (eL (Φ "holds") (lAll [(eL tupD (lAll [(eCon (.str "joined")), (eVar 4), (eVar 4), (eVar 4)])), (eCon .non)])) (eCon (.bl true))) (sAll [sRet (eCon (.bl false))]) (sAll [])]),
    sRet (eCon (.bl true))]
theorem f_law (Φ : Calls) : fnBody pg Φ i_law = some (b_law Φ) := by kernel_rfl
theorem c_law (n : Nat) (ds : List D) (μ : Mu) : callF pg (n + 1) "law" ds μ = runFn i_law.N 1 false (b_law (callF pg n)) ds μ := by
  have h : pg.tab "law" = some i_law := by kernel_rfl
  simp only [callF, h, f_law]
  rfl
end G
set_option Elab.async false
set_option linter.all false
set_option maxRecDepth 100000
set_option maxHeartbeats 4000000
/-! L0: how the pure evaluator goes on, one part behind the other. -/
namespace G
open PySem L2
def k1 (f : D → Mu → R D) (r : R D) : R D := r.bind fun p => f p.1 p.2
def k2 (f : D → D → Mu → R D) (b : ME) (ρ : Fr) (r : R D) : R D := r.bind fun p => (b ρ p.2).bind fun q => f p.1 q.1 q.2
def k2b (f : D → D → Mu → R D) (x : D) (r : R D) : R D := r.bind fun q => f x q.1 q.2
def kC (es : List ME) (ρ : Fr) (r : R D) : R (List D) := r.bind fun p => (lAll es ρ p.2).bind fun q => some (p.1 :: q.1, q.2)
def kCb (x : D) (r : R (List D)) : R (List D) := r.bind fun q => some (x :: q.1, q.2)
def kL (f : List D → Mu → R D) (r : R (List D)) : R D := r.bind fun p => f p.1 p.2
def kAnd (b : ME) (ρ : Fr) (r : R D) : R D := r.bind fun p => match p.1 with
  | .bl true => b ρ p.2
  | .bl false => some (.bl false, p.2)
  | _ => none
def kOr (b : ME) (ρ : Fr) (r : R D) : R D := r.bind fun p => match p.1 with
  | .bl true => some (.bl true, p.2)
  | .bl false => b ρ p.2
  | _ => none
def kIf (a b : ME) (ρ : Fr) (r : R D) : R D := r.bind fun p => match p.1 with
  | .bl true => a ρ p.2
  | .bl false => b ρ p.2
  | _ => none
def kH (f g : D → D → Mu → R D) (b c : ME) (ρ : Fr) (r : R D) : R D := r.bind fun p => (b ρ p.2).bind fun q => (f p.1 q.1 q.2).bind fun z => match z.1 with
  | .bl true => (c ρ z.2).bind fun w => g q.1 w.1 w.2
  | .bl false => some (.bl false, z.2)
  | _ => none
def kHb (f g : D → D → Mu → R D) (c : ME) (ρ : Fr) (x : D) (r : R D) : R D := r.bind fun q => (f x q.1 q.2).bind fun z => match z.1 with
  | .bl true => (c ρ z.2).bind fun w => g q.1 w.1 w.2
  | .bl false => some (.bl false, z.2)
  | _ => none
def kHc (g : D → D → Mu → R D) (c : ME) (ρ : Fr) (y : D) (r : R D) : R D := r.bind fun z => match z.1 with
  | .bl true => (c ρ z.2).bind fun w => g y w.1 w.2
  | .bl false => some (.bl false, z.2)
  | _ => none
def kO (r : R D) : R (Option Int) := r.bind fun p => match p.1 with
  | .int i => some (some i, p.2)
  | _ => none
def kSl (lo hi : MO) (ρ : Fr) (r : R D) : R D := r.bind fun p => (lo ρ p.2).bind fun l => (hi ρ l.2).bind fun h => slD l.1 h.1 p.1 h.2
def kSlb (hi : MO) (ρ : Fr) (x : D) (r : R (Option Int)) : R D := r.bind fun l => (hi ρ l.2).bind fun h => slD l.1 h.1 x h.2
def kSlc (x : D) (l : Option Int) (r : R (Option Int)) : R D := r.bind fun h => slD l h.1 x h.2
def kJ (b : ME) (ρ : Fr) (r : R D) : R D := r.bind fun p => match p.1 with
  | .str z => (b ρ p.2).bind fun q => joinD z q.1 q.2
  | _ => none
def kJb (z : Str) (r : R D) : R D := r.bind fun q => joinD z q.1 q.2
def kS (ss : List MS) (r : R Fl) : R Fl := r.bind fun r => match r.1 with
  | .nx ρ1 => sAll ss ρ1 r.2
  | f => some (f, r.2)
def kSet (i : Nat) (ρ : Fr) (r : R D) : R Fl := r.bind fun r => some (.nx (ρ.set i (some r.1)), r.2)
def kAsg (f : MG) (ρ : Fr) (r : R D) : R Fl := r.bind fun r => (f r.1 ρ).bind fun ρ1 => some (.nx ρ1, r.2)
def kRet (r : R D) : R Fl := r.bind fun r => some (.rt r.1, r.2)
def kEx (ρ : Fr) (r : R D) : R Fl := r.bind fun r => some (.nx ρ, r.2)
def kSif (s t : MS) (ρ : Fr) (r : R D) : R Fl := r.bind fun p => match p.1 with
  | .bl true => s ρ p.2
  | .bl false => t ρ p.2
  | _ => none
def kFor (f : MG) (s : MS) (ρ : Fr) (r : R (Chk × List D)) : R Fl := r.bind fun r => forL r.1.1 f s r.1.2 ρ r.2
def kSub (o j : ME) (ρ : Fr) (r : R D) : R Fl := r.bind fun v => (o ρ v.2).bind fun x => (j ρ x.2).bind fun y => (setD x.1 y.1 v.1 y.2).bind fun μ1 => some (.nx ρ, μ1)
def kSubb (j : ME) (ρ : Fr) (v : D) (r : R D) : R Fl := r.bind fun x => (j ρ x.2).bind fun y => (setD x.1 y.1 v y.2).bind fun μ1 => some (.nx ρ, μ1)
def kSubc (ρ : Fr) (v x : D) (r : R D) : R Fl := r.bind fun y => (setD x y.1 v y.2).bind fun μ1 => some (.nx ρ, μ1)
def kSubd (ρ : Fr) (r : Option Mu) : R Fl := r.bind fun μ1 => some (.nx ρ, μ1)
def kV (r : R D) : R (Chk × List D) := r.bind fun q => (srcD q.2 q.1).map fun s => (s, q.2)
section
variable {a b c : ME} {as : MA} {f g : D → D → Mu → R D} {f1 : D → Mu → R D} {fs : List D → Mu → R D} {ρ ρ1 : Fr} {μ μ1 : Mu} {d x y : D} {i : Nat} {s t : MS} {src : MI} {tg : MG} {ss : List MS} {es : List ME} {ds : List D} {lo hi : MO} {z : Str} {l h : Option Int}
@[simp] theorem a_con : eCon d ρ μ = some (d, μ) := rfl
@[simp] theorem a_var0 : eVar 0 (some d :: ρ) μ = some (d, μ) := rfl
@[simp] theorem a_varS {w : Option D} : eVar (i + 1) (w :: ρ) μ = eVar i ρ μ := rfl
@[simp] theorem a_e1 : e1 f1 a ρ μ = k1 f1 (a ρ μ) := rfl
@[simp] theorem k1_ : k1 f1 (some (x, μ)) = f1 x μ := rfl
@[simp] theorem a_e2 : e2 f a b ρ μ = k2 f b ρ (a ρ μ) := rfl
@[simp] theorem k2_ : k2 f b ρ (some (x, μ)) = k2b f x (b ρ μ) := rfl
@[simp] theorem k2b_ : k2b f x (some (y, μ)) = f x y μ := rfl
@[simp] theorem a_nil : lAll [] ρ μ = some ([], μ) := rfl
@[simp] theorem a_cons : lAll (a :: es) ρ μ = kC es ρ (a ρ μ) := rfl
@[simp] theorem kC_ : kC es ρ (some (x, μ)) = kCb x (lAll es ρ μ) := rfl
@[simp] theorem kCb_ : kCb x (some (ds, μ)) = some (x :: ds, μ) := rfl
@[simp] theorem a_eL : eL fs as ρ μ = kL fs (as ρ μ) := rfl
@[simp] theorem kL_ : kL fs (some (ds, μ)) = fs ds μ := rfl
@[simp] theorem a_and : eAnd a b ρ μ = kAnd b ρ (a ρ μ) := rfl
@[simp] theorem kAnd_t : kAnd b ρ (some (.bl true, μ)) = b ρ μ := rfl
@[simp] theorem kAnd_f : kAnd b ρ (some (.bl false, μ)) = some (.bl false, μ) := rfl
@[simp] theorem a_or : eOr a b ρ μ = kOr b ρ (a ρ μ) := rfl
@[simp] theorem kOr_t : kOr b ρ (some (.bl true, μ)) = some (.bl true, μ) := rfl
@[simp] theorem kOr_f : kOr b ρ (some (.bl false, μ)) = b ρ μ := rfl
@[simp] theorem a_not : eNot a ρ μ = k1 notD (a ρ μ) := rfl
@[simp] theorem notD_ {v : Bool} : notD (.bl v) μ = some (.bl (!v), μ) := rfl
@[simp] theorem a_if : eIf c a b ρ μ = kIf a b ρ (c ρ μ) := rfl
@[simp] theorem kIf_t : kIf a b ρ (some (.bl true, μ)) = a ρ μ := rfl
@[simp] theorem kIf_f : kIf a b ρ (some (.bl false, μ)) = b ρ μ := rfl
@[simp] theorem a_chain : eChain f g a b c ρ μ = kH f g b c ρ (a ρ μ) := rfl
@[simp] theorem kH_ : kH f g b c ρ (some (x, μ)) = kHb f g c ρ x (b ρ μ) := rfl
@[simp] theorem kHb_ : kHb f g c ρ x (some (y, μ)) = kHc g c ρ y (f x y μ) := rfl
@[simp] theorem kHc_t : kHc g c ρ y (some (.bl true, μ)) = k2b g y (c ρ μ) := rfl
@[simp] theorem kHc_f : kHc g c ρ y (some (.bl false, μ)) = some (.bl false, μ) := rfl
@[simp] theorem a_oN : oNone ρ μ = some (none, μ) := rfl
@[simp] theorem a_oS : oSome a ρ μ = kO (a ρ μ) := rfl
@[simp] theorem kO_ {i : Int} : kO (some (.int i, μ)) = some (some i, μ) := rfl
@[simp] theorem a_sl : eSl a lo hi ρ μ = kSl lo hi ρ (a ρ μ) := rfl
@[simp] theorem kSl_ : kSl lo hi ρ (some (x, μ)) = kSlb hi ρ x (lo ρ μ) := rfl
@[simp] theorem kSlb_ : kSlb hi ρ x (some (l, μ)) = kSlc x l (hi ρ μ) := rfl
@[simp] theorem kSlc_ : kSlc x l (some (h, μ)) = slD l h x μ := rfl
@[simp] theorem a_join : eJoin a b ρ μ = kJ b ρ (a ρ μ) := rfl
@[simp] theorem kJ_ : kJ b ρ (some (.str z, μ)) = kJb z (b ρ μ) := rfl
@[simp] theorem kJb_ : kJb z (some (x, μ)) = joinD z x μ := rfl
@[simp] theorem a_iVal : iVal a ρ μ = kV (a ρ μ) := rfl
@[simp] theorem kV_ : kV (some (x, μ)) = (srcD μ x).map fun s => (s, μ) := rfl
@[simp] theorem s_nil : sAll [] ρ μ = some (.nx ρ, μ) := rfl
@[simp] theorem s_cons : sAll (s :: ss) ρ μ = kS ss (s ρ μ) := rfl
@[simp] theorem kS_n : kS ss (some (.nx ρ, μ)) = sAll ss ρ μ := rfl
@[simp] theorem kS_r : kS ss (some (.rt d, μ)) = some (.rt d, μ) := rfl
@[simp] theorem s_set : sSet i a ρ μ = kSet i ρ (a ρ μ) := rfl
@[simp] theorem kSet_ : kSet i ρ (some (x, μ)) = some (.nx (ρ.set i (some x)), μ) := rfl
@[simp] theorem s_asg : sAsg tg a ρ μ = kAsg tg ρ (a ρ μ) := rfl
@[simp] theorem kAsg_ : kAsg tg ρ (some (x, μ)) = (tg x ρ).map fun ρ1 => (.nx ρ1, μ) := by
  show (tg x ρ).bind _ = _
  cases tg x ρ <;> rfl
@[simp] theorem s_ret : sRet a ρ μ = kRet (a ρ μ) := rfl
@[simp] theorem kRet_ : kRet (some (x, μ)) = some (.rt x, μ) := rfl
@[simp] theorem s_ex : sExpr a ρ μ = kEx ρ (a ρ μ) := rfl
@[simp] theorem kEx_ : kEx ρ (some (x, μ)) = some (.nx ρ, μ) := rfl
@[simp] theorem s_if : sIf c s t ρ μ = kSif s t ρ (c ρ μ) := by
  show (asB (c ρ μ)).bind _ = _
  unfold kSif
  cases h : c ρ μ with
  | none => rfl
  | some p =>
    obtain ⟨d, μ1⟩ := p
    cases d with
    | bl b => cases b <;> rfl
    | _ => rfl
@[simp] theorem kSif_t : kSif s t ρ (some (.bl true, μ)) = s ρ μ := rfl
@[simp] theorem kSif_f : kSif s t ρ (some (.bl false, μ)) = t ρ μ := rfl
@[simp] theorem s_for : sFor src tg s ρ μ = kFor tg s ρ (src ρ μ) := rfl
@[simp] theorem kFor_ {k : Chk} : kFor tg s ρ (some ((k, ds), μ)) = forL k tg s ds ρ μ := rfl
@[simp] theorem s_sub {o j e : ME} : sSub o j e ρ μ = kSub o j ρ (e ρ μ) := rfl
@[simp] theorem kSub_ {o j : ME} : kSub o j ρ (some (d, μ)) = kSubb j ρ d (o ρ μ) := rfl
@[simp] theorem kSubb_ {j : ME} : kSubb j ρ d (some (x, μ)) = kSubc ρ d x (j ρ μ) := rfl
@[simp] theorem kSubc_ : kSubc ρ d x (some (y, μ)) = kSubd ρ (setD x y d μ) := rfl
@[simp] theorem kSubd_ : kSubd ρ (some μ) = some (.nx ρ, μ) := rfl
end
end G
set_option Elab.async false
set_option linter.all false
set_option maxRecDepth 100000
set_option maxHeartbeats 4000000
/-! L1: what is laid behind calls, where only a place of ints has changed. -/
namespace G
open PySem L2
theorem okPre_same (μ : Mu) : okPre μ.length μ μ = true := by
  simp [okPre]
theorem frz_cl {k : Nat} {μ : Mu} {n : Nat} {d : D} (h : clD k d = true) : frz k μ n d = some d := by
  cases n <;> simp [frz, h]
theorem finish_same {μ : Mu} {d : D} (h : clD μ.length d = true) : finish μ.length μ d μ = some (d, μ) := by
  simp [finish, okPre_same, frz_cl h]
theorem okPre_set {μ : Mu} {b : Nat} {ds : List D} (h : clL μ.length ds = true) : okPre μ.length μ (μ.set b (.lst ds)) = true := by
  simp only [okPre, List.length_set, Nat.le_refl, decide_true, Bool.true_and, List.all_eq_true, List.mem_range, Bool.or_eq_true, decide_eq_true_eq]
  intro i hi
  by_cases e : b = i
  · subst e
    right
    rw [List.getElem?_set_self hi]
    exact h
  · left
    rw [List.getElem?_set_ne e]
theorem finish_set {μ : Mu} {b : Nat} {ds : List D} {d : D} (h : clL μ.length ds = true) (hd : clD μ.length d = true) : finish μ.length μ d (μ.set b (.lst ds)) = some (d, μ.set b (.lst ds)) := by
  have e : (μ.set b (.lst ds)).take μ.length = μ.set b (.lst ds) := List.take_of_length_le (by simp)
  simp [finish, okPre_set h, frz_cl hd, e]
/-- a bag at b, of which m more may be taken -/
structure Bg (μ : Mu) (b m : Nat) : Prop where
  ex : ∃ d c s : Int, μ[b]? = some (.lst [.int d, .int c, .int s]) ∧ 0 ≤ d ∧ 0 ≤ c ∧ c < 4294967296 ∧ 0 ≤ s ∧ s + m ≤ 100000
theorem Bg.le {μ : Mu} {b m m' : Nat} (h : Bg μ b m) (hm : m' ≤ m) : Bg μ b m' :=
  let ⟨d, c, s, e, h1, h2, h3, h4, h5⟩ := h.ex
  ⟨d, c, s, e, h1, h2, h3, h4, by omega⟩
/-- another bag stands there -/
def Ch (μ : Mu) (b m : Nat) (μ' : Mu) : Prop := Bg μ' b m ∧ ∃ d c s : Int, μ' = μ.set b (.lst [.int d, .int c, .int s])
theorem Bg.ch {μ : Mu} {b m : Nat} (h : Bg μ b m) : Ch μ b m μ := by
  obtain ⟨d, c, s, e, h1⟩ := h.ex
  refine ⟨h, d, c, s, ?_⟩
  apply List.ext_getElem?
  intro i
  by_cases q : b = i
  · subst q
    rw [List.getElem?_set_self (List.getElem?_eq_some_iff.mp e).1, e]
  · rw [List.getElem?_set_ne q]
theorem Ch.trans {μ μ1 μ2 : Mu} {b m m' : Nat} (h : Ch μ b m μ1) (g : Ch μ1 b m' μ2) : Ch μ b m' μ2 := by
  obtain ⟨_, d, c, s, rfl⟩ := h
  obtain ⟨h2, d', c', s', rfl⟩ := g
  exact ⟨h2, d', c', s', by rw [List.set_set]⟩
theorem Ch.len {μ μ1 : Mu} {b m : Nat} (h : Ch μ b m μ1) : μ1.length = μ.length := by
  obtain ⟨_, d, c, s, rfl⟩ := h
  simp
theorem Ch.fin {μ μ1 : Mu} {b m : Nat} (h : Ch μ b m μ1) {d : D} (hd : clD μ.length d = true) : finish μ.length μ d μ1 = some (d, μ1) := by
  obtain ⟨_, d', c, s, rfl⟩ := h
  exact finish_set (by simp [clL, clD]) hd
theorem runFn_rt {N : List Str} {np : Nat} {body : MS} {ds : List D} {μ μ' : Mu} {d : D} (hn : ds.length = np) (h : body (start N ds) μ = some (.rt d, μ')) : runFn N np false body ds μ = finish μ.length μ d μ' := by
  simp [runFn, hn, h, outD]
theorem okInt_of {i : Int} (h0 : 0 ≤ i) (h : i < 18446744073709551616) : okInt i = true := by
  simp only [okInt, decide_eq_true_eq]
  omega
def primes : List Int := [2147483629, 2147483587, 2147483579, 2147483563, 2147483549, 2147483543, 2147483497]
theorem primes_at {j : Int} (h0 : 0 ≤ j) (h : j < 7) : ∃ p : Int, L2.atI (primes.map D.int) j = some (.int p) ∧ 1 ≤ p ∧ p ≤ 2147483629 := by
  have : j = 0 ∨ j = 1 ∨ j = 2 ∨ j = 3 ∨ j = 4 ∨ j = 5 ∨ j = 6 := by omega
  rcases this with rfl | rfl | rfl | rfl | rfl | rfl | rfl
  · exact ⟨2147483629, rfl, by decide, by decide⟩
  · exact ⟨2147483587, rfl, by decide, by decide⟩
  · exact ⟨2147483579, rfl, by decide, by decide⟩
  · exact ⟨2147483563, rfl, by decide, by decide⟩
  · exact ⟨2147483549, rfl, by decide, by decide⟩
  · exact ⟨2147483543, rfl, by decide, by decide⟩
  · exact ⟨2147483497, rfl, by decide, by decide⟩
theorem ix_ref {μ : Mu} {b : Nat} {ds : List D} (e : μ[b]? = some (.lst ds)) (i : Int) : ixD (.ref b) (.int i) μ = (L2.atI ds i).map fun d => (d, μ) := by
  show ((match μ[b]? with
    | some (.lst ds) => some ds
    | _ => none).bind _) = _
  rw [e]
  rfl
theorem take_ok (n : Nat) {μ : Mu} {b m : Nat} {k : Int} (h : Bg μ b (m + 1)) (h1 : 1 ≤ k) (h2 : k < 1000000) : ∃ (r : Int) (μ' : Mu), callF pg (n + 1) "_law_take" [.ref b, .int k] μ = some (.int r, μ') ∧ 0 ≤ r ∧ r < k ∧ Ch μ b m μ' := by
  obtain ⟨d, c, s, e, d0, c0, c1, s0, s1⟩ := h.ex
  have hb := (List.getElem?_eq_some_iff.mp e).1
  have h3 : k < 1073741824 := by omega
  have h4 : 0 < k := by omega
  rw [c__law_take]
  by_cases hd : 0 < d
  · refine ⟨d % k, μ.set b (.lst [.int (d / k), .int c, .int s]), ?_, Int.emod_nonneg _ (by omega), Int.emod_lt_of_pos _ (by omega), ⟨⟨_, _, _, List.getElem?_set_self hb, Int.ediv_nonneg d0 (by omega), c0, c1, s0, by omega⟩, _, _, _, rfl⟩⟩
    refine (runFn_rt (by rfl) (d := .int (d % k)) (μ' := μ.set b (.lst [.int (d / k), .int c, .int s])) ?_).trans (finish_set (by simp [clL, clD]) (by simp [clD]))
    have r0 : ixD (.ref b) (.int 0) μ = some (.int d, μ) := ix_ref e 0
    simp [b__law_take, start, i__law_take, r0, e, ltI, hd, L2.ixN, setD, modD, fdivD, h3, h4]
  · have hp1 := primes_at (j := (s + 1) % 7) (by omega) (by omega)
    have hp2 := primes_at (j := (s + 1 + 3) % 7) (by omega) (by omega)
    obtain ⟨p1, q1, a1, a2⟩ := hp1
    obtain ⟨p2, q2, a3, a4⟩ := hp2
    obtain ⟨B, hB⟩ : ∃ B : Int, B = c * (2 * (s + 1) + 1) + 6007 * (s + 1) * (s + 1) + 29 := ⟨_, rfl⟩
    have hs : s + 1 ≤ 100000 := by omega
    have B0 : 0 ≤ B := by
      have t1 : 0 ≤ c * (2 * (s + 1) + 1) := Int.mul_nonneg c0 (by omega)
      have t2 : 0 ≤ 6007 * (s + 1) * (s + 1) := Int.mul_nonneg (by omega) (by omega)
      omega
    have B1 : B < 18446744073709551616 := by
      have t1 : c * (2 * (s + 1) + 1) ≤ 4294967296 * 200001 := Int.mul_le_mul (by omega) (by omega) (by omega) (by omega)
      have t2 : 6007 * (s + 1) * (s + 1) ≤ 600700000 * 100000 := Int.mul_le_mul (by omega) (by omega) (by omega) (by omega)
      omega
    have B2 : B.natAbs < 18446744073709551616 := by omega
    obtain ⟨F, hF⟩ : ∃ F : Int, F = B ^ 3 % p1 := ⟨_, rfl⟩
    have F0 : 0 ≤ F := by rw [hF]; exact Int.emod_nonneg _ (by omega)
    have F1 : F < p1 := by rw [hF]; exact Int.emod_lt_of_pos _ (by omega)
    have o1 : okInt c = true := okInt_of c0 (by omega)
    have o2 : okInt (2 : Int) = true := by decide
    have o3 : okInt (s + 1) = true := okInt_of (by omega) (by omega)
    have o4 : okInt F = true := okInt_of F0 (by omega)
    have hp1 : 0 < p1 := by omega
    have hp2 : 0 < p2 := by omega
    have hup : μ[b]? = some (.lst [.int d, .int c, .int s]) := e
    have e2 : (μ.set b (.lst [.int d, .int c, .int (s + 1)]))[b]? = some (.lst [.int d, .int c, .int (s + 1)]) := List.getElem?_set_self hb
    refine ⟨F * (F / 4096 + 11) % p2 / 16 % k, μ.set b (.lst [.int d, .int c, .int (s + 1)]), ?_, Int.emod_nonneg _ (by omega), Int.emod_lt_of_pos _ (by omega), ⟨⟨_, _, _, e2, d0, c0, c1, by omega, by omega⟩, _, _, _, rfl⟩⟩
    refine (runFn_rt (by rfl) (d := .int (F * (F / 4096 + 11) % p2 / 16 % k)) (μ' := μ.set b (.lst [.int d, .int c, .int (s + 1)])) ?_).trans (finish_set (by simp [clL, clD]) (by simp [clD]))
    have P1 : ∀ ρ : Fr, ∀ μ : Mu, (eL tupD (lAll [(eCon (.int 2147483629)), (eCon (.int 2147483587)), (eCon (.int 2147483579)), (eCon (.int 2147483563)), (eCon (.int 2147483549)), (eCon (.int 2147483543)), (eCon (.int 2147483497))])) ρ μ = some (.tup (primes.map D.int), μ) := fun ρ μ => by
      simp [tupD, primes, sizeLine_eq]
    have q1' : ∀ μ : Mu, ixD (.tup (primes.map D.int)) (.int ((s + 1) % 7)) μ = some (.int p1, μ) := fun μ => by
      show (L2.atI (primes.map D.int) ((s + 1) % 7)).map _ = _
      rw [q1]; rfl
    have q2' : ∀ μ : Mu, ixD (.tup (primes.map D.int)) (.int ((s + 1 + 3) % 7)) μ = some (.int p2, μ) := fun μ => by
      show (L2.atI (primes.map D.int) ((s + 1 + 3) % 7)).map _ = _
      rw [q2]; rfl
    have r0 : ixD (.ref b) (.int 0) μ = some (.int d, μ) := ix_ref e 0
    have r2 : ixD (.ref b) (.int 2) μ = some (.int s, μ) := ix_ref e 2
    have w1 : ixD (.ref b) (.int 1) (μ.set b (.lst [.int d, .int c, .int (s + 1)])) = some (.int c, μ.set b (.lst [.int d, .int c, .int (s + 1)])) := ix_ref e2 1
    have w2 : ixD (.ref b) (.int 2) (μ.set b (.lst [.int d, .int c, .int (s + 1)])) = some (.int (s + 1), μ.set b (.lst [.int d, .int c, .int (s + 1)])) := ix_ref e2 2
    unfold b__law_take
    rw [s_cons, s_if]
    have first : (G.e2 cGt (G.e2 ixD (eVar 0) (eCon (.int 0))) (eCon (.int 0))) (start i__law_take.N [.ref b, .int k]) μ = some (.bl false, μ) := by
      simp [start, i__law_take, r0, ltI, hd]
    rw [first, kSif_f, s_nil, kS_n, s_cons, s_set, P1]
    simp [start, i__law_take, r0, r2, w1, w2, e, L2.ixN, ltI, hd, setD, addD, mulD, modD, fdivD, powD, ← hB, B2, B0, q1', q2', ← hF, hp1, hp2, h3, h4, o1, o2, o3, o4]
end G
set_option Elab.async false
set_option linter.all false
set_option maxRecDepth 100000
set_option maxHeartbeats 4000000
/-! L2: comprehensions. -/
namespace G
open PySem L2
mutual
theorem clD_le {j k : Nat} (h : j ≤ k) : ∀ d : D, clD j d = true → clD k d = true
  | .non, _ => by simp [clD]
  | .bl _, _ => by simp [clD]
  | .int _, _ => by simp [clD]
  | .str _, _ => by simp [clD]
  | .tup ds, e => by
    simp only [clD] at e ⊢
    exact clL_le h ds e
  | .fl ds, e => by
    simp only [clD] at e ⊢
    exact clL_le h ds e
  | .sc ds, e => by
    simp only [clD] at e ⊢
    exact clL_le h ds e
  | .ref n, e => by
    simp only [clD, decide_eq_true_eq] at e ⊢
    omega
theorem clL_le {j k : Nat} (h : j ≤ k) : ∀ ds : List D, clL j ds = true → clL k ds = true
  | [], _ => by simp [clL]
  | d :: ds, e => by
    simp only [clL, Bool.and_eq_true] at e ⊢
    exact ⟨clD_le h d e.1, clL_le h ds e.2⟩
end
theorem clL_all {k : Nat} : ∀ {ds : List D}, clL k ds = true ↔ ∀ d ∈ ds, clD k d = true
  | [] => by simp [clL]
  | d :: ds => by
    simp only [clL, Bool.and_eq_true, List.mem_cons, forall_eq_or_imp]
    rw [clL_all]
theorem mapO_frz {k n : Nat} {μ : Mu} : ∀ {ds : List D}, clL k ds = true → mapO (frz k μ n) ds = some ds
  | [], _ => rfl
  | d :: ds, h => by
    simp only [clL, Bool.and_eq_true] at h
    unfold mapO
    rw [frz_cl h.1, mapO_frz h.2]
    rfl
/-- the new list stands in line -/
theorem finish_new {μ μ1 : Mu} {ds : List D} (hl : μ1.length = μ.length) (hp : okPre μ.length μ (μ1 ++ [.lst ds]) = true) (hc : clL μ.length ds = true) : finish μ.length μ (.ref μ.length) (μ1 ++ [.lst ds]) = some (.fl ds, μ1) := by
  have e1 : (μ1 ++ [Ob.lst ds])[μ.length]? = some (.lst ds) := by rw [← hl]; simp
  have e2 : (μ1 ++ [Ob.lst ds]).take μ.length = μ1 := by rw [← hl]; simp
  have e3 : clD μ.length (.ref μ.length) = false := by simp [clD]
  have e4 : frz μ.length (μ1 ++ [.lst ds]) deep (.ref μ.length) = some (.fl ds) := by
    show frz μ.length (μ1 ++ [.lst ds]) (39 + 1) (.ref μ.length) = _
    unfold frz
    rw [e3, if_neg Bool.false_ne_true]
    simp only [e1, mapO_frz hc, Option.map_some]
  simp only [finish, hp, if_true, e4, e2]
theorem okPre_app {μ : Mu} {ds : List D} : okPre μ.length μ (μ ++ [.lst ds]) = true := by
  simp only [okPre, List.length_append, List.all_eq_true, List.mem_range, Bool.and_eq_true, decide_eq_true_eq, Bool.or_eq_true]
  refine ⟨by omega, fun i hi => .inl ?_⟩
  rw [List.getElem?_append_left hi]
theorem okPre_setApp {μ : Mu} {b : Nat} {cs ds : List D} (h : clL μ.length cs = true) : okPre μ.length μ (μ.set b (.lst cs) ++ [.lst ds]) = true := by
  simp only [okPre, List.length_append, List.length_set, List.all_eq_true, List.mem_range, Bool.and_eq_true, decide_eq_true_eq, Bool.or_eq_true]
  refine ⟨by omega, fun i hi => ?_⟩
  rw [List.getElem?_append_left (by simpa using hi)]
  by_cases e : b = i
  · subst e
    right
    rw [List.getElem?_set_self hi]
    exact h
  · left
    rw [List.getElem?_set_ne e]
/-- a comprehension whose turns change nothing -/
theorem compL_pure {f : MG} {elt : ME} {ρ : Fr} {F : D → Fr} {g : D → D} (hf : ∀ d, f d ρ = some (F d)) : ∀ (items : List D) (μ : Mu) (acc : List D), (∀ d ∈ items, ∀ μ, elt (F d) μ = some (g d, μ)) → acc.length + items.length ≤ sizeLine →
    compL [] f (eCon (.bl true)) elt μ.length ρ items (μ ++ [.lst acc]) = some (μ ++ [.lst (acc ++ items.map g)])
  | [], μ, acc, _, _ => by simp [compL, okSrc]
  | d :: items, μ, acc, he, hl => by
    rw [List.length_cons] at hl
    unfold compL
    have h1 : okSrc (μ ++ [.lst acc]) [] = true := rfl
    have h2 : asB (eCon (.bl true) (F d) (μ ++ [.lst acc])) = some (true, μ ++ [.lst acc]) := rfl
    have h3 : (μ ++ [Ob.lst acc])[μ.length]? = some (.lst acc) := by simp
    have h4 : acc.length < sizeLine := by omega
    have h5 : (μ ++ [Ob.lst acc]).set μ.length (.lst (acc ++ [g d])) = μ ++ [.lst (acc ++ [g d])] := by simp
    rw [if_pos h1, hf d, Option.bind_some, h2, Option.bind_some, if_pos rfl, he d (List.mem_cons_self ..), Option.bind_some]
    simp only [h3, if_pos h4, h5]
    rw [compL_pure hf items μ _ (fun e h => he e (List.mem_cons_of_mem _ h)) (by rw [List.length_append, List.length_singleton]; omega)]
    simp
theorem comp_pure {src : MI} {f : MG} {elt : ME} {ρ : Fr} {μ0 μ : Mu} {vs : List Nat} {items : List D} {F : D → Fr} {g : D → D} (hs : src ρ μ0 = some (([], items), μ)) (hf : ∀ d, f d (wipeF ρ vs) = some (F d)) (he : ∀ d ∈ items, ∀ μ, elt (F d) μ = some (g d, μ)) (hc : ∀ d ∈ items, clD 0 (g d) = true) (hl : items.length ≤ sizeLine) :
    eComp src f vs (eCon (.bl true)) elt false ρ μ0 = some (.fl (items.map g), μ) := by
  unfold eComp
  rw [hs, Option.bind_some]
  simp only
  rw [compL_pure hf items μ [] he (by simpa using hl), Option.bind_some, List.nil_append, if_neg Bool.false_ne_true]
  exact finish_new rfl okPre_app (clL_le (Nat.zero_le _) _ (clL_all.mpr fun d hd => by
    obtain ⟨e, h1, rfl⟩ := List.mem_map.mp hd
    exact hc e h1))
/-- which items are kept, and as what -/
inductive Kept (Q : D → D → Prop) (al : Bool) : List D → List D → Prop
  | nil : Kept Q al [] []
  | keep {d y : D} {ds ys : List D} : Q d y → Kept Q al ds ys → Kept Q al (d :: ds) (y :: ys)
  | drop {d : D} {ds ys : List D} : al = false → Kept Q al ds ys → Kept Q al (d :: ds) ys
theorem bag_app {μ : Mu} {b : Nat} (hb : b < μ.length) {o : Ob} {acc : List D} : (μ ++ [Ob.lst acc]).set b o = μ.set b o ++ [.lst acc] := by
  rw [List.set_append_left _ _ hb]
theorem Bg.lt {μ : Mu} {b m : Nat} (h : Bg μ b m) : b < μ.length := by
  obtain ⟨d, c, s, e, _⟩ := h.ex
  exact (List.getElem?_eq_some_iff.mp e).1
theorem Bg.app {μ : Mu} {b m : Nat} (h : Bg μ b m) (o : Ob) : Bg (μ ++ [o]) b m := by
  have hl := h.lt
  obtain ⟨d, c, s, e, r⟩ := h.ex
  exact ⟨d, c, s, by rw [List.getElem?_append_left hl]; exact e, r⟩
theorem Ch.unapp {μ μ2 : Mu} {b m : Nat} {acc : List D} (hl : b < μ.length) (h : Ch (μ ++ [.lst acc]) b m μ2) : ∃ μ1, μ2 = μ1 ++ [.lst acc] ∧ Ch μ b m μ1 := by
  obtain ⟨h1, d, c, s, rfl⟩ := h
  rw [bag_app hl] at h1 ⊢
  refine ⟨_, rfl, ?_, d, c, s, rfl⟩
  obtain ⟨d', c', s', e, r⟩ := h1.ex
  exact ⟨d', c', s', by rwa [List.getElem?_append_left (by simpa using hl)] at e, r⟩
/-- a turn of a comprehension that takes from a bag -/
def Turn (cond elt : ME) (b cost : Nat) (al : Bool) (Q : D → D → Prop) (d : D) (ρ : Fr) : Prop := ∀ (μ : Mu) (m : Nat), Bg μ b (m + cost) → ∃ c μ1, cond ρ μ = some (.bl c, μ1) ∧
  ((c = false ∧ al = false ∧ Ch μ b m μ1) ∨ (c = true ∧ ∃ y μ2, elt ρ μ1 = some (y, μ2) ∧ clD 0 y = true ∧ Q d y ∧ Ch μ b m μ2))
theorem compL_bag {f : MG} {cond elt : ME} {ρ : Fr} {F : D → Fr} {b cost : Nat} {al : Bool} {Q : D → D → Prop} (hf : ∀ d, f d ρ = some (F d)) : ∀ (items : List D) (μ : Mu) (acc : List D) (m : Nat), (∀ d ∈ items, Turn cond elt b cost al Q d (F d)) → acc.length + items.length ≤ sizeLine →
    Bg μ b (m + cost * items.length) → ∃ ds μ2, compL [] f cond elt μ.length ρ items (μ ++ [.lst acc]) = some (μ2 ++ [.lst (acc ++ ds)]) ∧ Kept Q al items ds ∧ Ch μ b m μ2 ∧ clL 0 ds = true
  | [], μ, acc, m, _, _, hb => ⟨[], μ, by simp [compL, okSrc], .nil, Bg.ch (by simpa using hb), rfl⟩
  | d :: items, μ, acc, m, he, hl, hb => by
    rw [List.length_cons] at hl
    rw [List.length_cons, Nat.mul_succ] at hb
    have hlt := hb.lt
    have hb2 : Bg (μ ++ [Ob.lst acc]) b ((m + cost * items.length) + cost) := by
      have := hb.app (.lst acc)
      rwa [← Nat.add_assoc] at this
    obtain ⟨c, μ1, e1, e2⟩ := he d (List.mem_cons_self ..) _ _ hb2
    unfold compL
    have h1 : okSrc (μ ++ [.lst acc]) [] = true := rfl
    have h2 : asB (cond (F d) (μ ++ [.lst acc])) = some (c, μ1) := by rw [e1]; rfl
    rw [if_pos h1, hf d, Option.bind_some, h2, Option.bind_some]
    rcases e2 with ⟨rfl, ha, ch⟩ | ⟨rfl, y, μ2, e3, cy, qy, ch⟩
    · obtain ⟨μ3, rfl, ch3⟩ := ch.unapp hlt
      rw [if_neg Bool.false_ne_true, ← ch3.len]
      obtain ⟨ds, μ4, r1, r2, r3, r4⟩ := compL_bag hf items μ3 acc m (fun e h => he e (List.mem_cons_of_mem _ h)) (by omega) ch3.1
      exact ⟨ds, μ4, r1, .drop ha r2, ch3.trans r3, r4⟩
    · obtain ⟨μ3, rfl, ch3⟩ := ch.unapp hlt
      have h3 : (μ3 ++ [Ob.lst acc])[μ.length]? = some (.lst acc) := by rw [← ch3.len]; simp
      have h4 : acc.length < sizeLine := by omega
      have h5 : (μ3 ++ [Ob.lst acc]).set μ.length (.lst (acc ++ [y])) = μ3 ++ [.lst (acc ++ [y])] := by rw [← ch3.len]; simp
      rw [if_pos rfl, e3, Option.bind_some]
      simp only [h3, if_pos h4, h5]
      rw [← ch3.len]
      obtain ⟨ds, μ4, r1, r2, r3, r4⟩ := compL_bag hf items μ3 (acc ++ [y]) m (fun e h => he e (List.mem_cons_of_mem _ h)) (by rw [List.length_append, List.length_singleton]; omega) ch3.1
      refine ⟨y :: ds, μ4, ?_, .keep qy r2, ch3.trans r3, by simp [clL, cy, r4]⟩
      rw [r1, List.append_assoc]
      rfl
theorem comp_bag {src : MI} {f : MG} {cond elt : ME} {ρ : Fr} {μ0 μ : Mu} {vs : List Nat} {items : List D} {F : D → Fr} {b cost m : Nat} {al : Bool} {Q : D → D → Prop} (hs : src ρ μ0 = some (([], items), μ)) (hf : ∀ d, f d (wipeF ρ vs) = some (F d))
    (he : ∀ d ∈ items, Turn cond elt b cost al Q d (F d)) (hl : items.length ≤ sizeLine) (hb : Bg μ b (m + cost * items.length)) :
    ∃ ds μ2, eComp src f vs cond elt false ρ μ0 = some (.fl ds, μ2) ∧ Kept Q al items ds ∧ Ch μ b m μ2 := by
  obtain ⟨ds, μ2, r1, r2, r3, r4⟩ := compL_bag hf items μ [] m he (by simpa using hl) hb
  refine ⟨ds, μ2, ?_, r2, r3⟩
  unfold eComp
  rw [hs, Option.bind_some]
  simp only
  rw [r1, Option.bind_some, List.nil_append, if_neg Bool.false_ne_true]
  obtain ⟨_, d, c, s, rfl⟩ := r3
  exact finish_new (by simp) (okPre_setApp (by simp [clL, clD])) (clL_le (Nat.zero_le _) _ r4)
end G
set_option Elab.async false
set_option linter.all false
set_option maxRecDepth 100000
set_option maxHeartbeats 4000000
/-! M1: entries and logs, as data. -/
namespace G
open PySem L2
structure En where
  s : Int
  p : Int
  n : Int
  t : Str
  deriving DecidableEq
/-- the signs of a text -/
def okT (t : Str) : Bool := t.cps.toList.all fun c => decide (32 ≤ c ∧ c ≤ 126 ∧ c ≠ 37)
/-- what may stand in a log -/
inductive Wi where
  | ok (e : En) | b0 | b3 | bn | bl (e : En) | bs
def enD (e : En) : D := .tup [.int e.s, .int e.p, .int e.n, .str e.t]
def enP (e : En) : PyData := .tuple [.int e.s, .int e.p, .int e.n, .str e.t]
def wiD : Wi → D
  | .ok e => enD e
  | .b0 => .tup []
  | .b3 => .tup [.int 0, .int 0, .int 0]
  | .bn => .non
  | .bl e => .fl [.int e.s, .int e.p, .int e.n, .str e.t]
  | .bs => .str "a"
def wiP : Wi → PyData
  | .ok e => enP e
  | .b0 => .tuple []
  | .b3 => .tuple [.int 0, .int 0, .int 0]
  | .bn => .none
  | .bl e => .list [.int e.s, .int e.p, .int e.n, .str e.t]
  | .bs => .str "a"
def okW : Wi → Bool
  | .ok e => okT e.t
  | .bl e => okT e.t
  | _ => true
theorem dat_en (μ : Mu) (n : Nat) (e : En) : dat μ (n + 1) (enD e) = some (enP e) := by cases n <;> rfl
theorem dat_wi (μ : Mu) (n : Nat) (x : Wi) : dat μ (n + 1) (wiD x) = some (wiP x) := by
  cases x <;> cases n <;> rfl
theorem mapO_map {α β γ : Type} {f : α → Option β} {g : γ → α} {h : γ → β} (e : ∀ x, f (g x) = some (h x)) : ∀ l : List γ, mapO f (l.map g) = some (l.map h)
  | [] => rfl
  | x :: l => by
    unfold List.map mapO
    rw [e x, mapO_map e l]
    rfl
theorem mapO_mem {α β γ : Type} {f : α → Option β} {g : γ → α} {h : γ → β} : ∀ l : List γ, (∀ x ∈ l, f (g x) = some (h x)) → mapO f (l.map g) = some (l.map h)
  | [], _ => rfl
  | x :: l, e => by
    unfold List.map mapO
    rw [e x (List.mem_cons_self ..), mapO_mem l fun y hy => e y (List.mem_cons_of_mem _ hy)]
    rfl
theorem strOk_of {t : Str} (h : okT t = true) : PyData.strOk t = true := by
  unfold PyData.strOk
  rw [← Array.all_toList]
  rw [List.all_eq_true]
  intro c hc
  have := List.all_eq_true.mp h c hc
  simp only [decide_eq_true_eq] at this ⊢
  omega
theorem lay_en {e : En} (h : okT e.t = true) : (enP e).canLay0 = true := by
  simp [enP, PyData.canLay0, PyData.canLayAll0, strOk_of h]
theorem lay_wi {x : Wi} (h : okW x = true) : (wiP x).canLay0 = true := by
  cases x with
  | ok e => exact lay_en h
  | bl e =>
    have h : okT e.t = true := h
    simp [wiP, PyData.canLay0, PyData.canLayAll0, strOk_of h]
  | bs => exact (by simp only [wiP, PyData.canLay0]; kernel_rfl)
  | _ => simp [wiP, PyData.canLay0, PyData.canLayAll0]
theorem dep_en (e : En) : (enP e).depth = 1 := by simp [enP, PyData.depth, PyData.depthAll]
theorem dep_wi (x : Wi) : (wiP x).depth ≤ 1 := by
  cases x <;> simp [wiP, enP, PyData.depth, PyData.depthAll]
theorem shaped_en {e : En} (h : okT e.t = true) : SeqAt.shaped (enP e) = true := by simp [SeqAt.shaped, lay_en h, dep_en]
theorem shaped_wi {x : Wi} (h : okW x = true) : SeqAt.shaped (wiP x) = true := by
  have := dep_wi x
  simp only [SeqAt.shaped, lay_wi h, Bool.true_and, decide_eq_true_eq]
  omega
theorem lay_all : ∀ {l : List PyData}, (∀ p ∈ l, p.canLay0 = true) → PyData.canLayAll0 l = true
  | [], _ => by simp [PyData.canLayAll0]
  | p :: l, h => by
    rw [PyData.canLayAll0, h p (List.mem_cons_self ..), lay_all fun q hq => h q (List.mem_cons_of_mem _ hq)]
    rfl
theorem dep_all {k : Nat} : ∀ {l : List PyData}, (∀ p ∈ l, p.depth ≤ k) → PyData.depthAll l ≤ k
  | [], _ => by simp [PyData.depthAll]
  | p :: l, h => by
    rw [PyData.depthAll]
    exact Nat.max_le.mpr ⟨h p (List.mem_cons_self ..), dep_all fun q hq => h q (List.mem_cons_of_mem _ hq)⟩
theorem shaped_list {l : List PyData} {k : Nat} (h1 : ∀ p ∈ l, p.canLay0 = true) (h2 : ∀ p ∈ l, p.depth ≤ k) (hk : k ≤ 60) : SeqAt.shaped (.list l) = true := by
  have := dep_all h2
  have e : (PyData.list l).depth = PyData.depthAll l + 1 := by rw [PyData.depth]
  simp only [SeqAt.shaped, PyData.canLay0, lay_all h1, Bool.true_and, decide_eq_true_eq, e]
  omega
theorem eqv_en (a b : En) : PyData.eqv (enP a) (enP b) = decide (a = b) := by
  obtain ⟨s, p, n, t⟩ := a
  obtain ⟨s', p', n', t'⟩ := b
  simp only [enP, PyData.eqv, PyData.eqvAll, Bool.and_true, En.mk.injEq]
  by_cases h1 : s = s' <;> by_cases h2 : p = p' <;> by_cases h3 : n = n' <;> by_cases h4 : t = t' <;> simp [h1, h2, h3, h4]
/-- the order of the entries -/
def ltE (a b : En) : Bool := PySem.W.dataLt (enP a) (enP b)
theorem alike_en (a b : En) : PySem.W.alike (enP a) (enP b) = true := by simp [enP, PySem.W.alike, PySem.W.alikeAll]
theorem toks_en {a b : En} (h : PySem.W.keyToks (enP a) = PySem.W.keyToks (enP b)) : a = b := by
  obtain ⟨s, p, n, t⟩ := a
  obtain ⟨s', p', n', t'⟩ := b
  simp only [enP, PySem.W.keyToks, PySem.W.keyToksAll, List.cons_append, List.nil_append, List.cons.injEq, Sum.inl.injEq, Sum.inr.injEq, true_and, and_true] at h
  obtain ⟨rfl, rfl, rfl, h⟩ := h
  rw [PySem.W.str_of_cps h]
theorem ltE_irrefl (a : En) : ltE a a = false := PyProof.Rows.lex_irrefl _
theorem ltE_trans {a b c : En} (h1 : ltE a b = true) (h2 : ltE b c = true) : ltE a c = true := PyProof.Rows.lex_trans _ _ _ h1 h2
theorem ltE_total {a b : En} (h1 : ltE a b = false) (h2 : ltE b a = false) : a = b := toks_en (PyProof.Rows.lex_total _ _ h1 h2)
theorem ltE_asymm {a b : En} (h1 : ltE a b = true) : ltE b a = false := by
  cases h : ltE b a with
  | false => rfl
  | true =>
    have := ltE_trans h1 h
    rw [ltE_irrefl] at this
    cases this
theorem ltO_en (μ : Mu) {a b : En} (ha : okT a.t = true) (hb : okT b.t = true) : ltO μ (enD a) (enD b) = some (ltE a b) := by
  have e : ltO μ (enD a) (enD b) = (dat μ deep (enD a)).bind fun p => (dat μ deep (enD b)).bind fun q => if (SeqAt.shaped p && SeqAt.shaped q) && (PySem.W.alike p q && tyd p) then some (PySem.W.dataLt p q) else none := rfl
  rw [e, show dat μ deep (enD a) = some (enP a) from dat_en μ 39 a, show dat μ deep (enD b) = some (enP b) from dat_en μ 39 b]
  simp only [Option.bind_some, shaped_en ha, shaped_en hb, alike_en, Bool.and_self, Bool.true_and]
  rfl
/-- a log's data -/
def lgD (es : List En) : D := .fl (es.map enD)
theorem inD_en (μ : Mu) {a : En} {es : List En} (ha : okT a.t = true) (hs : ∀ e ∈ es, okT e.t = true) : inD μ (enD a) (lgD es) = some (decide (a ∈ es)) := by
  have e : inD μ (enD a) (lgD es) = (dat μ deep (enD a)).bind fun p => (mapO (dat μ deep) (es.map enD)).bind fun qs => if SeqAt.shaped p && SeqAt.shaped (.list qs) then some (qs.any fun q => q.eqv p) else none := rfl
  rw [e, show dat μ deep (enD a) = some (enP a) from dat_en μ 39 a, mapO_map (f := dat μ deep) (g := enD) (h := enP) (fun x => dat_en μ 39 x)]
  have sh : SeqAt.shaped (.list (es.map enP)) = true := shaped_list (k := 1) (fun p hp => by
    obtain ⟨x, hx, rfl⟩ := List.mem_map.mp hp
    exact lay_en (hs x hx)) (fun p hp => by
    obtain ⟨x, hx, rfl⟩ := List.mem_map.mp hp
    rw [dep_en]
    exact Nat.le_refl _) (by omega)
  simp only [Option.bind_some, shaped_en ha, sh, Bool.and_self, if_true]
  congr 1
  rw [List.any_map]
  by_cases h : a ∈ es
  · rw [decide_eq_true h, List.any_eq_true]
    exact ⟨a, h, by simp [eqv_en]⟩
  · rw [decide_eq_false h, Bool.eq_false_iff]
    intro hh
    obtain ⟨x, hx, e2⟩ := List.any_eq_true.mp hh
    simp only [Function.comp_apply, eqv_en, decide_eq_true_eq] at e2
    subst e2
    exact h hx
theorem dat_lg (μ : Mu) (n : Nat) (es : List En) : dat μ (n + 2) (lgD es) = some (.list (es.map enP)) := by
  show (mapO (dat μ (n + 1)) (es.map enD)).map PyData.list = _
  rw [mapO_map (h := enP) (fun x => dat_en μ n x)]
  rfl
theorem eqvAll_en : ∀ a b : List En, PyData.eqvAll (a.map enP) (b.map enP) = decide (a = b)
  | [], [] => by simp [PyData.eqvAll]
  | [], _ :: _ => by simp [PyData.eqvAll]
  | _ :: _, [] => by simp [PyData.eqvAll]
  | x :: a, y :: b => by
    simp only [List.map_cons, PyData.eqvAll, eqv_en, eqvAll_en a b, List.cons.injEq]
    by_cases h1 : x = y <;> by_cases h2 : a = b <;> simp [h1, h2]
theorem shaped_lg {es : List En} (hs : ∀ e ∈ es, okT e.t = true) : SeqAt.shaped (.list (es.map enP)) = true := shaped_list (k := 1) (fun p hp => by
    obtain ⟨x, hx, rfl⟩ := List.mem_map.mp hp
    exact lay_en (hs x hx)) (fun p hp => by
    obtain ⟨x, hx, rfl⟩ := List.mem_map.mp hp
    rw [dep_en]
    exact Nat.le_refl _) (by omega)
theorem eqD_lg (μ : Mu) {a b : List En} (ha : ∀ e ∈ a, okT e.t = true) (hb : ∀ e ∈ b, okT e.t = true) : eqD μ (lgD a) (lgD b) = some (decide (a = b)) := by
  have e : eqD μ (lgD a) (lgD b) = (dat μ deep (lgD a)).bind fun p => (dat μ deep (lgD b)).bind fun q => if SeqAt.shaped p && SeqAt.shaped q then some (p.eqv q) else none := rfl
  rw [e, show dat μ deep (lgD a) = _ from dat_lg μ 38 a, show dat μ deep (lgD b) = _ from dat_lg μ 38 b]
  simp only [Option.bind_some, shaped_lg ha, shaped_lg hb, Bool.and_self, if_true, PyData.eqv, eqvAll_en]
/-! ### sorted -/
def srtE (es : List En) : List En := es.mergeSort fun a b => !ltE b a
theorem le_tot : PySem.W.TotalLe (fun a b : En => !ltE b a) := dataLe_tot enP
theorem zip_map_self {α β γ : Type} (f : α → β) (g : α → γ) : ∀ l : List α, (l.map f).zip (l.map g) = l.map fun x => (f x, g x)
  | [] => rfl
  | x :: l => by simp [zip_map_self f g l]
theorem sort_map {α β : Type} (f : α → β) (r : β → β → Bool) (l : List α) : (l.map f).mergeSort r = (l.mergeSort fun a b => r (f a) (f b)).map f := by
  exact (List.map_mergeSort (f := f) (r := fun a b => r (f a) (f b)) (s := r) (l := l) (fun a _ b _ => rfl)).symm
theorem sortL_en (es : List En) : sortL (es.map enD) (es.map enP) = (srtE es).map enD := by
  unfold sortL srtE
  rw [zip_map_self, sort_map, List.map_map]
  rfl
theorem sortOk_en {es : List En} (hs : ∀ e ∈ es, okT e.t = true) : sortOk (es.map enP) = true := by
  simp only [sortOk, Bool.and_eq_true, List.all_eq_true, Bool.or_eq_true]
  refine ⟨fun p hp => ?_, .inl fun p hp => ?_⟩
  · obtain ⟨x, hx, rfl⟩ := List.mem_map.mp hp
    refine ⟨shaped_en (hs x hx), fun q hq => ?_⟩
    obtain ⟨y, _, rfl⟩ := List.mem_map.mp hq
    exact alike_en x y
  · obtain ⟨x, hx, rfl⟩ := List.mem_map.mp hp
    rfl
theorem sorted_en (μ : Mu) {es : List En} (hs : ∀ e ∈ es, okT e.t = true) (hl : es.length ≤ 1000) : sortedD [lgD es] μ = some (lgD (srtE es), μ) := by
  have e : sortedD [lgD es] μ = (mapO (dat μ deep) (es.map enD)).bind fun ps => if sortOk ps && decide ((es.map enD).length ≤ sizeLine) then some (.fl (sortL (es.map enD) ps), μ) else none := rfl
  rw [e, mapO_map (f := dat μ deep) (g := enD) (h := enP) (fun x => dat_en μ 39 x)]
  have h2 : (es.map enD).length ≤ sizeLine := by rw [List.length_map, sizeLine_eq]; omega
  simp only [Option.bind_some, sortOk_en hs, h2, decide_true, Bool.and_self, if_true, sortL_en]
  rfl
theorem srt_perm (es : List En) : (srtE es).Perm es := List.mergeSort_perm _ _
theorem srt_le (es : List En) : (srtE es).Pairwise fun a b => ltE b a = false := by
  have := List.pairwise_mergeSort (le := fun a b : En => !ltE b a) le_tot.trans (fun a b => by
    rw [Bool.or_eq_true]
    exact le_tot.total a b) es
  exact this.imp fun {a b} h => by simpa using h
/-- one behind the other, each less -/
def Rise (es : List En) : Prop := es.Pairwise fun a b => ltE a b = true
theorem srt_rise {es : List En} (h : es.Nodup) : Rise (srtE es) := by
  have n : (srtE es).Nodup := (srt_perm es).nodup_iff.mpr h
  refine (List.Pairwise.and (srt_le es) n).imp fun {a b} ⟨h1, h2⟩ => ?_
  cases q : ltE a b with
  | true => rfl
  | false => exact absurd (ltE_total q h1) h2
theorem rise_eq {a b : List En} (ha : Rise a) (hb : Rise b) (h : ∀ e, e ∈ a ↔ e ∈ b) : a = b := by
  have na : a.Nodup := ha.imp fun {x y} q e => by
    subst e
    rw [ltE_irrefl] at q
    cases q
  have nb : b.Nodup := hb.imp fun {x y} q e => by
    subst e
    rw [ltE_irrefl] at q
    cases q
  have p := (List.perm_ext_iff_of_nodup na nb).mpr h
  refine List.Perm.eq_of_pairwise (le := fun x y => ltE x y = true) (fun x y _ _ q1 q2 => ?_) ha hb p
  rw [ltE_asymm q1] at q2
  cases q2
end G
set_option Elab.async false
set_option linter.all false
set_option maxRecDepth 100000
set_option maxHeartbeats 4000000
/-! M2: an entry that the law draws. -/
namespace G
open PySem L2
theorem join_cps : ∀ l : List Str, (Txt.join "" l).cps.toList = (l.map fun z => z.cps.toList).flatten := by
  intro l
  show (Builtin.Str.glued (PySem.Str.ofString "") l).cps.toList = _
  rw [StrLaws.glued_eq_join]
  induction l with
  | nil => rfl
  | cons a r ih =>
    cases r with
    | nil =>
      show a.cps.toList = _
      simp
    | cons b r =>
      have : Str.join (Str.ofString "") (a :: b :: r) = a ++ Str.ofString "" ++ Str.join (Str.ofString "") (b :: r) := rfl
      rw [this]
      have e : ∀ x y : Str, (x ++ y).cps.toList = x.cps.toList ++ y.cps.toList := fun x y => by
        show (x.cps ++ y.cps).toList = _
        simp
      have e0 : (Str.ofString "").cps.toList = [] := by decide
      rw [e, e, ih, e0]
      simp
def sg : Str := " !a~zQ09-/"
theorem sg_at {r : Int} (h0 : 0 ≤ r) (h : r < 10) : ∃ c : Nat, (∀ μ : Mu, ixD (.str sg) (.int r) μ = some (.str ⟨#[c]⟩, μ)) ∧ 32 ≤ c ∧ c ≤ 126 ∧ c ≠ 37 := by
  have : r = 0 ∨ r = 1 ∨ r = 2 ∨ r = 3 ∨ r = 4 ∨ r = 5 ∨ r = 6 ∨ r = 7 ∨ r = 8 ∨ r = 9 := by omega
  have key : ∀ (j : Int) (c : Nat), L2.atI sg.cps.toList j = some c → ∀ μ : Mu, ixD (.str sg) (.int j) μ = some (.str ⟨#[c]⟩, μ) := fun j c e μ => by
    show (if sg.length ≤ sizeLine then (L2.atI sg.cps.toList j).map fun c => (D.str ⟨#[c]⟩, μ) else none) = _
    rw [if_pos (by rw [sizeLine_eq]; show sg.length ≤ _; have : sg.length = 10 := by decide
                   omega), e]
    rfl
  rcases this with rfl | rfl | rfl | rfl | rfl | rfl | rfl | rfl | rfl | rfl
  · exact ⟨32, key _ _ (by decide), by decide, by decide, by decide⟩
  · exact ⟨33, key _ _ (by decide), by decide, by decide, by decide⟩
  · exact ⟨97, key _ _ (by decide), by decide, by decide, by decide⟩
  · exact ⟨126, key _ _ (by decide), by decide, by decide, by decide⟩
  · exact ⟨122, key _ _ (by decide), by decide, by decide, by decide⟩
  · exact ⟨81, key _ _ (by decide), by decide, by decide, by decide⟩
  · exact ⟨48, key _ _ (by decide), by decide, by decide, by decide⟩
  · exact ⟨57, key _ _ (by decide), by decide, by decide, by decide⟩
  · exact ⟨45, key _ _ (by decide), by decide, by decide, by decide⟩
  · exact ⟨47, key _ _ (by decide), by decide, by decide, by decide⟩
/-- a text of one sign -/
def QS (_ y : D) : Prop := ∃ c : Nat, y = .str ⟨#[c]⟩ ∧ 32 ≤ c ∧ c ≤ 126 ∧ c ≠ 37
theorem kept_signs : ∀ {items ds : List D}, Kept QS true items ds → ∃ cs : List Nat, ds = cs.map (fun c => D.str ⟨#[c]⟩) ∧ (∀ c ∈ cs, 32 ≤ c ∧ c ≤ 126 ∧ c ≠ 37) ∧ cs.length = items.length
  | _, _, .nil => ⟨[], rfl, fun _ z => (by cases z), rfl⟩
  | _, _, .keep ⟨c, e, h⟩ k => by
    obtain ⟨cs, e1, e2, e3⟩ := kept_signs k
    refine ⟨c :: cs, by rw [e, e1]; rfl, fun x hx => ?_, by simp [e3]⟩
    rcases List.mem_cons.mp hx with rfl | hx
    · exact h
    · exact e2 x hx
  | _, _, .drop h _ => nomatch h
theorem join_signs (cs : List Nat) (h : ∀ c ∈ cs, 32 ≤ c ∧ c ≤ 126 ∧ c ≠ 37) (hl : cs.length ≤ 1000) (μ : Mu) : ∃ z : Str, joinD "" (.fl (cs.map fun c => D.str ⟨#[c]⟩)) μ = some (.str z, μ) ∧ z.length = cs.length ∧ okT z = true := by
  have e1 : mapO strOf (cs.map fun c => D.str ⟨#[c]⟩) = some (cs.map fun c => (⟨#[c]⟩ : Str)) := mapO_map (f := strOf) (fun x => rfl) cs
  have e2 : ((cs.map fun c => (⟨#[c]⟩ : Str)).map fun z => z.length).sum = cs.length := by
    rw [List.map_map]
    clear h hl e1
    induction cs with
    | nil => rfl
    | cons c cs ih =>
      rw [List.map_cons, List.sum_cons, ih, List.length_cons]
      show 1 + cs.length = _
      omega
  refine ⟨Txt.join "" (cs.map fun c => (⟨#[c]⟩ : Str)), ?_, ?_, ?_⟩
  · show ((mapO strOf (cs.map fun c => D.str ⟨#[c]⟩)).bind fun zs => if (zs.map (fun z => z.length)).sum + zs.length * ("" : Str).length ≤ 16777216 then some (D.str (Txt.join "" zs), μ) else none) = _
    rw [e1, Option.bind_some, if_pos]
    rw [e2, show ("" : Str).length = 0 from by decide]
    omega
  · show (Txt.join "" _).cps.size = _
    rw [← Array.length_toList, join_cps, List.map_map]
    clear h hl e1 e2
    induction cs with
    | nil => rfl
    | cons c cs ih => simp [ih] at *
  · unfold okT
    rw [join_cps, List.all_eq_true]
    intro c hc
    simp only [List.mem_flatten, List.map_map, List.mem_map, Function.comp_apply] at hc
    obtain ⟨l, ⟨x, hx, rfl⟩, hc⟩ := hc
    have : c = x := by simpa using hc
    subst this
    simpa using h c hx
/-- a right entry -/
def vE (e : En) : Bool := decide (0 ≤ e.s ∧ e.s ≤ 999) && (decide (0 ≤ e.p ∧ e.p ≤ 3) && (decide (0 ≤ e.n ∧ e.n ≤ 999) && decide (1 ≤ e.t.length ∧ e.t.length ≤ 20)))
theorem entry_ok (k : Nat) {μ : Mu} {b m : Nat} {n : Int} (h : Bg μ b (m + 24)) (h0 : 0 ≤ n) (h1 : n ≤ 12) : ∃ (e : En) (μ' : Mu), callF pg (k + 2) "_law_entry" [.ref b, .int n] μ = some (enD e, μ') ∧ vE e = true ∧ okT e.t = true ∧ e.n = n ∧ Ch μ b m μ' := by
  rw [c__law_entry]
  -- how many signs
  obtain ⟨q, hq, q1, q2⟩ : ∃ q : Int, (∀ μ : Mu, ixD (.fl [.int 3, .int 20]) (.int (n % 2)) μ = some (.int q, μ)) ∧ 1 ≤ q ∧ q ≤ 20 := by
    have : n % 2 = 0 ∨ n % 2 = 1 := by omega
    rcases this with e | e
    · exact ⟨3, fun μ => by rw [e]; rfl, by decide, by decide⟩
    · exact ⟨20, fun μ => by rw [e]; rfl, by decide, by decide⟩
  obtain ⟨r, μ1, t1, r0, r1, ch1⟩ := take_ok k (k := q) (h.le (show (m + 23) + 1 ≤ m + 24 by omega)) q1 (by omega)
  have hsrc : iRng (lAll [(e2 addD (eCon (.int 1)) (eL (callF pg (k + 1) "_law_take") (lAll [(eVar 0), (e2 ixD (eL flD (lAll [(eCon (.int 3)), (eCon (.int 20))])) (e2 modD (eVar 1) (eCon (.int 2))))])))]) (start i__law_entry.N [.ref b, .int n]) μ = some (([], rngL 0 (1 + r).toNat), μ1) := by
    have hR : okR (1 + r) = true := by simp only [okR, decide_eq_true_eq]; omega
    have hz : 2 ≤ sizeLine := by rw [sizeLine_eq]; omega
    unfold iRng
    simp [start, i__law_entry, flD, modD, hq, t1, addD, hR, hz]
  have hitems : (rngL 0 (1 + r).toNat).length = (1 + r).toNat := by simp [rngL]
  obtain ⟨ds, μ2, c1, c2, ch2⟩ := comp_bag (b := b) (cost := 1) (al := true) (Q := QS) (m := m + 3) (f := gName 3) (vs := [3]) (cond := eCon (.bl true)) (elt := e2 ixD (eCon (.str " !a~zQ09-/")) (eL (callF pg (k + 1) "_law_take") (lAll [(eVar 0), (eCon (.int 10))])))
    (F := fun d => (wipeF (start i__law_entry.N [.ref b, .int n]) [3]).set 3 (some d)) hsrc (fun d => rfl) (fun d hd μ m hb => by
      obtain ⟨r', μ', t2, s0, s1, ch⟩ := take_ok k (k := 10) hb (by decide) (by decide)
      obtain ⟨c, hc, g⟩ := sg_at s0 s1
      have hc : ∀ μ : Mu, ixD (.str " !a~zQ09-/") (.int r') μ = some (.str ⟨#[c]⟩, μ) := hc
      refine ⟨true, μ, rfl, .inr ⟨rfl, .str ⟨#[c]⟩, μ', ?_, by simp [clD], ⟨c, rfl, g⟩, ch⟩⟩
      simp [start, i__law_entry, wipeF, t2, hc]) (by rw [hitems, sizeLine_eq]; omega) (by rw [hitems]; exact ch1.1.le (by omega))
  obtain ⟨cs, rfl, g1, g2⟩ := kept_signs c2
  rw [hitems] at g2
  obtain ⟨z, j1, j2, j3⟩ := join_signs cs g1 (by omega) μ2
  have hb2 := ch2.1
  obtain ⟨a1, μ3, t3, a10, a11, ch3⟩ := take_ok k (k := 4) (hb2.le (show (m + 2) + 1 ≤ m + 3 by omega)) (by decide) (by decide)
  obtain ⟨q', hq', q1', q2'⟩ : ∃ q : Int, (∀ μ : Mu, ixD (.fl [.int 4, .int 1000]) (.int (if a1 = 0 then 1 else 0)) μ = some (.int q, μ)) ∧ 1 ≤ q ∧ q ≤ 1000 := by
    by_cases e : a1 = 0
    · exact ⟨1000, fun μ => by simp only [e]; rfl, by decide, by decide⟩
    · exact ⟨4, fun μ => by simp only [e]; rfl, by decide, by decide⟩
  obtain ⟨a2, μ4, t4, a20, a21, ch4⟩ := take_ok k (k := q') (ch3.1.le (show (m + 1) + 1 ≤ m + 2 by omega)) q1' (by omega)
  obtain ⟨a3, μ5, t5, a30, a31, ch5⟩ := take_ok k (k := 4) ch4.1 (by decide) (by decide)
  have chA := ((((ch1.trans ch2).trans ch3).trans ch4).trans ch5)
  refine ⟨⟨a2, a3, n, z⟩, μ5, ?_, ?_, j3, rfl, chA⟩
  · refine (runFn_rt (by rfl) (d := enD ⟨a2, a3, n, z⟩) (μ' := μ5) ?_).trans (chA.fin (by simp [enD, clD, clL]))
    unfold b__law_entry
    rw [s_cons, s_set, a_join, a_con, kJ_, c1, kJb_, j1]
    have hz : 2 ≤ sizeLine := by rw [sizeLine_eq]; omega
    have hz4 : 4 ≤ sizeLine := by rw [sizeLine_eq]; omega
    simp [start, i__law_entry, t3, t4, t5, flD, hz, hz4, b2, eqD, intD, hq', tupD, enD]
  · simp only [vE, Bool.and_eq_true, decide_eq_true_eq]
    refine ⟨⟨a20, by omega⟩, ⟨a30, by omega⟩, ⟨h0, by omega⟩, ?_⟩
    rw [j2, g2]
    omega
end G
set_option Elab.async false
set_option linter.all false
set_option maxRecDepth 100000
set_option maxHeartbeats 4000000
/-! M3: what is a log, to the program and to the law. -/
namespace G
open PySem L2
theorem pure_rt {N : List Str} {np : Nat} {body : MS} {ds : List D} {μ : Mu} {d : D} (hn : ds.length = np) (hc : clD 0 d = true) (h : body (start N ds) μ = some (.rt d, μ)) : runFn N np false body ds μ = some (d, μ) :=
  (runFn_rt hn h).trans (finish_same (clD_le (Nat.zero_le _) _ hc))
theorem whole_ok (k : Nat) (μ : Mu) (i lo hi : Int) : callF pg (k + 1) "is_whole" [.int i, .int lo, .int hi] μ = some (.bl (decide (lo ≤ i) && decide (i ≤ hi)), μ) := by
  rw [c_is_whole]
  refine pure_rt (by rfl) (by simp [clD]) ?_
  by_cases h : lo ≤ i
  · simp [b_is_whole, start, i_is_whole, isiD, tyN, isiB, ltI, h]
  · simp [b_is_whole, start, i_is_whole, isiD, tyN, isiB, ltI, h]
theorem blOf_all (μ : Mu) (f : D → Bool) (items : List D) : allD [.fl (items.map fun d => .bl (f d))] μ = some (.bl (items.all f), μ) := by
  show ((mapO blOf (items.map fun d => D.bl (f d))).bind fun ns => some (D.bl (ns.all id), μ)) = _
  rw [mapO_map (f := blOf) (g := fun d => D.bl (f d)) (h := f) (fun x => rfl), Option.bind_some, List.all_map]
  rfl
/-- the texts that come -/
def GT (t : Str) : Prop := okT t = true ∧ t.length ≤ 100
theorem sz {n : Nat} (h : n ≤ 1000) : n ≤ sizeLine := by rw [sizeLine_eq]; omega
theorem signs_mem {t : Str} (ht : okT t = true) {d : D} (h : d ∈ signs t) : ∃ c : Nat, d = .str ⟨#[c]⟩ ∧ 32 ≤ c ∧ c ≤ 126 ∧ c ≠ 37 := by
  obtain ⟨c, hc, rfl⟩ := List.mem_map.mp h
  have := List.all_eq_true.mp ht c hc
  simp only [decide_eq_true_eq] at this
  exact ⟨c, rfl, this⟩
theorem written_ok (k : Nat) (μ : Mu) {t : Str} (ht : GT t) : callF pg (k + 1) "is_written" [.str t, .int 1, .int 20] μ = some (.bl (decide (1 ≤ t.length ∧ t.length ≤ 20)), μ) := by
  rw [c_is_written]
  refine pure_rt (by rfl) (by simp [clD]) ?_
  have hl : t.length ≤ sizeLine := sz (by have := ht.2; omega)
  have hc : ∀ ρ : Fr, start i_is_written.N [.str t, .int 1, .int 20] = ρ → eComp (iVal (eVar 0)) (gName 3) [3] (eCon (.bl true)) (eAnd (eChain cLe cLe (eCon (.int 32)) (eL ordD (lAll [(eVar 3)])) (eCon (.int 126))) (e2 cNe (eL ordD (lAll [(eVar 3)])) (eCon (.int 37)))) false ρ μ
      = some (.fl ((signs t).map fun d => .bl ((fun _ => true) d)), μ) := by
    rintro ρ rfl
    refine comp_pure (F := fun d => (wipeF (start i_is_written.N [.str t, .int 1, .int 20]) [3]).set 3 (some d)) (μ := μ) ?_ (fun d => rfl) (fun d hd μ => ?_) (fun d hd => by simp [clD]) ?_
    · simp [start, i_is_written, srcD]
    · obtain ⟨c, rfl, h1, h2, h3⟩ := signs_mem ht.1 hd
      have o : ∀ μ : Mu, ordD [.str ⟨#[c]⟩] μ = some (.int (c : Int), μ) := fun μ => rfl
      have h1' : (32 : Int) ≤ c := by omega
      have h2' : (c : Int) ≤ 126 := by omega
      have h3' : ¬ (c : Int) = 37 := by omega
      simp [start, i_is_written, wipeF, o, ltI, h1', h2', b2, eqD, h3']
    · rw [signs, List.length_map, Array.length_toList]
      exact hl
  have hc := hc _ rfl
  by_cases h : 1 ≤ t.length
  · by_cases h2 : t.length ≤ 20
    · have g1 : (1 : Int) ≤ (t.length : Nat) := by omega
      have g2 : ((t.length : Nat) : Int) ≤ 20 := by omega
      unfold b_is_written
      rw [s_cons, s_if]
      have hif : (eOr (eNot (e1 (isiD "str") (eVar 0))) (eNot (eChain cLe cLe (eVar 1) (eL lenD (lAll [(eVar 0)])) (eVar 2)))) (start i_is_written.N [.str t, .int 1, .int 20]) μ = some (.bl false, μ) := by
        simp [start, i_is_written, isiD, tyN, isiB, lenD, hl, ltI, g1, g2]
      rw [hif, kSif_f, s_nil, kS_n, s_cons, s_ret, a_eL, a_cons, hc, kC_, a_nil, kCb_, kL_, blOf_all]
      simp [h, h2]
    · have g2 : ¬ ((t.length : Nat) : Int) ≤ 20 := by omega
      have g1 : (1 : Int) ≤ (t.length : Nat) := by omega
      simp [b_is_written, start, i_is_written, isiD, tyN, isiB, lenD, hl, ltI, g1, g2, h2]
  · have g1 : ¬ (1 : Int) ≤ (t.length : Nat) := by omega
    simp [b_is_written, start, i_is_written, isiD, tyN, isiB, lenD, hl, ltI, g1, h]
def vW : Wi → Bool
  | .ok e => vE e
  | _ => false
def GW : Wi → Prop
  | .ok e => GT e.t
  | .bl e => GT e.t
  | _ => True
theorem ix_tup {ds : List D} {i : Nat} {d : D} (h : ds[i]? = some d) (μ : Mu) : ixD (.tup ds) (.int i) μ = some (d, μ) := by
  have hi := (List.getElem?_eq_some_iff.mp h).1
  show (L2.atI ds (i : Int)).map _ = _
  unfold L2.atI L2.ixN
  rw [if_pos (by omega), if_pos (by omega)]
  simp [h]
theorem ix_fl {ds : List D} {i : Nat} {d : D} (h : ds[i]? = some d) (μ : Mu) : ixD (.fl ds) (.int i) μ = some (d, μ) := by
  have hi := (List.getElem?_eq_some_iff.mp h).1
  show (L2.atI ds (i : Int)).map _ = _
  unfold L2.atI L2.ixN
  rw [if_pos (by omega), if_pos (by omega)]
  simp [h]
theorem en0 (e : En) (μ : Mu) : ixD (enD e) (.int 0) μ = some (.int e.s, μ) := ix_tup (i := 0) rfl μ
theorem en1 (e : En) (μ : Mu) : ixD (enD e) (.int 1) μ = some (.int e.p, μ) := ix_tup (i := 1) rfl μ
theorem en2 (e : En) (μ : Mu) : ixD (enD e) (.int 2) μ = some (.int e.n, μ) := ix_tup (i := 2) rfl μ
theorem en3 (e : En) (μ : Mu) : ixD (enD e) (.int 3) μ = some (.str e.t, μ) := ix_tup (i := 3) rfl μ
theorem len_en (e : En) (μ : Mu) : lenD [enD e] μ = some (.int 4, μ) := rfl
theorem isi_en (e : En) (μ : Mu) : isiD "tuple" (enD e) μ = some (.bl true, μ) := rfl
theorem entry_is (k : Nat) (μ : Mu) {x : Wi} (hx : GW x) : callF pg (k + 2) "is_entry" [wiD x] μ = some (.bl (vW x), μ) := by
  rw [c_is_entry]
  refine pure_rt (by rfl) (by simp [clD]) ?_
  cases x with
  | ok e =>
    have hx : GT e.t := hx
    show b_is_entry (callF pg (k + 1)) (start i_is_entry.N [enD e]) μ = some (.rt (.bl (vE e)), μ)
    have w := whole_ok k μ
    have wr := written_ok k μ hx
    by_cases h1 : 0 ≤ e.p ∧ e.p ≤ 3
    · by_cases h2 : 0 ≤ e.s ∧ e.s ≤ 999
      · by_cases h3 : 0 ≤ e.n ∧ e.n ≤ 999
        · simp [b_is_entry, start, i_is_entry, isi_en, len_en, b2, eqD, en0, en1, en2, en3, w, wr, h1, h2, h3, vE]
        · have h3' : (decide (0 ≤ e.n) && decide (e.n ≤ 999)) = false := by
            rw [Bool.and_eq_false_iff, decide_eq_false_iff_not, decide_eq_false_iff_not]
            omega
          simp [b_is_entry, start, i_is_entry, isi_en, len_en, b2, eqD, en0, en1, en2, en3, w, wr, h1, h2, h3, h3', vE]
      · have h2' : (decide (0 ≤ e.s) && decide (e.s ≤ 999)) = false := by
          rw [Bool.and_eq_false_iff, decide_eq_false_iff_not, decide_eq_false_iff_not]
          omega
        simp [b_is_entry, start, i_is_entry, isi_en, len_en, b2, eqD, en0, en1, en2, en3, w, wr, h1, h2, h2', vE]
    · have h1' : (decide (0 ≤ e.p) && decide (e.p ≤ 3)) = false := by
        rw [Bool.and_eq_false_iff, decide_eq_false_iff_not, decide_eq_false_iff_not]
        omega
      simp [b_is_entry, start, i_is_entry, isi_en, len_en, b2, eqD, en0, en1, en2, en3, w, wr, h1, h1', vE]
  | b0 => simp [b_is_entry, start, i_is_entry, wiD, isiD, tyN, isiB, lenD, itemsOf, b2, eqD, vW]
  | b3 => simp [b_is_entry, start, i_is_entry, wiD, isiD, tyN, isiB, lenD, itemsOf, b2, eqD, vW]
  | bn => simp [b_is_entry, start, i_is_entry, wiD, isiD, tyN, isiB, vW]
  | bl e => simp [b_is_entry, start, i_is_entry, wiD, isiD, tyN, isiB, vW]
  | bs => simp [b_is_entry, start, i_is_entry, wiD, isiD, tyN, isiB, vW]
end G
set_option Elab.async false
set_option linter.all false
set_option maxRecDepth 100000
set_option maxHeartbeats 4000000
/-! M4: logs. -/
namespace G
open PySem L2
/-- rising, as both ask it -/
def riseB (es : List En) : Bool := (List.range (es.length - 1)).all fun i => match es[i]?, es[i + 1]? with
  | some a, some b => ltE a b
  | _, _ => true
theorem riseB_iff {es : List En} : riseB es = true ↔ Rise es := by
  unfold riseB Rise
  rw [List.all_eq_true, List.pairwise_iff_getElem]
  constructor
  · intro h
    have step : ∀ i (hi : i + 1 < es.length), ltE es[i] es[i + 1] = true := fun i hi => by
      have := h i (List.mem_range.mpr (by omega))
      rw [List.getElem?_eq_getElem (show i < es.length by omega), List.getElem?_eq_getElem hi] at this
      exact this
    intro i j hi hj hij
    induction j with
    | zero => omega
    | succ j ih =>
      by_cases e : i = j
      · subst e
        exact step i hj
      · exact ltE_trans (ih (by omega) (by omega)) (step j hj)
  · intro h i hi
    have hi := List.mem_range.mp hi
    rw [List.getElem?_eq_getElem (show i < es.length by omega), List.getElem?_eq_getElem (show i + 1 < es.length by omega)]
    exact h i (i + 1) (by omega) (by omega) (by omega)
theorem rises_comp {ρ : Fr} {μ : Mu} {es : List En} {v : Nat} {src : MI} (ho : ∀ e ∈ es, okT e.t = true) (hl : es.length ≤ 1000) (hs : src ρ μ = some (([], rngL 0 (es.length - 1)), μ))
    (h0 : ∀ d μ, eVar 0 ((wipeF ρ [v]).set v (some d)) μ = some (lgD es, μ)) (h1 : ∀ d μ, eVar v ((wipeF ρ [v]).set v (some d)) μ = some (d, μ)) :
    eL allD (lAll [eComp src (gName v) [v] (eCon (.bl true)) (e2 cLt (e2 ixD (eVar 0) (eVar v)) (e2 ixD (eVar 0) (e2 addD (eVar v) (eCon (.int 1))))) false]) ρ μ = some (.bl (riseB es), μ) := by
  have key : ∀ d ∈ rngL 0 (es.length - 1), ∃ i : Nat, d = .int i ∧ i + 1 < es.length := fun d hd => by
    obtain ⟨i, hi, rfl⟩ := List.mem_map.mp hd
    have := List.mem_range.mp hi
    exact ⟨i, by simp, by omega⟩
  have val : D → Bool := fun _ => true
  obtain ⟨g, hg⟩ : ∃ g : D → Bool, ∀ i : Nat, g (.int i) = (match es[i]?, es[i + 1]? with
    | some a, some b => ltE a b
    | _, _ => true) := ⟨fun d => match d with
    | .int j => (match es[j.toNat]?, es[j.toNat + 1]? with
      | some a, some b => ltE a b
      | _, _ => true)
    | _ => true, fun i => by simp⟩
  have hc := comp_pure (F := fun d => (wipeF ρ [v]).set v (some d)) (f := gName v) (vs := [v]) (g := fun d => .bl (g d)) (elt := e2 cLt (e2 ixD (eVar 0) (eVar v)) (e2 ixD (eVar 0) (e2 addD (eVar v) (eCon (.int 1))))) hs (fun d => rfl) (fun d hd μ => by
    obtain ⟨i, rfl, hi⟩ := key d hd
    have i1 : es[i]? = some (es[i]'(by omega)) := List.getElem?_eq_getElem (by omega)
    have i2 : es[i + 1]? = some es[i + 1] := List.getElem?_eq_getElem hi
    have x1 : ∀ μ, ixD (lgD es) (.int (i : Int)) μ = some (enD (es[i]'(by omega)), μ) := fun μ => ix_fl (by rw [List.getElem?_map, i1]; rfl) μ
    have x2 : ∀ μ, ixD (lgD es) (.int ((i : Int) + 1)) μ = some (enD es[i + 1], μ) := fun μ => ix_fl (i := i + 1) (by rw [List.getElem?_map, i2]; rfl) μ
    have lt := ltO_en μ (ho _ (List.getElem_mem (show i < es.length by omega))) (ho _ (List.getElem_mem hi))
    simp only [a_e2, h0, h1, k2_, k2b_, a_con, addD, x1, x2, lt, b2, hg, i1, i2]
    rfl) (fun d hd => by simp [clD]) (by simp only [rngL, List.length_map, List.length_range]; exact sz (by omega))
  rw [a_eL, a_cons, hc, kC_, a_nil, kCb_, kL_, blOf_all]
  congr 3
  unfold riseB rngL
  rw [List.all_map]
  congr 1
  funext i
  simp only [Function.comp_apply]
  rw [show (0 : Int) + (i : Int) = (i : Int) by omega, hg]
theorem len_lg (es : List En) (μ : Mu) : lenD [lgD es] μ = some (.int es.length, μ) := by
  show some (D.int ((es.map enD).length : Nat), μ) = _
  rw [List.length_map]
theorem rng_len (es : List En) (hl : es.length ≤ 1000) {ρ : Fr} {μ : Mu} {a : ME} (ha : a ρ μ = some (lgD es, μ)) : iRng (lAll [e2 subD (eL lenD (lAll [a])) (eCon (.int 1))]) ρ μ = some (([], rngL 0 (es.length - 1)), μ) := by
  unfold iRng
  have hR : okR ((es.length : Int) - 1) = true := by simp only [okR, decide_eq_true_eq]; omega
  simp [ha, len_lg, subD, hR]
theorem rises_ok (k : Nat) (μ : Mu) {es : List En} (ho : ∀ e ∈ es, okT e.t = true) (hl : es.length ≤ 1000) : callF pg (k + 1) "rises" [lgD es] μ = some (.bl (riseB es), μ) := by
  rw [c_rises]
  refine pure_rt (by rfl) (by simp [clD]) ?_
  unfold b_rises
  rw [s_cons, s_ret, rises_comp ho hl (rng_len es hl rfl) (fun d μ => rfl) (fun d μ => rfl)]
  rfl
/-- what may be thought a log -/
inductive Lg where
  | fl (ws : List Wi) | tp (ws : List Wi) | non
def lgX : Lg → D
  | .fl ws => .fl (ws.map wiD)
  | .tp ws => .tup (ws.map wiD)
  | .non => .non
def asE : List Wi → Option (List En)
  | [] => some []
  | .ok e :: r => (asE r).map fun s => e :: s
  | _ :: _ => none
def isLogB : Lg → Bool
  | .fl ws => ws.all vW && (match asE ws with
    | some es => riseB es
    | none => false)
  | _ => false
def GL : Lg → Prop
  | .fl ws => (∀ x ∈ ws, GW x) ∧ ws.length ≤ 60
  | .tp ws => (∀ x ∈ ws, GW x) ∧ ws.length ≤ 60
  | .non => True
theorem asE_of : ∀ {ws : List Wi}, ws.all vW = true → ∃ es, asE ws = some es ∧ ws = es.map Wi.ok ∧ ∀ e ∈ es, vE e = true
  | [], _ => ⟨[], rfl, rfl, fun _ z => (by cases z)⟩
  | .ok e :: r, h => by
    simp only [List.all_cons, Bool.and_eq_true] at h
    obtain ⟨es, h1, h2, h3⟩ := asE_of h.2
    refine ⟨e :: es, by simp [asE, h1], by rw [h2]; rfl, fun x hx => ?_⟩
    rcases List.mem_cons.mp hx with rfl | hx
    · exact h.1
    · exact h3 x hx
  | .b0 :: _, h => by simp [vW] at h
  | .b3 :: _, h => by simp [vW] at h
  | .bn :: _, h => by simp [vW] at h
  | .bl _ :: _, h => by simp [vW] at h
  | .bs :: _, h => by simp [vW] at h
theorem asE_ok : ∀ es : List En, asE (es.map Wi.ok) = some es
  | [] => rfl
  | e :: es => by simp [asE, asE_ok es]
theorem lg_ok (es : List En) : lgX (.fl (es.map Wi.ok)) = lgD es := by
  show D.fl ((es.map Wi.ok).map wiD) = D.fl (es.map enD)
  rw [List.map_map]
  rfl
theorem is_log_ok (k : Nat) (μ : Mu) {x : Lg} (hx : GL x) : callF pg (k + 3) "is_log" [lgX x] μ = some (.bl (isLogB x), μ) := by
  rw [c_is_log]
  refine pure_rt (by rfl) (by simp [clD]) ?_
  cases x with
  | tp ws => simp [b_is_log, start, i_is_log, lgX, isiD, tyN, isiB, isLogB]
  | non => simp [b_is_log, start, i_is_log, lgX, isiD, tyN, isiB, isLogB]
  | fl ws =>
    have hx : (∀ x ∈ ws, GW x) ∧ ws.length ≤ 60 := hx
    obtain ⟨g, hg⟩ : ∃ g : D → Bool, ∀ x : Wi, GW x → g (wiD x) = vW x := ⟨fun d => match callF pg (k + 2) "is_entry" [d] [] with
      | some (.bl b, _) => b
      | _ => false, fun x h => by simp [entry_is k [] h]⟩
    have hc := comp_pure (ρ := start i_is_log.N [lgX (.fl ws)]) (μ0 := μ) (μ := μ) (src := iVal (eVar 0)) (F := fun d => (wipeF (start i_is_log.N [lgX (.fl ws)]) [1]).set 1 (some d)) (f := gName 1) (vs := [1]) (items := ws.map wiD) (g := fun d => .bl (g d)) (elt := eL (callF pg (k + 2) "is_entry") (lAll [(eVar 1)]))
      (by simp [start, i_is_log, lgX, srcD]) (fun d => rfl) (fun d hd μ => by
        obtain ⟨x, hxm, rfl⟩ := List.mem_map.mp hd
        have h1 : (eL (callF pg (k + 2) "is_entry") (lAll [(eVar 1)])) ((wipeF (start i_is_log.N [lgX (.fl ws)]) [1]).set 1 (some (wiD x))) μ = callF pg (k + 2) "is_entry" [wiD x] μ := rfl
        rw [h1, entry_is k μ (hx.1 x hxm), hg x (hx.1 x hxm)]) (fun d hd => by simp [clD]) (by rw [List.length_map]; exact sz (by omega))
    have hall : (ws.map wiD).all g = ws.all vW := by
      rw [List.all_map]
      have : ∀ l : List Wi, (∀ x ∈ l, GW x) → l.all (g ∘ wiD) = l.all vW := by
        intro l
        induction l with
        | nil => intro _; rfl
        | cons x l ih =>
          intro h
          rw [List.all_cons, List.all_cons, ih fun y hy => h y (List.mem_cons_of_mem _ hy), Function.comp_apply, hg x (h x (List.mem_cons_self ..))]
      exact this ws hx.1
    unfold b_is_log
    have hty : (e1 (isiD "list") (eVar 0)) (start i_is_log.N [lgX (.fl ws)]) μ = some (.bl true, μ) := rfl
    rw [s_cons, s_ret, a_and, hty, kAnd_t, a_and, a_eL, a_cons, hc, kC_, a_nil, kCb_, kL_, blOf_all, hall]
    cases hv : ws.all vW with
    | false =>
      rw [kAnd_f, kRet_, kS_r]
      simp [isLogB, hv]
    | true =>
      obtain ⟨es, h1, h2, h3⟩ := asE_of hv
      subst h2
      rw [kAnd_t]
      have hr := rises_ok (k + 1) μ (es := es) (fun e he => by
        have : GT e.t := hx.1 (.ok e) (List.mem_map_of_mem he)
        exact this.1) (by have := hx.2; rw [List.length_map] at this; omega)
      have h4 : (eL (callF pg (k + 2) "rises") (lAll [(eVar 0)])) (start i_is_log.N [lgX (.fl (es.map Wi.ok))]) μ = callF pg (k + 2) "rises" [lgX (.fl (es.map Wi.ok))] μ := rfl
      rw [h4, lg_ok, hr, kRet_, kS_r]
      simp [isLogB, hv, h1]
end G
set_option Elab.async false
set_option linter.all false
set_option maxRecDepth 100000
set_option maxHeartbeats 4000000
/-! M5: what the law itself takes for a log. -/
namespace G
open PySem L2
def lawTurn : MS := sAll [sIf (eOr (eNot (e1 (isiD "tuple") (eVar 1))) (eOr (e2 cNe (eL lenD (lAll [(eVar 1)])) (eCon (.int 4))) (eOr (eNot (e1 (isiD "str") (e2 ixD (eVar 1) (eCon (.int 3))))) (eNot (eChain cLe cLe (eCon (.int 1)) (eL lenD (lAll [(e2 ixD (eVar 1) (eCon (.int 3)))])) (eCon (.int 20))))))) (sAll [sRet (eCon (.bl false))]) (sAll []),
    sIf (eNot (eL allD (lAll [(eComp (iVal (eSl (eVar 1) oNone (oSome (eCon (.int 3))))) (gName 3) [3] (eCon (.bl true)) (eAnd (e1 (isiD "int") (eVar 3)) (eAnd (eNot (e1 (isiD "bool") (eVar 3))) (eChain cLe cLe (eCon (.int 0)) (eVar 3) (eCon (.int 999))))) false)]))) (sAll [sRet (eCon (.bl false))]) (sAll []),
    sIf (e2 cGt (e2 ixD (eVar 1) (eCon (.int 1))) (eCon (.int 3))) (sAll [sRet (eCon (.bl false))]) (sAll [])]
def in999 (d : D) : Bool := match d with
  | .int i => decide (0 ≤ i) && decide (i ≤ 999)
  | _ => false
theorem turn_ok (T : D) (x : Wi) (hx : GW x) (μ : Mu) : lawTurn [some T, some (wiD x), none, none] μ = if vW x = true then some (.nx [some T, some (wiD x), none, none], μ) else some (.rt (.bl false), μ) := by
  cases x with
  | ok e =>
    have hx : GT e.t := hx
    show lawTurn [some T, some (enD e), none, none] μ = if vE e = true then some (.nx [some T, some (enD e), none, none], μ) else some (.rt (.bl false), μ)
    have hl : e.t.length ≤ sizeLine := sz (by have := hx.2; omega)
    have lt : ∀ μ : Mu, lenD [.str e.t] μ = some (.int (e.t.length : Nat), μ) := fun μ => by
      show (if e.t.length ≤ sizeLine then some (D.int (e.t.length : Nat), μ) else none) = _
      rw [if_pos hl]
    have hsl : ∀ μ : Mu, slD none (some 3) (enD e) μ = some (.tup [.int e.s, .int e.p, .int e.n], μ) := fun μ => rfl
    have hc : eComp (iVal (eSl (eVar 1) oNone (oSome (eCon (.int 3))))) (gName 3) [3] (eCon (.bl true)) (eAnd (e1 (isiD "int") (eVar 3)) (eAnd (eNot (e1 (isiD "bool") (eVar 3))) (eChain cLe cLe (eCon (.int 0)) (eVar 3) (eCon (.int 999))))) false [some T, some (enD e), none, none] μ
        = some (.fl ([D.int e.s, .int e.p, .int e.n].map fun d => .bl (in999 d)), μ) := by
      refine comp_pure (F := fun d => (wipeF [some T, some (enD e), none, none] [3]).set 3 (some d)) (μ := μ) ?_ (fun d => rfl) (fun d hd μ => ?_) (fun d hd => by simp [clD]) ?_
      · simp [hsl, srcD]
      · have : ∃ i : Int, d = .int i := by
          simp only [List.mem_cons, List.not_mem_nil, or_false] at hd
          rcases hd with rfl | rfl | rfl <;> exact ⟨_, rfl⟩
        obtain ⟨i, rfl⟩ := this
        by_cases h0 : 0 ≤ i
        · simp [wipeF, isiD, tyN, isiB, ltI, in999, h0]
        · simp [wipeF, isiD, tyN, isiB, ltI, in999, h0]
      · exact sz (by simp)
    unfold lawTurn
    by_cases hlen : 1 ≤ e.t.length ∧ e.t.length ≤ 20
    · have g1 : (1 : Int) ≤ (e.t.length : Nat) := by omega
      have g2 : ((e.t.length : Nat) : Int) ≤ 20 := by omega
      have f1 : (eOr (eNot (e1 (isiD "tuple") (eVar 1))) (eOr (e2 cNe (eL lenD (lAll [(eVar 1)])) (eCon (.int 4))) (eOr (eNot (e1 (isiD "str") (e2 ixD (eVar 1) (eCon (.int 3))))) (eNot (eChain cLe cLe (eCon (.int 1)) (eL lenD (lAll [(e2 ixD (eVar 1) (eCon (.int 3)))])) (eCon (.int 20))))))) [some T, some (enD e), none, none] μ = some (.bl false, μ) := by
        have st : ∀ μ : Mu, isiD "str" (.str e.t) μ = some (.bl true, μ) := fun μ => rfl
        simp [isi_en, len_en, b2, eqD, en3, st, lt, ltI, g1, g2]
      rw [s_cons, s_if, f1, kSif_f, s_nil, kS_n, s_cons, s_if, a_not, a_eL, a_cons, hc, kC_, a_nil, kCb_, kL_, blOf_all]
      by_cases hb : ([D.int e.s, .int e.p, .int e.n].all in999) = true
      · rw [hb]
        have hb2 := hb
        simp only [List.all_cons, List.all_nil, in999, Bool.and_eq_true, decide_eq_true_eq, and_true] at hb2
        obtain ⟨⟨b1, b2'⟩, ⟨b3, b4⟩, b5, b6⟩ := hb2
        by_cases hp : e.p ≤ 3
        · have hp' : ¬ (3 : Int) < e.p := by omega
          have hv : vE e = true := by simp only [vE, Bool.and_eq_true, decide_eq_true_eq]; omega
          simp [hv, en1, ltI, hp']
        · have hp' : (3 : Int) < e.p := by omega
          have hv : vE e = false := by simp [vE, hp]
          simp [hv, en1, ltI, hp']
      · have hv : vE e = false := by
          rw [← Bool.not_eq_true]
          intro hv
          refine hb ?_
          simp only [vE, Bool.and_eq_true, decide_eq_true_eq] at hv
          simp only [List.all_cons, List.all_nil, in999, Bool.and_eq_true, decide_eq_true_eq, and_true]
          omega
        rw [Bool.not_eq_true] at hb
        rw [hb, hv]
        simp
    · have hv : vE e = false := by
        rw [← Bool.not_eq_true]
        intro hv
        simp only [vE, Bool.and_eq_true, decide_eq_true_eq] at hv
        exact hlen hv.2.2.2
      have st : ∀ μ : Mu, isiD "str" (.str e.t) μ = some (.bl true, μ) := fun μ => rfl
      rw [hv]
      by_cases g1 : (1 : Int) ≤ (e.t.length : Nat)
      · have g2 : ¬ ((e.t.length : Nat) : Int) ≤ 20 := by omega
        simp [isi_en, len_en, b2, eqD, en3, st, lt, ltI, g1, g2]
      · simp [isi_en, len_en, b2, eqD, en3, st, lt, ltI, g1]
  | b0 => simp [lawTurn, wiD, isiD, tyN, isiB, lenD, itemsOf, b2, eqD, vW]
  | b3 => simp [lawTurn, wiD, isiD, tyN, isiB, lenD, itemsOf, b2, eqD, vW]
  | bn => simp [lawTurn, wiD, isiD, tyN, isiB, vW]
  | bl e => simp [lawTurn, wiD, isiD, tyN, isiB, vW]
  | bs => simp [lawTurn, wiD, isiD, tyN, isiB, vW]
theorem law_for (T : D) (μ : Mu) : ∀ (ws : List Wi) (w : Option D), (∀ x ∈ ws, GW x) → (∃ w', forL [] (gName 1) lawTurn (ws.map wiD) [some T, w, none, none] μ = if ws.all vW = true then some (.nx [some T, w', none, none], μ) else some (.rt (.bl false), μ))
  | [], w, _ => ⟨w, by simp [forL, okSrc]⟩
  | x :: ws, w, h => by
    obtain ⟨w', e⟩ := law_for T μ ws (some (wiD x)) fun y hy => h y (List.mem_cons_of_mem _ hy)
    refine ⟨w', ?_⟩
    rw [List.map_cons, forL, if_pos (by rfl : okSrc μ [] = true)]
    have hg : gName 1 (wiD x) [some T, w, none, none] = some [some T, some (wiD x), none, none] := rfl
    rw [hg, Option.bind_some, turn_ok T x (h x (List.mem_cons_self ..)) μ]
    cases hv : vW x with
    | true =>
      rw [if_pos rfl, Option.bind_some]
      simp only
      rw [e, List.all_cons, hv, Bool.true_and]
    | false =>
      rw [if_neg Bool.false_ne_true, Option.bind_some]
      simp [hv]
theorem law_log_ok (k : Nat) (μ : Mu) {x : Lg} (hx : GL x) : callF pg (k + 1) "_law_is_log" [lgX x] μ = some (.bl (isLogB x), μ) := by
  rw [c__law_is_log]
  refine pure_rt (by rfl) (by simp [clD]) ?_
  cases x with
  | tp ws => simp [b__law_is_log, start, i__law_is_log, lgX, isiD, tyN, isiB, isLogB]
  | non => simp [b__law_is_log, start, i__law_is_log, lgX, isiD, tyN, isiB, isLogB]
  | fl ws =>
    have hx : (∀ x ∈ ws, GW x) ∧ ws.length ≤ 60 := hx
    obtain ⟨w', hf⟩ := law_for (lgX (.fl ws)) μ ws none hx.1
    have hst : start i__law_is_log.N [lgX (.fl ws)] = [some (lgX (.fl ws)), none, none, none] := rfl
    rw [hst]
    have hty : (eNot (e1 (isiD "list") (eVar 0))) [some (lgX (.fl ws)), none, none, none] μ = some (.bl false, μ) := rfl
    have hsrc : iVal (eVar 0) [some (lgX (.fl ws)), none, none, none] μ = some (([], ws.map wiD), μ) := rfl
    unfold b__law_is_log
    rw [s_cons, s_if, hty, kSif_f, s_nil, kS_n, s_cons, s_for, hsrc, kFor_]
    change kS _ (forL [] (gName 1) lawTurn (ws.map wiD) [some (lgX (.fl ws)), none, none, none] μ) = _
    rw [hf]
    cases hv : ws.all vW with
    | false =>
      rw [if_neg Bool.false_ne_true, kS_r]
      simp [isLogB, hv]
    | true =>
      obtain ⟨es, h1, h2, h3⟩ := asE_of hv
      subst h2
      have hl : es.length ≤ 1000 := by have := hx.2; rw [List.length_map] at this; omega
      have ho : ∀ e ∈ es, okT e.t = true := fun e he => by
        have : GT e.t := hx.1 (.ok e) (List.mem_map_of_mem he)
        exact this.1
      rw [if_pos rfl, kS_n, s_cons, s_ret, lg_ok, rises_comp (ρ := [some (lgD es), w', none, none]) ho hl (rng_len es hl rfl) (fun d μ => rfl) (fun d μ => rfl), kRet_, kS_r]
      simp [isLogB, hv, h1]
end G
set_option Elab.async false
set_option linter.all false
set_option maxRecDepth 100000
set_option maxHeartbeats 4000000
/-! M6: the claim, as the program takes it, and as the law reckons it. -/
namespace G
open PySem L2
theorem enD_inj {a b : En} (h : enD a = enD b) : a = b := by
  obtain ⟨s, p, n, t⟩ := a
  obtain ⟨s', p', n', t'⟩ := b
  simp only [enD, D.tup.injEq, List.cons.injEq, D.int.injEq, D.str.injEq, and_true] at h
  obtain ⟨rfl, rfl, rfl, rfl⟩ := h
  rfl
theorem mem_enD {e : En} {es : List En} : enD e ∈ es.map enD ↔ e ∈ es := by
  constructor
  · intro h
    obtain ⟨x, hx, e2⟩ := List.mem_map.mp h
    rwa [← enD_inj e2]
  · exact List.mem_map_of_mem
def pnD (e : En) : D := .tup [.int e.p, .int e.n]
def pnP (e : En) : PyData := .tuple [.int e.p, .int e.n]
theorem sl_pn (e : En) (μ : Mu) : slD (some 1) (some 3) (enD e) μ = some (pnD e, μ) := rfl
theorem dat_pn (μ : Mu) (n : Nat) (e : En) : dat μ (n + 1) (pnD e) = some (pnP e) := by cases n <;> rfl
theorem lay_pn (e : En) : (pnP e).canLay0 = true := by simp [pnP, PyData.canLay0, PyData.canLayAll0]
theorem dep_pn (e : En) : (pnP e).depth = 1 := by simp [pnP, PyData.depth, PyData.depthAll]
theorem eqv_pn (a b : En) : PyData.eqv (pnP a) (pnP b) = decide (pnD a = pnD b) := by
  simp only [pnP, pnD, PyData.eqv, PyData.eqvAll, Bool.and_true, D.tup.injEq, List.cons.injEq, D.int.injEq, and_true]
  by_cases h1 : a.p = b.p <;> by_cases h2 : a.n = b.n <;> simp [h1, h2]
theorem inD_pn (μ : Mu) (a : En) (es : List En) : inD μ (pnD a) (.fl (es.map pnD)) = some (decide (pnD a ∈ es.map pnD)) := by
  have e : inD μ (pnD a) (.fl (es.map pnD)) = (dat μ deep (pnD a)).bind fun p => (mapO (dat μ deep) (es.map pnD)).bind fun qs => if SeqAt.shaped p && SeqAt.shaped (.list qs) then some (qs.any fun q => q.eqv p) else none := rfl
  rw [e, show dat μ deep (pnD a) = some (pnP a) from dat_pn μ 39 a, mapO_map (f := dat μ deep) (g := pnD) (h := pnP) (fun x => dat_pn μ 39 x)]
  have sh : SeqAt.shaped (.list (es.map pnP)) = true := shaped_list (k := 1) (fun p hp => by
    obtain ⟨x, hx, rfl⟩ := List.mem_map.mp hp
    exact lay_pn x) (fun p hp => by
    obtain ⟨x, hx, rfl⟩ := List.mem_map.mp hp
    rw [dep_pn]
    exact Nat.le_refl _) (by omega)
  have sh1 : SeqAt.shaped (pnP a) = true := by simp [SeqAt.shaped, lay_pn, dep_pn]
  simp only [Option.bind_some, sh1, sh, Bool.and_self, if_true]
  congr 1
  rw [List.any_map]
  by_cases h : pnD a ∈ es.map pnD
  · rw [decide_eq_true h, List.any_eq_true]
    obtain ⟨x, hx, e2⟩ := List.mem_map.mp h
    exact ⟨x, hx, by simp [eqv_pn, e2]⟩
  · rw [decide_eq_false h, Bool.eq_false_iff]
    intro hh
    obtain ⟨x, hx, e2⟩ := List.any_eq_true.mp hh
    simp only [Function.comp_apply, eqv_pn, decide_eq_true_eq] at e2
    exact h (List.mem_map.mpr ⟨x, hx, e2⟩)
theorem ded_len_le : ∀ l : List D, (dedL l).length ≤ l.length
  | [] => Nat.le_refl _
  | d :: l => by
    unfold dedL
    have := ded_len_le l
    split
    · rw [List.length_cons]; omega
    · rw [List.length_cons, List.length_cons]; omega
theorem ded_len : ∀ l : List D, (dedL l).length = l.length ↔ l.Nodup
  | [] => by simp [dedL]
  | d :: l => by
    unfold dedL
    have h1 := ded_len_le l
    rw [List.nodup_cons, ← ded_len l, ← mem_ded (l := l)]
    split
    · rename_i h
      rw [List.length_cons]
      constructor
      · intro e; omega
      · intro e; exact absurd h e.1
    · rename_i h
      rw [List.length_cons, List.length_cons]
      constructor
      · intro e; exact ⟨h, by omega⟩
      · intro e; omega
theorem keys_pn (e : En) : keysOf (pnD e) = some [.inl e.p, .inl e.n] := rfl
theorem keys_en (e : En) : keysOf (enD e) = some [.inl e.s, .inl e.p, .inl e.n, .inr e.t] := rfl
theorem lenSet_pn (μ : Mu) {es : List En} (h : es.length < 64) : lenSetD (.fl (es.map pnD)) μ = some (.int ((dedL (es.map pnD)).length : Nat), μ) := by
  show ((mapO keysOf (es.map pnD)).bind fun ks => if (es.map pnD).length < 64 then some (D.int ((dedL (es.map pnD)).length : Nat), μ) else none) = _
  rw [mapO_map (f := keysOf) (g := pnD) (h := fun e => [.inl e.p, .inl e.n]) keys_pn, Option.bind_some, if_pos (by rw [List.length_map]; exact h)]
/-- a comprehension over a log -/
theorem comp_lg {ρ : Fr} {μ : Mu} {es : List En} {v : Nat} {elt : ME} {src : MI} {g : En → D} (hs : src ρ μ = some (([], es.map enD), μ)) (hl : es.length ≤ 1000) (hc : ∀ e, clD 0 (g e) = true)
    (he : ∀ e ∈ es, ∀ μ, elt ((wipeF ρ [v]).set v (some (enD e))) μ = some (g e, μ)) : eComp src (gName v) [v] (eCon (.bl true)) elt false ρ μ = some (.fl (es.map g), μ) := by
  obtain ⟨g', hg⟩ : ∃ g' : D → D, ∀ e, g' (enD e) = g e := ⟨fun d => match d with
    | .tup [.int s, .int p, .int n, .str t] => g ⟨s, p, n, t⟩
    | _ => .non, fun e => rfl⟩
  have := comp_pure (F := fun d => (wipeF ρ [v]).set v (some d)) (f := gName v) (vs := [v]) (g := g') (elt := elt) hs (fun d => rfl) (fun d hd μ => by
    obtain ⟨e, h1, rfl⟩ := List.mem_map.mp hd
    rw [he e h1 μ, hg]) (fun d hd => by
    obtain ⟨e, h1, rfl⟩ := List.mem_map.mp hd
    rw [hg]
    exact hc e) (by rw [List.length_map]; exact sz hl)
  rw [this, List.map_map]
  congr 3
  congr 1
  funext e
  exact hg e
theorem all_lg {ρ : Fr} {μ : Mu} {es : List En} {v : Nat} {elt : ME} {src : MI} {g : En → Bool} (hs : src ρ μ = some (([], es.map enD), μ)) (hl : es.length ≤ 1000)
    (he : ∀ e ∈ es, ∀ μ, elt ((wipeF ρ [v]).set v (some (enD e))) μ = some (.bl (g e), μ)) : eL allD (lAll [eComp src (gName v) [v] (eCon (.bl true)) elt false]) ρ μ = some (.bl (es.all g), μ) := by
  rw [a_eL, a_cons, comp_lg (g := fun e => .bl (g e)) hs hl (fun e => by simp [clD]) he, kC_, a_nil, kCb_, kL_]
  show ((mapO blOf (es.map fun e => D.bl (g e))).bind fun ns => some (D.bl (ns.all id), μ)) = _
  rw [mapO_map (f := blOf) (g := fun e => D.bl (g e)) (h := g) (fun x => rfl), Option.bind_some, List.all_map]
  rfl
/-- logs that are right -/
structure GLog (es : List En) : Prop where
  gt : ∀ e ∈ es, GT e.t
  v : ∀ e ∈ es, vE e = true
  rise : Rise es
  len : es.length ≤ 30
theorem GLog.ok {es : List En} (h : GLog es) : ∀ e ∈ es, okT e.t = true := fun e he => (h.gt e he).1
theorem logs_of {x : Lg} (hx : GL x) (h : isLogB x = true) : ∃ es : List En, x = .fl (es.map Wi.ok) ∧ (∀ e ∈ es, GT e.t) ∧ (∀ e ∈ es, vE e = true) ∧ Rise es := by
  cases x with
  | tp ws => cases h
  | non => cases h
  | fl ws =>
    simp only [isLogB, Bool.and_eq_true] at h
    obtain ⟨es, h1, h2, h3⟩ := asE_of h.1
    rw [h1] at h
    subst h2
    exact ⟨es, rfl, fun e he => hx.1 (.ok e) (List.mem_map_of_mem he), h3, riseB_iff.mp h.2⟩
theorem isLog_of {es : List En} (h : GLog es) : isLogB (.fl (es.map Wi.ok)) = true := by
  simp only [isLogB, Bool.and_eq_true, asE_ok, riseB_iff, h.rise, and_true, List.all_eq_true]
  intro x hx
  obtain ⟨e, he, rfl⟩ := List.mem_map.mp hx
  exact h.v e he
def joinB (a b c : List En) : Bool := decide ((c.map pnD).Nodup) && (a.all (fun e => decide (e ∈ c)) && (b.all (fun e => decide (e ∈ c)) && c.all fun e => decide (e ∈ a) || decide (e ∈ b)))
def claimB (x y z : Lg) : Bool := isLogB x && (isLogB y && (isLogB z && (match x, y, z with
  | .fl a, .fl b, .fl c => (match asE a, asE b, asE c with
    | some a, some b, some c => joinB a b c
    | _, _, _ => false)
  | _, _, _ => false)))
theorem joined_logs (k : Nat) (μ : Mu) {a b c : List En} (ha : GLog a) (hb : GLog b) (hc : GLog c) :
    kS [sIf (e2 cNe (e1 lenSetD (eComp (iVal (eVar 2)) (gName 3) [3] (eCon (.bl true)) (eSl (eVar 3) (oSome (eCon (.int 1))) (oSome (eCon (.int 3)))) false)) (eL lenD (lAll [(eVar 2)]))) (sAll [sRet (eCon (.bl false))]) (sAll []),
    sIf (eOr (eNot (eL allD (lAll [(eComp (iVal (eVar 0)) (gName 3) [3] (eCon (.bl true)) (e2 cIn (eVar 3) (eVar 2)) false)]))) (eNot (eL allD (lAll [(eComp (iVal (eVar 1)) (gName 3) [3] (eCon (.bl true)) (e2 cIn (eVar 3) (eVar 2)) false)])))) (sAll [sRet (eCon (.bl false))]) (sAll []),
    sRet (eL allD (lAll [(eComp (iVal (eVar 2)) (gName 3) [3] (eCon (.bl true)) (eOr (e2 cIn (eVar 3) (eVar 0)) (e2 cIn (eVar 3) (eVar 1))) false)]))] (some (.nx [some (lgD a), some (lgD b), some (lgD c), none], μ)) = some (.rt (.bl (joinB a b c)), μ) := by
  have la := ha.len
  have lb := hb.len
  have lc := hc.len
  have c1 : eComp (iVal (eVar 2)) (gName 3) [3] (eCon (.bl true)) (eSl (eVar 3) (oSome (eCon (.int 1))) (oSome (eCon (.int 3)))) false [some (lgD a), some (lgD b), some (lgD c), none] μ = some (.fl (c.map pnD), μ) :=
    comp_lg (g := pnD) rfl (by omega) (fun e => by simp [pnD, clD, clL]) fun e he μ => by simp [wipeF, sl_pn]
  have in2 : ∀ e : En, okT e.t = true → ∀ μ, inD μ (enD e) (lgD c) = some (decide (e ∈ c)) := fun e h μ => inD_en μ h hc.ok
  have in0 : ∀ e : En, okT e.t = true → ∀ μ, inD μ (enD e) (lgD a) = some (decide (e ∈ a)) := fun e h μ => inD_en μ h ha.ok
  have in1 : ∀ e : En, okT e.t = true → ∀ μ, inD μ (enD e) (lgD b) = some (decide (e ∈ b)) := fun e h μ => inD_en μ h hb.ok
  have c2 := all_lg (ρ := [some (lgD a), some (lgD b), some (lgD c), none]) (μ := μ) (es := a) (v := 3) (elt := e2 cIn (eVar 3) (eVar 2)) (src := iVal (eVar 0)) (g := fun e => decide (e ∈ c)) rfl (by omega) (fun e he μ => by simp [wipeF, in2 e (ha.ok e he), b2])
  have c3 := all_lg (ρ := [some (lgD a), some (lgD b), some (lgD c), none]) (μ := μ) (es := b) (v := 3) (elt := e2 cIn (eVar 3) (eVar 2)) (src := iVal (eVar 1)) (g := fun e => decide (e ∈ c)) rfl (by omega) (fun e he μ => by simp [wipeF, in2 e (hb.ok e he), b2])
  have c4 := all_lg (ρ := [some (lgD a), some (lgD b), some (lgD c), none]) (μ := μ) (es := c) (v := 3) (elt := eOr (e2 cIn (eVar 3) (eVar 0)) (e2 cIn (eVar 3) (eVar 1))) (src := iVal (eVar 2)) (g := fun e => decide (e ∈ a) || decide (e ∈ b)) rfl (by omega) (fun e he μ => by
    cases h : decide (e ∈ a) <;> simp [wipeF, in0 e (hc.ok e he), in1 e (hc.ok e he), b2, h])
  have eq1 : ∀ (i j : Nat) (μ : Mu), cNe (.int i) (.int j) μ = some (.bl (!decide (i = j)), μ) := fun i j μ => by
    show (some (D.bl (!decide ((i : Int) = j)), μ)) = _
    by_cases h : i = j <;> simp [h] <;> omega
  have f1 : (e2 cNe (e1 lenSetD (eComp (iVal (eVar 2)) (gName 3) [3] (eCon (.bl true)) (eSl (eVar 3) (oSome (eCon (.int 1))) (oSome (eCon (.int 3)))) false)) (eL lenD (lAll [(eVar 2)]))) [some (lgD a), some (lgD b), some (lgD c), none] μ = some (.bl (!decide ((c.map pnD).Nodup)), μ) := by
    rw [a_e2, a_e1, c1, k1_, lenSet_pn μ (by omega), k2_]
    have : (eL lenD (lAll [(eVar 2)])) [some (lgD a), some (lgD b), some (lgD c), none] μ = some (.int c.length, μ) := by simp [len_lg]
    rw [this, k2b_, eq1]
    have := ded_len (c.map pnD)
    rw [List.length_map] at this
    by_cases h : (c.map pnD).Nodup
    · simp [h, this.mpr h]
    · have : ¬ (dedL (c.map pnD)).length = c.length := fun z => h (this.mp z)
      simp [h, this]
  rw [kS_n, s_cons, s_if, f1]
  unfold joinB
  cases h1 : decide ((c.map pnD).Nodup) with
  | false => simp
  | true =>
    rw [Bool.not_true, kSif_f, s_nil, kS_n, s_cons, s_if, a_or, a_not, c2, k1_, notD_]
    cases h2 : a.all (fun e => decide (e ∈ c)) with
    | false => simp
    | true =>
      rw [Bool.not_true, kOr_f, a_not, c3, k1_, notD_]
      cases h3 : b.all (fun e => decide (e ∈ c)) with
      | false => simp
      | true =>
        rw [Bool.not_true, kSif_f, s_nil, kS_n, s_cons, s_ret, c4]
        simp
theorem three {ρ : Fr} {μ : Mu} {A B C : ME} {x y z : Bool} (ha : A ρ μ = some (.bl x, μ)) (hb : B ρ μ = some (.bl y, μ)) (hc : C ρ μ = some (.bl z, μ)) : eOr (eNot A) (eOr (eNot B) (eNot C)) ρ μ = some (.bl (!(x && (y && z))), μ) := by
  cases x <;> cases y <;> cases z <;> simp [ha, hb, hc]
theorem joined_ok (k : Nat) (μ : Mu) {x y z : Lg} (hx : GL x) (hy : GL y) (hz : GL z) (sx : ∀ ws, x = .fl ws → ws.length ≤ 30) (sy : ∀ ws, y = .fl ws → ws.length ≤ 30) (sz : ∀ ws, z = .fl ws → ws.length ≤ 30) :
    callF pg (k + 4) "are_joined" [lgX x, lgX y, lgX z] μ = some (.bl (claimB x y z), μ) := by
  rw [c_are_joined]
  refine pure_rt (by rfl) (by simp [clD]) ?_
  have hst : start i_are_joined.N [lgX x, lgX y, lgX z] = [some (lgX x), some (lgX y), some (lgX z), none] := rfl
  rw [hst]
  have h3 := three (ρ := [some (lgX x), some (lgX y), some (lgX z), none]) (μ := μ) (A := eL (callF pg (k + 3) "is_log") (lAll [(eVar 0)])) (B := eL (callF pg (k + 3) "is_log") (lAll [(eVar 1)])) (C := eL (callF pg (k + 3) "is_log") (lAll [(eVar 2)]))
    (show _ = some (D.bl (isLogB x), μ) from is_log_ok k μ hx) (show _ = some (D.bl (isLogB y), μ) from is_log_ok k μ hy) (show _ = some (D.bl (isLogB z), μ) from is_log_ok k μ hz)
  unfold b_are_joined
  rw [s_cons, s_if, h3]
  cases h : (isLogB x && (isLogB y && isLogB z)) with
  | false =>
    have hc : claimB x y z = false := by
      unfold claimB
      cases h1 : isLogB x <;> cases h2 : isLogB y <;> cases h3 : isLogB z <;> simp_all
    rw [hc, Bool.not_false, kSif_t]
    rfl
  | true =>
    simp only [Bool.and_eq_true] at h
    obtain ⟨a, rfl, a1, a2, a3⟩ := logs_of hx h.1
    obtain ⟨b, rfl, b1, b2, b3⟩ := logs_of hy h.2.1
    obtain ⟨c, rfl, c1, c2, c3⟩ := logs_of hz h.2.2
    have la := sx _ rfl
    have lb := sy _ rfl
    have lc := sz _ rfl
    rw [List.length_map] at la lb lc
    rw [Bool.not_true, kSif_f, s_nil, lg_ok, lg_ok, lg_ok, joined_logs k μ ⟨a1, a2, a3, la⟩ ⟨b1, b2, b3, lb⟩ ⟨c1, c2, c3, lc⟩]
    simp [claimB, h.1, h.2.1, h.2.2, asE_ok]
end G
set_option Elab.async false
set_option linter.all false
set_option maxRecDepth 100000
set_option maxHeartbeats 4000000
/-! M7: what is due. -/
namespace G
open PySem L2
theorem sIx_some {n i : Nat} (h : i ≤ n) (d : Nat) : _root_.HT.sIx n d (some (i : Int)) = i := by
  rw [_root_.HT.sIx_nat, Nat.min_eq_left h]
theorem sIx_none (n d : Nat) : _root_.HT.sIx n d none = d := rfl
theorem sl_to {es : List En} {i : Nat} (h : i ≤ es.length) (μ : Mu) : slD none (some (i : Int)) (lgD es) μ = some (lgD (es.take i), μ) := by
  show some (D.fl (cutD (es.map enD) none (some (i : Int))), μ) = _
  unfold cutD
  rw [sIx_none, sIx_some (by rw [List.length_map]; exact h), List.drop_zero, Nat.sub_zero, ← List.map_take]
  rfl
theorem sl_from {es : List En} {i : Nat} (h : i ≤ es.length) (μ : Mu) : slD (some (i : Int)) none (lgD es) μ = some (lgD (es.drop i), μ) := by
  show some (D.fl (cutD (es.map enD) (some (i : Int)) none), μ) = _
  unfold cutD
  rw [sIx_none, sIx_some (by rw [List.length_map]; exact h), ← List.map_drop, List.take_of_length_le (by simp)]
  rfl
theorem srcD_lg (μ : Mu) (es : List En) : srcD μ (lgD es) = some ([], es.map enD) := rfl
/-- a pair that stood before -/
def dupAt (c : List En) (i : Nat) : Bool := match c[i]? with
  | some e => decide (pnD e ∈ (c.take i).map pnD)
  | none => false
theorem dup_nodup (c : List En) : (List.range c.length).any (dupAt c) = !decide ((c.map pnD).Nodup) := by
  by_cases h : (c.map pnD).Nodup
  · rw [decide_eq_true h, Bool.not_true, List.any_eq_false]
    intro i hi
    have hi := List.mem_range.mp hi
    unfold dupAt
    rw [List.getElem?_eq_getElem hi]
    simp only [decide_eq_true_eq]
    intro hm
    obtain ⟨x, hx, e⟩ := List.mem_map.mp hm
    obtain ⟨j, hj, e2⟩ := List.mem_iff_getElem.mp hx
    have hj2 : j < i := by rw [List.length_take] at hj; omega
    rw [List.getElem_take] at e2
    have := List.pairwise_iff_getElem.mp h j i (by rw [List.length_map]; omega) (by rw [List.length_map]; exact hi) hj2
    rw [List.getElem_map, List.getElem_map, e2] at this
    exact this e
  · rw [decide_eq_false h, Bool.not_false, List.any_eq_true]
    refine Classical.byContradiction fun hno => h (List.pairwise_iff_getElem.mpr fun i j hi hj hij e => hno ?_)
    have hi' : i < c.length := by simpa using hi
    have hj' : j < c.length := by simpa using hj
    have e2 : pnD (c[i]'hi') = pnD (c[j]'hj') := by simpa using e
    refine ⟨j, List.mem_range.mpr hj', ?_⟩
    unfold dupAt
    rw [List.getElem?_eq_getElem hj']
    simp only [decide_eq_true_eq]
    exact List.mem_map.mpr ⟨c[i]'hi', List.mem_iff_getElem.mpr ⟨i, by rw [List.length_take]; omega, by rw [List.getElem_take]⟩, e2⟩
def dueTurn : MS := sAll [sIf (e2 cIn (eSl (e2 ixD (eVar 2) (eVar 3)) (oSome (eCon (.int 1))) (oSome (eCon (.int 3)))) (eComp (iVal (eSl (eVar 2) oNone (oSome (eVar 3)))) (gName 4) [4] (eCon (.bl true)) (eSl (eVar 4) (oSome (eCon (.int 1))) (oSome (eCon (.int 3)))) false)) (sAll [sRet (eCon (.bl false))]) (sAll [])]
theorem dueTurn_ok {A B : D} {c : List En} {i : Nat} (hi : i < c.length) (hl : c.length ≤ 1000) (μ : Mu) : dueTurn [some A, some B, some (lgD c), some (.int (i : Int)), none] μ = if dupAt c i = true then some (.rt (.bl false), μ) else some (.nx [some A, some B, some (lgD c), some (.int (i : Int)), none], μ) := by
  have i1 : c[i]? = some c[i] := List.getElem?_eq_getElem hi
  have x1 : ∀ μ, ixD (lgD c) (.int (i : Int)) μ = some (enD c[i], μ) := fun μ => ix_fl (by rw [List.getElem?_map, i1]; rfl) μ
  have hs : ∀ μ, slD none (some (i : Int)) (lgD c) μ = some (lgD (c.take i), μ) := fun μ => sl_to (by omega) μ
  have hc := comp_lg (ρ := [some A, some B, some (lgD c), some (.int (i : Int)), none]) (μ := μ) (es := c.take i) (v := 4) (elt := eSl (eVar 4) (oSome (eCon (.int 1))) (oSome (eCon (.int 3)))) (src := iVal (eSl (eVar 2) oNone (oSome (eVar 3)))) (g := pnD) (by simp [hs, srcD_lg]) (by rw [List.length_take]; omega) (fun e => by simp [pnD, clD, clL]) (fun e he μ => by simp [wipeF, sl_pn])
  have f1 : (e2 cIn (eSl (e2 ixD (eVar 2) (eVar 3)) (oSome (eCon (.int 1))) (oSome (eCon (.int 3)))) (eComp (iVal (eSl (eVar 2) oNone (oSome (eVar 3)))) (gName 4) [4] (eCon (.bl true)) (eSl (eVar 4) (oSome (eCon (.int 1))) (oSome (eCon (.int 3)))) false)) [some A, some B, some (lgD c), some (.int (i : Int)), none] μ = some (.bl (dupAt c i), μ) := by
    have s1 : (eSl (e2 ixD (eVar 2) (eVar 3)) (oSome (eCon (.int 1))) (oSome (eCon (.int 3)))) [some A, some B, some (lgD c), some (.int (i : Int)), none] μ = some (pnD c[i], μ) := by simp [x1, sl_pn]
    rw [a_e2, s1, k2_, hc, k2b_]
    have : cIn (pnD c[i]) (.fl ((c.take i).map pnD)) μ = b2 (inD μ (pnD c[i]) (.fl ((c.take i).map pnD))) μ := rfl
    rw [this, inD_pn]
    simp [b2, dupAt, i1]
  unfold dueTurn
  rw [s_cons, s_if, f1]
  cases h : dupAt c i with
  | true => simp
  | false => simp
theorem due_for {A B : D} {c : List En} (hl : c.length ≤ 1000) (μ : Mu) : ∀ (l : List Nat) (w : Option D), (∀ i ∈ l, i < c.length) → ∃ w', forL [] (gName 3) dueTurn (l.map fun (i : Nat) => D.int (0 + (i : Int))) [some A, some B, some (lgD c), w, none] μ = if l.any (dupAt c) = true then some (.rt (.bl false), μ) else some (.nx [some A, some B, some (lgD c), w', none], μ)
  | [], w, _ => ⟨w, by simp [forL, okSrc]⟩
  | i :: l, w, h => by
    obtain ⟨w', e⟩ := due_for hl μ l (some (.int (i : Int))) fun j hj => h j (List.mem_cons_of_mem _ hj)
    refine ⟨w', ?_⟩
    have hg : gName 3 (.int (0 + (i : Int))) [some A, some B, some (lgD c), w, none] = some [some A, some B, some (lgD c), some (.int (i : Int)), none] := by
      rw [show (0 : Int) + (i : Int) = (i : Int) by omega]
      rfl
    rw [List.map_cons, forL, if_pos (by rfl : okSrc μ [] = true), hg, Option.bind_some, dueTurn_ok (h i (List.mem_cons_self ..)) hl μ]
    cases hd : dupAt c i with
    | true => simp [hd]
    | false =>
      rw [if_neg Bool.false_ne_true, Option.bind_some]
      simp only
      rw [e, List.any_cons, hd, Bool.false_or]
/-! ### sorted(set(one + other)) -/
def ddE : List En → List En
  | [] => []
  | e :: r => if e ∈ ddE r then ddE r else e :: ddE r
theorem mem_dd {e : En} : ∀ {l : List En}, e ∈ ddE l ↔ e ∈ l
  | [] => Iff.rfl
  | x :: r => by
    unfold ddE
    split
    · rename_i h
      rw [List.mem_cons, mem_dd (l := r)]
      refine ⟨.inr, fun z => z.elim (fun z => ?_) id⟩
      rw [z]
      exact mem_dd.mp h
    · rw [List.mem_cons, List.mem_cons, mem_dd (l := r)]
theorem nodup_dd : ∀ l : List En, (ddE l).Nodup
  | [] => List.nodup_nil
  | x :: r => by
    unfold ddE
    split
    · exact nodup_dd r
    · rename_i h
      exact List.nodup_cons.mpr ⟨h, nodup_dd r⟩
theorem ded_map : ∀ l : List En, dedL (l.map enD) = (ddE l).map enD
  | [] => rfl
  | x :: r => by
    rw [List.map_cons]
    unfold dedL ddE
    rw [ded_map r]
    by_cases h : x ∈ ddE r
    · rw [if_pos h, if_pos (mem_enD.mpr h)]
    · rw [if_neg h, if_neg (fun z => h (mem_enD.mp z))]
      rfl
theorem strict_en {es : List En} (h : es.Nodup) : strictL (((es.map enD).zip (es.map enP)).mergeSort (PySem.W.dataLe false Prod.snd)) = true := by
  rw [zip_map_self, sort_map]
  unfold strictL
  rw [decide_eq_true_eq]
  refine List.Pairwise.map _ (fun a b h => h) (R := fun a b => ltE a b = true) ?_
  exact srt_rise h
theorem sortSet_en (μ : Mu) {es : List En} (hs : ∀ e ∈ es, okT e.t = true) (hl : es.length < 64) : sortSetD (lgD es) μ = some (lgD (srtE (ddE es)), μ) := by
  show ((mapO keysOf (es.map enD)).bind fun ks => (mapO (dat μ deep) (dedL (es.map enD))).bind fun ps =>
    if decide ((es.map enD).length < 64) && (sortOk ps && strictL (((dedL (es.map enD)).zip ps).mergeSort (PySem.W.dataLe false Prod.snd))) then some (D.fl (sortL (dedL (es.map enD)) ps), μ) else none) = _
  rw [mapO_map (f := keysOf) (g := enD) (h := fun e => [.inl e.s, .inl e.p, .inl e.n, .inr e.t]) keys_en, Option.bind_some, ded_map, mapO_map (f := dat μ deep) (g := enD) (h := enP) (fun x => dat_en μ 39 x), Option.bind_some]
  have h1 : sortOk ((ddE es).map enP) = true := sortOk_en fun e he => hs e (mem_dd.mp he)
  have h2 : (es.map enD).length < 64 := by rw [List.length_map]; exact hl
  rw [h1, strict_en (nodup_dd es), decide_eq_true h2, sortL_en]
  rfl
theorem add_lg (μ : Mu) {a b : List En} (h : a.length + b.length ≤ 1000) : addD (lgD a) (lgD b) μ = some (lgD (a ++ b), μ) := by
  show (if (a.map enD).length + (b.map enD).length ≤ sizeLine then some (D.fl (a.map enD ++ b.map enD), μ) else none) = _
  rw [if_pos (by rw [List.length_map, List.length_map]; exact sz h), ← List.map_append]
  rfl
theorem due_eq {a b c : List En} (hc : Rise c) : (decide ((c.map pnD).Nodup) && decide (srtE (ddE (a ++ b)) = c)) = joinB a b c := by
  unfold joinB
  congr 1
  have hm : ∀ e, e ∈ srtE (ddE (a ++ b)) ↔ e ∈ a ∨ e ∈ b := fun e => by
    rw [(srt_perm _).mem_iff, mem_dd, List.mem_append]
  by_cases h : srtE (ddE (a ++ b)) = c
  · rw [decide_eq_true h, eq_comm]
    subst h
    simp only [Bool.and_eq_true, List.all_eq_true, decide_eq_true_eq, Bool.or_eq_true, hm]
    exact ⟨fun e he => .inl he, fun e he => .inr he, fun e he => he⟩
  · rw [decide_eq_false h, eq_comm, ← Bool.not_eq_true]
    intro z
    simp only [Bool.and_eq_true, List.all_eq_true, decide_eq_true_eq, Bool.or_eq_true] at z
    refine h (rise_eq (srt_rise (nodup_dd _)) hc fun e => ?_)
    rw [hm]
    exact ⟨fun y => y.elim (z.1 e) (z.2.1 e), z.2.2 e⟩
theorem due_logs (μ : Mu) {a b c : List En} (ha : GLog a) (hb : GLog b) (hc : GLog c) :
    kS [sFor (iRng (lAll [(eL lenD (lAll [(eVar 2)]))])) (gName 3) (sAll [sIf (e2 cIn (eSl (e2 ixD (eVar 2) (eVar 3)) (oSome (eCon (.int 1))) (oSome (eCon (.int 3)))) (eComp (iVal (eSl (eVar 2) oNone (oSome (eVar 3)))) (gName 4) [4] (eCon (.bl true)) (eSl (eVar 4) (oSome (eCon (.int 1))) (oSome (eCon (.int 3)))) false)) (sAll [sRet (eCon (.bl false))]) (sAll [])]),
    sRet (e2 cEq (e1 sortSetD (e2 addD (eVar 0) (eVar 1))) (eVar 2))] (some (.nx [some (lgD a), some (lgD b), some (lgD c), none, none], μ)) = some (.rt (.bl (joinB a b c)), μ) := by
  have la := ha.len
  have lb := hb.len
  have lc := hc.len
  obtain ⟨w', hf⟩ := due_for (A := lgD a) (B := lgD b) (c := c) (by omega) μ (List.range c.length) none (fun i hi => List.mem_range.mp hi)
  have hsrc : iRng (lAll [(eL lenD (lAll [(eVar 2)]))]) [some (lgD a), some (lgD b), some (lgD c), none, none] μ = some (([], (List.range c.length).map fun (i : Nat) => D.int (0 + (i : Int))), μ) := by
    have hR : okR (c.length : Int) = true := by simp only [okR, decide_eq_true_eq]; omega
    have h1 : lAll [(eL lenD (lAll [(eVar 2)]))] [some (lgD a), some (lgD b), some (lgD c), none, none] μ = some ([.int c.length], μ) := by simp [len_lg]
    unfold iRng
    rw [h1, Option.bind_some]
    simp only
    rw [if_pos hR, Int.toNat_natCast]
    unfold rngL
    rfl
  have hfor : sFor (iRng (lAll [(eL lenD (lAll [(eVar 2)]))])) (gName 3) dueTurn [some (lgD a), some (lgD b), some (lgD c), none, none] μ = if (List.range c.length).any (dupAt c) = true then some (.rt (.bl false), μ) else some (.nx [some (lgD a), some (lgD b), some (lgD c), w', none], μ) := by
    rw [s_for, hsrc, kFor_, hf]
  have ok : ∀ e ∈ a ++ b, okT e.t = true := fun e he => by
    rcases List.mem_append.mp he with he | he
    · exact ha.ok e he
    · exact hb.ok e he
  have hadd : ∀ μ : Mu, addD (lgD a) (lgD b) μ = some (lgD (a ++ b), μ) := fun μ => add_lg μ (by omega)
  have hss : ∀ μ : Mu, sortSetD (lgD (a ++ b)) μ = some (lgD (srtE (ddE (a ++ b))), μ) := fun μ => sortSet_en μ ok (by rw [List.length_append]; omega)
  have heq : ∀ μ : Mu, cEq (lgD (srtE (ddE (a ++ b)))) (lgD c) μ = some (.bl (decide (srtE (ddE (a ++ b)) = c)), μ) := fun μ => by
    show b2 (eqD μ (lgD (srtE (ddE (a ++ b)))) (lgD c)) μ = _
    rw [eqD_lg μ (fun e he => ok e (mem_dd.mp ((srt_perm _).mem_iff.mp he))) hc.ok]
    rfl
  have hret : sRet (e2 cEq (e1 sortSetD (e2 addD (eVar 0) (eVar 1))) (eVar 2)) [some (lgD a), some (lgD b), some (lgD c), w', none] μ = some (.rt (.bl (decide (srtE (ddE (a ++ b)) = c))), μ) := by
    rw [s_ret, a_e2, a_e1, a_e2, a_var0, k2_, a_varS, a_var0, k2b_, hadd, k1_, hss, k2_, a_varS, a_varS, a_var0, k2b_, heq, kRet_]
  rw [kS_n, s_cons]
  change kS _ (sFor (iRng (lAll [(eL lenD (lAll [(eVar 2)]))])) (gName 3) dueTurn [some (lgD a), some (lgD b), some (lgD c), none, none] μ) = _
  rw [hfor, dup_nodup, ← due_eq hc.rise]
  cases hn : decide ((c.map pnD).Nodup) with
  | false => rw [Bool.not_false, if_pos rfl, kS_r, Bool.false_and]
  | true => rw [Bool.not_true, if_neg Bool.false_ne_true, kS_n, s_cons, hret, kS_r, Bool.true_and]
theorem due_ok (k : Nat) (μ : Mu) {x y z : Lg} (hx : GL x) (hy : GL y) (hz : GL z) (sx : ∀ ws, x = .fl ws → ws.length ≤ 30) (sy : ∀ ws, y = .fl ws → ws.length ≤ 30) (sz' : ∀ ws, z = .fl ws → ws.length ≤ 30) :
    callF pg (k + 2) "_law_due" [lgX x, lgX y, lgX z] μ = some (.bl (claimB x y z), μ) := by
  rw [c__law_due]
  refine pure_rt (by rfl) (by simp [clD]) ?_
  have hst : start i__law_due.N [lgX x, lgX y, lgX z] = [some (lgX x), some (lgX y), some (lgX z), none, none] := rfl
  rw [hst]
  have h3 := three (ρ := [some (lgX x), some (lgX y), some (lgX z), none, none]) (μ := μ) (A := eL (callF pg (k + 1) "_law_is_log") (lAll [(eVar 0)])) (B := eL (callF pg (k + 1) "_law_is_log") (lAll [(eVar 1)])) (C := eL (callF pg (k + 1) "_law_is_log") (lAll [(eVar 2)]))
    (show _ = some (D.bl (isLogB x), μ) from law_log_ok k μ hx) (show _ = some (D.bl (isLogB y), μ) from law_log_ok k μ hy) (show _ = some (D.bl (isLogB z), μ) from law_log_ok k μ hz)
  unfold b__law_due
  rw [s_cons, s_if, h3]
  cases h : (isLogB x && (isLogB y && isLogB z)) with
  | false =>
    have hc : claimB x y z = false := by
      unfold claimB
      cases h1 : isLogB x <;> cases h2 : isLogB y <;> cases h3 : isLogB z <;> simp_all
    rw [hc, Bool.not_false, kSif_t]
    rfl
  | true =>
    simp only [Bool.and_eq_true] at h
    obtain ⟨a, rfl, a1, a2, a3⟩ := logs_of hx h.1
    obtain ⟨b, rfl, b1, b2, b3⟩ := logs_of hy h.2.1
    obtain ⟨c, rfl, c1, c2, c3⟩ := logs_of hz h.2.2
    have la := sx _ rfl
    have lb := sy _ rfl
    have lc := sz' _ rfl
    rw [List.length_map] at la lb lc
    have hcl : claimB (.fl (a.map Wi.ok)) (.fl (b.map Wi.ok)) (.fl (c.map Wi.ok)) = joinB a b c := by simp [claimB, h.1, h.2.1, h.2.2, asE_ok]
    rw [hcl, Bool.not_true, kSif_f, s_nil, lg_ok, lg_ok, lg_ok]
    exact due_logs μ ⟨a1, a2, a3, la⟩ ⟨b1, b2, b3, lb⟩ ⟨c1, c2, c3, lc⟩
end G
set_option Elab.async false
set_option linter.all false
set_option maxRecDepth 100000
set_option maxHeartbeats 4000000
/-! M8: a log put otherwise. -/
namespace G
open PySem L2
theorem slTo {ds : List D} {i : Nat} (h : i ≤ ds.length) (μ : Mu) : slD none (some (i : Int)) (.fl ds) μ = some (.fl (ds.take i), μ) := by
  show some (D.fl (cutD ds none (some (i : Int))), μ) = _
  unfold cutD
  rw [sIx_none, sIx_some h, List.drop_zero, Nat.sub_zero]
theorem slFrom {ds : List D} {i : Nat} (h : i ≤ ds.length) (μ : Mu) : slD (some (i : Int)) none (.fl ds) μ = some (.fl (ds.drop i), μ) := by
  show some (D.fl (cutD ds (some (i : Int)) none), μ) = _
  unfold cutD
  rw [sIx_none, sIx_some h, List.take_of_length_le (by simp)]
theorem addFl {xs ys : List D} (h : xs.length + ys.length ≤ 1000) (μ : Mu) : addD (.fl xs) (.fl ys) μ = some (.fl (xs ++ ys), μ) := by
  show (if xs.length + ys.length ≤ sizeLine then some (D.fl (xs ++ ys), μ) else none) = _
  rw [if_pos (sz h)]
theorem okT_app {a b : Str} (ha : okT a = true) (hb : okT b = true) : okT (a ++ b) = true := by
  unfold okT at *
  have : (a ++ b).cps.toList = a.cps.toList ++ b.cps.toList := by
    show (a.cps ++ b.cps).toList = _
    simp
  rw [this, List.all_append, ha, hb]
  rfl
theorem times_cps (z : Str) : ∀ (n : Nat) (acc : Array Nat), ((List.replicate n z.cps).foldl (· ++ ·) acc).toList = acc.toList ++ (List.replicate n z.cps.toList).flatten
  | 0, acc => by simp
  | n + 1, acc => by
    rw [List.replicate_succ, List.foldl_cons, times_cps z n, List.replicate_succ]
    simp
theorem okT_times {z : Str} (h : okT z = true) (n : Nat) : okT (timesS z n) = true := by
  unfold okT at *
  have e : (timesS z n).cps.toList = (List.replicate n z.cps.toList).flatten := by
    show ((List.replicate n z.cps).foldl (· ++ ·) #[]).toList = _
    rw [times_cps]
    simp
  rw [e, List.all_eq_true]
  intro c hc
  obtain ⟨l, hl, hc⟩ := List.mem_flatten.mp hc
  rw [(List.mem_replicate.mp hl).2] at hc
  exact List.all_eq_true.mp h c hc
theorem okT_cut {z : Str} (h : okT z = true) (i j : Option Int) : okT (cutS z i j) = true := by
  unfold okT at *
  rw [List.all_eq_true]
  intro c hc
  have : c ∈ z.cps.toList := List.mem_of_mem_drop (List.mem_of_mem_take (by simpa [cutS] using hc))
  exact List.all_eq_true.mp h c this
theorem cut1_len {z : Str} (h : 1 ≤ z.length) : (cutS z none (some 1)).length = 1 := by
  have e1 : HT.sIx z.length z.length (some ((1 : Nat) : Int)) = 1 := sIx_some h _
  have e2 : HT.sIx z.length 0 none = 0 := rfl
  show (cutS z none (some ((1 : Nat) : Int))).cps.size = 1
  unfold cutS
  rw [e1, e2]
  have : z.cps.toList.length = z.length := Array.length_toList
  simp only [List.drop_zero, Nat.sub_zero, List.size_toArray, List.length_take, this]
  omega
/-- small enough, and of right things -/
def SL (x : Lg) : Prop := GL x ∧ ∀ ws, x = .fl ws → ws.length ≤ 30
theorem sl_fl {ws : List Wi} (h : ∀ x ∈ ws, GW x) (hl : ws.length ≤ 30) : SL (.fl ws) := ⟨⟨h, by omega⟩, fun _ e => by cases e; exact hl⟩
def flX (xs : List Lg) : D := .fl (xs.map lgX)
theorem pick {xs : List Lg} {r : Int} (h0 : 0 ≤ r) (h1 : r < xs.length) (h : ∀ x ∈ xs, SL x) : ∃ x, SL x ∧ ∀ μ, ixD (flX xs) (.int r) μ = some (lgX x, μ) := by
  obtain ⟨i, rfl⟩ : ∃ i : Nat, r = i := ⟨r.toNat, by omega⟩
  have hi : i < xs.length := by omega
  refine ⟨xs[i], h _ (List.getElem_mem hi), fun μ => ix_fl (by rw [List.getElem?_map, List.getElem?_eq_getElem hi]; rfl) μ⟩
theorem clo_wi (x : Wi) : clD 0 (wiD x) = true := by cases x <;> simp [wiD, enD, clD, clL]
theorem clo_wis (ws : List Wi) : clL 0 (ws.map wiD) = true := clL_all.mpr fun d hd => by
  obtain ⟨x, _, rfl⟩ := List.mem_map.mp hd
  exact clo_wi x
theorem clo_lg (x : Lg) : clD 0 (lgX x) = true := by
  cases x with
  | fl ws => simp [lgX, clD, clo_wis]
  | tp ws => simp [lgX, clD, clo_wis]
  | non => simp [lgX, clD]
theorem gt_of {t : Str} (h : okT t = true) (hl : t.length ≤ 100) : GT t := ⟨h, hl⟩
theorem gt_v {e : En} (h1 : okT e.t = true) (h2 : vE e = true) : GT e.t := ⟨h1, by simp only [vE, Bool.and_eq_true, decide_eq_true_eq] at h2; omega⟩
theorem fl_cons {es : List ME} {ρ : Fr} {μ : Mu} {a : ME} {x : D} {xs : List D} (h : a ρ μ = some (x, μ)) (h2 : lAll es ρ μ = some (xs, μ)) : lAll (a :: es) ρ μ = some (x :: xs, μ) := by
  rw [a_cons, h, kC_, h2, kCb_]
theorem odd_ok (k : Nat) {μ : Mu} {b m : Nat} {es : List En} (h : Bg μ b (m + 2)) (he : ∀ e ∈ es, okT e.t = true ∧ vE e = true) (hl : es.length ≤ 13) : ∃ (x : Lg) (μ' : Mu), callF pg (k + 2) "_law_odd" [.ref b, lgD es] μ = some (lgX x, μ') ∧ SL x ∧ Ch μ b m μ' := by
  rw [c__law_odd]
  obtain ⟨r, μ1, t1, r0, r1, ch1⟩ := take_ok k (k := 9) (h.le (show (m + 1) + 1 ≤ m + 2 by omega)) (by decide) (by decide)
  by_cases hn : es = []
  · subst hn
    obtain ⟨x, sx, hx⟩ := pick (xs := [.fl [.ok ⟨0, 0, 0, "a"⟩], .tp [], .non, .fl [.b0], .fl [.b3], .fl [.bn], .fl [.ok ⟨0, 0, 0, ""⟩], .fl [.ok ⟨0, 4, 0, "a"⟩], .fl [.bs]]) r0 (by simpa using r1) (fun x hx => by
      have gta : GT "a" := ⟨by decide, by decide⟩
      have gt0 : GT "" := ⟨by decide, by decide⟩
      simp only [List.mem_cons, List.not_mem_nil, or_false] at hx
      rcases hx with rfl | rfl | rfl | rfl | rfl | rfl | rfl | rfl | rfl
      · exact sl_fl (fun x hx => by rw [List.mem_singleton.mp hx]; exact gta) (by decide)
      · exact ⟨⟨fun _ z => (by cases z), by decide⟩, fun _ e => (by cases e)⟩
      · exact ⟨trivial, fun _ e => (by cases e)⟩
      · exact sl_fl (fun x hx => by rw [List.mem_singleton.mp hx]; exact trivial) (by decide)
      · exact sl_fl (fun x hx => by rw [List.mem_singleton.mp hx]; exact trivial) (by decide)
      · exact sl_fl (fun x hx => by rw [List.mem_singleton.mp hx]; exact trivial) (by decide)
      · exact sl_fl (fun x hx => by rw [List.mem_singleton.mp hx]; exact gt0) (by decide)
      · exact sl_fl (fun x hx => by rw [List.mem_singleton.mp hx]; exact gta) (by decide)
      · exact sl_fl (fun x hx => by rw [List.mem_singleton.mp hx]; exact trivial) (by decide))
    refine ⟨x, μ1, ?_, sx, ⟨ch1.1.le (by omega), ch1.2⟩⟩
    refine (runFn_rt (by rfl) (d := lgX x) (μ' := μ1) ?_).trans (ch1.fin (clD_le (Nat.zero_le _) _ (clo_lg x)))
    unfold b__law_odd
    have hst : start i__law_odd.N [.ref b, lgD []] = [some (.ref b), some (lgD []), none, none, none, none, none, none, none] := rfl
    have h1 : (eL (callF pg (k + 1) "_law_take") (lAll [(eVar 0), (eCon (.int 9))])) [some (.ref b), some (lgD []), none, none, none, none, none, none, none] μ = some (.int r, μ1) := t1
    rw [hst, s_cons, s_set, h1, kSet_, kS_n, s_cons, s_if]
    have h2 : (e2 cEq (eL lenD (lAll [(eVar 1)])) (eCon (.int 0))) ([some (.ref b), some (lgD []), none, none, none, none, none, none, none].set 2 (some (.int r))) μ1 = some (.bl true, μ1) := rfl
    rw [h2, kSif_t, s_cons, s_ret, a_e2]
    have sz9 : ∀ (ds : List D) (μ : Mu), ds.length ≤ 1000 → flD ds μ = some (.fl ds, μ) := fun ds μ h => if_pos (sz h)
    have szt : ∀ (ds : List D) (μ : Mu), ds.length ≤ 1000 → tupD ds μ = some (.tup ds, μ) := fun ds μ h => if_pos (sz h)
    simp [sz9, szt]
    have hx1 := hx μ1
    simp only [flX, List.map_cons, List.map_nil, lgX, wiD, enD] at hx1
    rw [hx1]
    simp
    rfl
  · have hpos : 0 < es.length := List.length_pos_iff.mpr hn
    obtain ⟨a', μ2, t2, a0, a1, ch2⟩ := take_ok k (k := (es.length : Int)) ch1.1 (by omega) (by omega)
    obtain ⟨a, rfl⟩ : ∃ a : Nat, a' = a := ⟨a'.toNat, by omega⟩
    have ha : a < es.length := by omega
    have ch := ch1.trans ch2
    obtain ⟨e, hee⟩ : ∃ e, es[a]? = some e := ⟨es[a], List.getElem?_eq_getElem ha⟩
    have hem : e ∈ es := List.mem_of_getElem? hee
    obtain ⟨ok1, v1⟩ := he e hem
    have tl : 1 ≤ e.t.length ∧ e.t.length ≤ 20 := by
      simp only [vE, Bool.and_eq_true, decide_eq_true_eq] at v1
      exact v1.2.2.2
    obtain ⟨W, hW⟩ : ∃ W : List Wi, W = es.map Wi.ok := ⟨_, rfl⟩
    have hWl : W.length = es.length := by rw [hW, List.length_map]
    have hD : lgD es = .fl (W.map wiD) := by rw [hW]; exact (lg_ok es).symm
    have gW : ∀ x ∈ W, GW x := fun x hx => by
      rw [hW] at hx
      obtain ⟨e, h1, rfl⟩ := List.mem_map.mp hx
      exact gt_v (he e h1).1 (he e h1).2
    obtain ⟨z21, hz21⟩ : ∃ z : Str, z = timesS (cutS e.t none (some 1)) 21 := ⟨_, rfl⟩
    have gz21 : GT z21 := by
      refine ⟨by rw [hz21]; exact okT_times (okT_cut ok1 _ _) 21, ?_⟩
      rw [hz21, times_len, cut1_len tl.1]
      omega
    have gzb : GT (e.t ++ "b") := ⟨okT_app ok1 (by decide), by
      rw [PySem.Str.length_append, show ("b" : Str).length = 1 from by decide]
      omega⟩
    have gte : GT e.t := gt_v ok1 v1
    -- the nine
    obtain ⟨xs, hxs⟩ : ∃ xs : List Lg, xs = [.fl (W.take a ++ W.drop (a + 1)), .fl (W.take a ++ [.ok e] ++ W.drop a), .fl W.reverse, .tp W, .fl (W.take a ++ [.ok ⟨e.s, e.p, e.n, e.t ++ "b"⟩] ++ W.drop (a + 1)),
      .fl ((srtE (es ++ [⟨e.s + 1, e.p, e.n, e.t⟩])).map Wi.ok), .fl ((srtE (es ++ [⟨0, 3, 998, "new"⟩])).map Wi.ok), .fl (W.take a ++ [.ok ⟨e.s, e.p, e.n, z21⟩] ++ W.drop (a + 1)), .fl (W.take a ++ [.bl e] ++ W.drop (a + 1))] := ⟨_, rfl⟩
    have mid : ∀ (y : Wi) (j : Nat), GW y → SL (.fl (W.take a ++ [y] ++ W.drop j)) := fun y j gy => sl_fl (fun x hx => by
      rcases List.mem_append.mp hx with hx | hx
      · rcases List.mem_append.mp hx with hx | hx
        · exact gW x (List.mem_of_mem_take hx)
        · rw [List.mem_singleton.mp hx]; exact gy
      · exact gW x (List.mem_of_mem_drop hx)) (by
        simp only [List.length_append, List.length_take, List.length_drop, List.length_singleton]
        omega)
    have srt : ∀ y : En, GT y.t → SL (.fl ((srtE (es ++ [y])).map Wi.ok)) := fun y gy => sl_fl (fun x hx => by
      obtain ⟨e', h1, rfl⟩ := List.mem_map.mp hx
      have h2 := (srt_perm _).mem_iff.mp h1
      rcases List.mem_append.mp h2 with h2 | h2
      · exact gt_v (he e' h2).1 (he e' h2).2
      · rw [List.mem_singleton.mp h2]; exact gy) (by
        rw [List.length_map, (srt_perm _).length_eq, List.length_append, List.length_singleton]
        omega)
    obtain ⟨x, sx, hx⟩ := pick (xs := xs) r0 (by rw [hxs]; simpa using r1) (fun x hx => by
      rw [hxs] at hx
      simp only [List.mem_cons, List.not_mem_nil, or_false] at hx
      rcases hx with rfl | rfl | rfl | rfl | rfl | rfl | rfl | rfl | rfl
      · exact sl_fl (fun x hx => by
          rcases List.mem_append.mp hx with hx | hx
          · exact gW x (List.mem_of_mem_take hx)
          · exact gW x (List.mem_of_mem_drop hx)) (by
            simp only [List.length_append, List.length_take, List.length_drop]
            omega)
      · exact mid _ _ gte
      · exact sl_fl (fun x hx => gW x (List.mem_reverse.mp hx)) (by rw [List.length_reverse]; omega)
      · exact ⟨⟨gW, by omega⟩, fun _ e => (by cases e)⟩
      · exact mid _ _ gzb
      · exact srt _ gte
      · exact srt _ ⟨by decide, by decide⟩
      · exact mid _ _ gz21
      · exact mid _ _ gte)
    refine ⟨x, μ2, ?_, sx, ch⟩
    refine (runFn_rt (by rfl) (d := lgX x) (μ' := μ2) ?_).trans (ch.fin (clD_le (Nat.zero_le _) _ (clo_lg x)))
    unfold b__law_odd
    have hst : start i__law_odd.N [.ref b, lgD es] = [some (.ref b), some (lgD es), none, none, none, none, none, none, none] := rfl
    have h1 : (eL (callF pg (k + 1) "_law_take") (lAll [(eVar 0), (eCon (.int 9))])) [some (.ref b), some (lgD es), none, none, none, none, none, none, none] μ = some (.int r, μ1) := t1
    rw [hst, s_cons, s_set, h1, kSet_, kS_n, s_cons, s_if]
    have hne : ¬ ((es.length : Nat) : Int) = 0 := by omega
    have h2 : (e2 cEq (eL lenD (lAll [(eVar 1)])) (eCon (.int 0))) ([some (.ref b), some (lgD es), none, none, none, none, none, none, none].set 2 (some (.int r))) μ1 = some (.bl false, μ1) := by
      simp [len_lg, b2, eqD, hne, hn]
    have h3 : (eL (callF pg (k + 1) "_law_take") (lAll [(eVar 0), (eL lenD (lAll [(eVar 1)]))])) ([some (.ref b), some (lgD es), none, none, none, none, none, none, none].set 2 (some (.int r))) μ1 = some (.int (a : Int), μ2) := by
      simp [len_lg, t2]
    have x1 : ∀ μ, ixD (lgD es) (.int (a : Int)) μ = some (enD e, μ) := fun μ => ix_fl (by rw [List.getElem?_map, hee]; rfl) μ
    rw [h2, kSif_f, s_nil, kS_n, s_cons, s_set, h3, kSet_, kS_n, s_cons, s_asg]
    obtain ⟨ρ, hρ⟩ : ∃ ρ : Fr, ρ = [some (.ref b), some (lgD es), some (.int r), some (.int (a : Int)), none, some (.int e.s), some (.int e.p), some (.int e.n), some (.str e.t)] := ⟨_, rfl⟩
    have h4 : kAsg (gTup [(gName 5), (gName 6), (gName 7), (gName 8)]) (([some (.ref b), some (lgD es), none, none, none, none, none, none, none].set 2 (some (.int r))).set 3 (some (.int (a : Int)))) ((e2 ixD (eVar 1) (eVar 3)) (([some (.ref b), some (lgD es), none, none, none, none, none, none, none].set 2 (some (.int r))).set 3 (some (.int (a : Int)))) μ2) = some (.nx ρ, μ2) := by
      simp [x1]
      rw [hρ]
      rfl
    rw [h4, kS_n, s_cons, s_set]
    have sz9 : ∀ (ds : List D) (μ : Mu), ds.length ≤ 1000 → flD ds μ = some (.fl ds, μ) := fun ds μ h => if_pos (sz h)
    have szt : ∀ (ds : List D) (μ : Mu), ds.length ≤ 1000 → tupD ds μ = some (.tup ds, μ) := fun ds μ h => if_pos (sz h)
    have hMl : (W.map wiD).length = es.length := by rw [List.length_map, hWl]
    have cutTo : ∀ μ, slD none (some (a : Int)) (lgD es) μ = some (.fl ((W.take a).map wiD), μ) := fun μ => by rw [hD, slTo (by omega), List.map_take]
    have cutFrom : ∀ μ, slD (some ((a : Int) + 1)) none (lgD es) μ = some (.fl ((W.drop (a + 1)).map wiD), μ) := fun μ => by
      rw [hD, show (a : Int) + 1 = ((a + 1 : Nat) : Int) by omega, slFrom (by omega), List.map_drop]
    have cutAt : ∀ μ, slD (some (a : Int)) none (lgD es) μ = some (.fl ((W.drop a).map wiD), μ) := fun μ => by rw [hD, slFrom (by omega), List.map_drop]
    have ad1 : ∀ (j : Nat) (μ : Mu), addD (.fl ((W.take a).map wiD)) (.fl ((W.drop j).map wiD)) μ = some (.fl ((W.take a ++ W.drop j).map wiD), μ) := fun j μ => by
      rw [addFl (by simp only [List.length_map, List.length_take, List.length_drop]; omega), List.map_append]
    have ad2 : ∀ (y : Wi) (μ : Mu), addD (.fl ((W.take a).map wiD)) (.fl [wiD y]) μ = some (.fl ((W.take a ++ [y]).map wiD), μ) := fun y μ => by
      rw [addFl (by simp only [List.length_map, List.length_take, List.length_singleton]; omega), List.map_append]
      rfl
    have ad3 : ∀ (y : Wi) (j : Nat) (μ : Mu), addD (.fl ((W.take a ++ [y]).map wiD)) (.fl ((W.drop j).map wiD)) μ = some (.fl ((W.take a ++ [y] ++ W.drop j).map wiD), μ) := fun y j μ => by
      rw [addFl (by simp only [List.length_map, List.length_append, List.length_take, List.length_drop, List.length_singleton]; omega), ← List.map_append]
    have ad4 : ∀ (y : En) (μ : Mu), addD (lgD es) (.fl [enD y]) μ = some (lgD (es ++ [y]), μ) := fun y μ => add_lg (b := [y]) μ (by rw [List.length_singleton]; omega)
    have so : ∀ (y : En) (μ : Mu), GT y.t → sortedD [lgD (es ++ [y])] μ = some (lgX (.fl ((srtE (es ++ [y])).map Wi.ok)), μ) := fun y μ gy => by
      rw [sorted_en μ (fun e he' => by
        rcases List.mem_append.mp he' with z | z
        · exact (he e z).1
        · rw [List.mem_singleton.mp z]; exact gy.1) (by rw [List.length_append, List.length_singleton]; omega), lg_ok]
    have aS : ∀ μ, addD (.str e.t) (.str "b") μ = some (.str (e.t ++ "b"), μ) := fun μ => by
      show (if e.t.length + ("b" : Str).length ≤ sizeLine then some (D.str (e.t ++ "b"), μ) else none) = _
      rw [if_pos (sz (by rw [show ("b" : Str).length = 1 from by decide]; omega))]
    have cS : ∀ μ, slD none (some 1) (.str e.t) μ = some (.str (cutS e.t none (some 1)), μ) := fun μ => by
      show (if e.t.length ≤ sizeLine then some (D.str (cutS e.t none (some 1)), μ) else none) = _
      rw [if_pos (sz (by omega))]
    have mS : ∀ μ, mulD (.str (cutS e.t none (some 1))) (.int 21) μ = some (.str z21, μ) := fun μ => by
      show (if 2 ≤ (21 : Int) ∧ (21 : Int) ≤ 1000 ∧ 1 ≤ (cutS e.t none (some 1)).length ∧ (cutS e.t none (some 1)).length ≤ 1000 then some (D.str (timesS (cutS e.t none (some 1)) (21 : Int).toNat), μ) else none) = _
      rw [if_pos ⟨by decide, by decide, by rw [cut1_len tl.1]; omega, by rw [cut1_len tl.1]; omega⟩, hz21]
      rfl
    have aI : ∀ (i j : Int) μ, addD (.int i) (.int j) μ = some (.int (i + j), μ) := fun _ _ _ => rfl
    have rv : ∀ μ, revD (lgD es) μ = some (lgX (.fl W.reverse), μ) := fun μ => by
      rw [hD]
      show some (D.fl (W.map wiD).reverse, μ) = _
      rw [← List.map_reverse]
      rfl
    have tp : ∀ μ, tupleD [lgD es] μ = some (lgX (.tp W), μ) := fun μ => by
      rw [hD]
      rfl
    have f0 : lAll [(e2 addD (eSl (eVar 1) oNone (oSome (eVar 3))) (eSl (eVar 1) (oSome (e2 addD (eVar 3) (eCon (.int 1)))) oNone)), (e2 addD (e2 addD (eSl (eVar 1) oNone (oSome (eVar 3))) (eL flD (lAll [(e2 ixD (eVar 1) (eVar 3))]))) (eSl (eVar 1) (oSome (eVar 3)) oNone)), (e1 revD (eVar 1)), (eL tupleD (lAll [(eVar 1)])), (e2 addD (e2 addD (eSl (eVar 1) oNone (oSome (eVar 3))) (eL flD (lAll [(eL tupD (lAll [(eVar 5), (eVar 6), (eVar 7), (e2 addD (eVar 8) (eCon (.str "b")))]))]))) (eSl (eVar 1) (oSome (e2 addD (eVar 3) (eCon (.int 1)))) oNone)), (eL sortedD (lAll [(e2 addD (eVar 1) (eL flD (lAll [(eL tupD (lAll [(e2 addD (eVar 5) (eCon (.int 1))), (eVar 6), (eVar 7), (eVar 8)]))])))])), (eL sortedD (lAll [(e2 addD (eVar 1) (eL flD (lAll [(eL tupD (lAll [(eCon (.int 0)), (eCon (.int 3)), (eCon (.int 998)), (eCon (.str "new"))]))])))])), (e2 addD (e2 addD (eSl (eVar 1) oNone (oSome (eVar 3))) (eL flD (lAll [(eL tupD (lAll [(eVar 5), (eVar 6), (eVar 7), (e2 mulD (eSl (eVar 8) oNone (oSome (eCon (.int 1)))) (eCon (.int 21)))]))]))) (eSl (eVar 1) (oSome (e2 addD (eVar 3) (eCon (.int 1)))) oNone)), (e2 addD (e2 addD (eSl (eVar 1) oNone (oSome (eVar 3))) (eL flD (lAll [(eL flD (lAll [(eVar 5), (eVar 6), (eVar 7), (eVar 8)]))]))) (eSl (eVar 1) (oSome (e2 addD (eVar 3) (eCon (.int 1)))) oNone))] ρ μ2
        = some (xs.map lgX, μ2) := by
      rw [hxs, hρ]
      refine fl_cons ?_ (fl_cons ?_ (fl_cons ?_ (fl_cons ?_ (fl_cons ?_ (fl_cons ?_ (fl_cons ?_ (fl_cons ?_ (fl_cons ?_ rfl))))))))
      · simp only [a_e2, a_sl, a_oN, a_oS, a_con, a_var0, a_varS, kSl_, kSlb_, kSlc_, kO_, k2_, k2b_, cutTo, cutFrom, aI, ad1]
        rfl
      · have := ad2 (.ok e)
        have w : wiD (.ok e) = enD e := rfl
        rw [w] at this
        simp only [a_e2, a_sl, a_oN, a_oS, a_eL, a_cons, a_nil, a_var0, a_varS, kSl_, kSlb_, kSlc_, kO_, k2_, k2b_, kC_, kCb_, kL_, cutTo, cutAt, x1, sz9 _ _ (show ([enD e] : List D).length ≤ 1000 by simp), this, ad3]
        rfl
      · simp [rv]
      · simp [tp]
      · have := ad2 (.ok ⟨e.s, e.p, e.n, e.t ++ "b"⟩)
        have w : wiD (.ok ⟨e.s, e.p, e.n, e.t ++ "b"⟩) = .tup [.int e.s, .int e.p, .int e.n, .str (e.t ++ "b")] := rfl
        rw [w] at this
        simp only [a_e2, a_sl, a_oN, a_oS, a_eL, a_cons, a_nil, a_con, a_var0, a_varS, kSl_, kSlb_, kSlc_, kO_, k2_, k2b_, kC_, kCb_, kL_, cutTo, cutFrom, aS, aI, szt _ _ (show ([.int e.s, .int e.p, .int e.n, .str (e.t ++ "b")] : List D).length ≤ 1000 by simp), sz9 _ _ (show ([.tup [.int e.s, .int e.p, .int e.n, .str (e.t ++ "b")]] : List D).length ≤ 1000 by simp), this, ad3]
        rfl
      · have h5 := ad4 ⟨e.s + 1, e.p, e.n, e.t⟩
        have w : enD ⟨e.s + 1, e.p, e.n, e.t⟩ = .tup [.int (e.s + 1), .int e.p, .int e.n, .str e.t] := rfl
        rw [w] at h5
        simp only [a_e2, a_eL, a_cons, a_nil, a_con, a_var0, a_varS, k2_, k2b_, kC_, kCb_, kL_, aI, szt _ _ (show ([.int (e.s + 1), .int e.p, .int e.n, .str e.t] : List D).length ≤ 1000 by simp), sz9 _ _ (show ([.tup [.int (e.s + 1), .int e.p, .int e.n, .str e.t]] : List D).length ≤ 1000 by simp), h5, so ⟨e.s + 1, e.p, e.n, e.t⟩ _ gte]
      · have h5 := ad4 ⟨0, 3, 998, "new"⟩
        have w : enD ⟨0, 3, 998, "new"⟩ = .tup [.int 0, .int 3, .int 998, .str "new"] := rfl
        rw [w] at h5
        simp only [a_e2, a_eL, a_cons, a_nil, a_con, a_var0, a_varS, k2_, k2b_, kC_, kCb_, kL_, aI, szt _ _ (show ([.int 0, .int 3, .int 998, .str "new"] : List D).length ≤ 1000 by simp), sz9 _ _ (show ([.tup [.int 0, .int 3, .int 998, .str "new"]] : List D).length ≤ 1000 by simp), h5, so ⟨0, 3, 998, "new"⟩ _ ⟨by decide, by decide⟩]
      · have := ad2 (.ok ⟨e.s, e.p, e.n, z21⟩)
        have w : wiD (.ok ⟨e.s, e.p, e.n, z21⟩) = .tup [.int e.s, .int e.p, .int e.n, .str z21] := rfl
        rw [w] at this
        simp only [a_e2, a_sl, a_oN, a_oS, a_eL, a_cons, a_nil, a_con, a_var0, a_varS, kSl_, kSlb_, kSlc_, kO_, k2_, k2b_, kC_, kCb_, kL_, cutTo, cutFrom, cS, mS, aI, szt _ _ (show ([.int e.s, .int e.p, .int e.n, .str z21] : List D).length ≤ 1000 by simp), sz9 _ _ (show ([.tup [.int e.s, .int e.p, .int e.n, .str z21]] : List D).length ≤ 1000 by simp), this, ad3]
        rfl
      · have := ad2 (.bl e)
        have w : wiD (.bl e) = .fl [.int e.s, .int e.p, .int e.n, .str e.t] := rfl
        rw [w] at this
        simp only [a_e2, a_sl, a_oN, a_oS, a_eL, a_cons, a_nil, a_con, a_var0, a_varS, kSl_, kSlb_, kSlc_, kO_, k2_, k2b_, kC_, kCb_, kL_, cutTo, cutFrom, aI, sz9 _ _ (show ([.int e.s, .int e.p, .int e.n, .str e.t] : List D).length ≤ 1000 by simp), sz9 _ _ (show ([.fl [.int e.s, .int e.p, .int e.n, .str e.t]] : List D).length ≤ 1000 by simp), this, ad3]
        rfl
    have hxl : (xs.map lgX).length ≤ 1000 := by rw [List.length_map, hxs]; simp
    rw [a_eL, f0, kL_, sz9 _ _ hxl, kSet_, kS_n, s_cons, s_ret, a_e2]
    have v4 : eVar 4 (ρ.set 4 (some (.fl (xs.map lgX)))) μ2 = some (flX xs, μ2) := by rw [hρ]; rfl
    have v2 : eVar 2 (ρ.set 4 (some (.fl (xs.map lgX)))) μ2 = some (.int r, μ2) := by rw [hρ]; rfl
    rw [v4, k2_, v2, k2b_, hx μ2, kRet_, kS_r]
end G
set_option Elab.async false
set_option linter.all false
set_option maxRecDepth 100000
set_option maxHeartbeats 4000000
/-! M9: holds, the copies, the bag. -/
namespace G
open PySem L2
mutual
theorem eqv_same : ∀ p : PyData, p.canLay0 = true → PyData.eqv p p = true
  | .none, _ => by simp [PyData.eqv]
  | .bool b, _ => by simp [PyData.eqv]
  | .int i, _ => by simp [PyData.eqv]
  | .str x, _ => by simp [PyData.eqv]
  | .list xs, h => by
    rw [PyData.eqv]
    exact eqvAll_same xs (by simpa [PyData.canLay0] using h)
  | .tuple xs, h => by
    rw [PyData.eqv]
    exact eqvAll_same xs (by simpa [PyData.canLay0] using h)
  | .dict _, h => by simp [PyData.canLay0] at h
theorem eqvAll_same : ∀ ps : List PyData, PyData.canLayAll0 ps = true → PyData.eqvAll ps ps = true
  | [], _ => by simp [PyData.eqvAll]
  | p :: ps, h => by
    rw [PyData.canLayAll0, Bool.and_eq_true] at h
    rw [PyData.eqvAll, eqv_same p h.1, eqvAll_same ps h.2]
    rfl
end
def lgP : Lg → PyData
  | .fl ws => .list (ws.map wiP)
  | .tp ws => .tuple (ws.map wiP)
  | .non => .none
theorem okW_of {x : Wi} (h : GW x) : okW x = true := by
  cases x with
  | ok e => exact h.1
  | bl e => exact h.1
  | _ => rfl
theorem dat_lgX (μ : Mu) (n : Nat) (x : Lg) : dat μ (n + 2) (lgX x) = some (lgP x) := by
  cases x with
  | fl ws =>
    show (mapO (dat μ (n + 1)) (ws.map wiD)).map PyData.list = _
    rw [mapO_map (h := wiP) (fun x => dat_wi μ n x)]
    rfl
  | tp ws =>
    show (mapO (dat μ (n + 1)) (ws.map wiD)).map PyData.tuple = _
    rw [mapO_map (h := wiP) (fun x => dat_wi μ n x)]
    rfl
  | non => rfl
theorem lay_lg {x : Lg} (h : GL x) : (lgP x).canLay0 = true := by
  cases x with
  | fl ws =>
    rw [lgP, PyData.canLay0]
    exact lay_all fun p hp => by
      obtain ⟨w, hw, rfl⟩ := List.mem_map.mp hp
      exact lay_wi (okW_of (h.1 w hw))
  | tp ws =>
    rw [lgP, PyData.canLay0]
    exact lay_all fun p hp => by
      obtain ⟨w, hw, rfl⟩ := List.mem_map.mp hp
      exact lay_wi (okW_of (h.1 w hw))
  | non => rw [lgP, PyData.canLay0]
theorem dep_lg (x : Lg) : (lgP x).depth ≤ 2 := by
  have : ∀ ws : List Wi, PyData.depthAll (ws.map wiP) ≤ 1 := fun ws => dep_all fun p hp => by
    obtain ⟨w, _, rfl⟩ := List.mem_map.mp hp
    exact dep_wi w
  cases x with
  | fl ws =>
    rw [lgP, PyData.depth]
    have := this ws
    omega
  | tp ws =>
    rw [lgP, PyData.depth]
    have := this ws
    omega
  | non => rw [lgP, PyData.depth]; omega
theorem same3 (μ : Mu) {x y z : Lg} (hx : GL x) (hy : GL y) (hz : GL z) : cNe (.fl [lgX x, lgX y, lgX z]) (.fl [lgX x, lgX y, lgX z]) μ = some (.bl false, μ) := by
  have hd : dat μ deep (.fl [lgX x, lgX y, lgX z]) = some (.list [lgP x, lgP y, lgP z]) := by
    show (mapO (dat μ 39) [lgX x, lgX y, lgX z]).map PyData.list = _
    simp only [mapO, show dat μ 39 (lgX x) = _ from dat_lgX μ 37 x, show dat μ 39 (lgX y) = _ from dat_lgX μ 37 y, show dat μ 39 (lgX z) = _ from dat_lgX μ 37 z, Option.bind_some, Option.map_some]
  have ly : PyData.canLayAll0 [lgP x, lgP y, lgP z] = true := by simp [PyData.canLayAll0, lay_lg hx, lay_lg hy, lay_lg hz]
  have sh : SeqAt.shaped (.list [lgP x, lgP y, lgP z]) = true := shaped_list (k := 2) (fun p hp => by
    simp only [List.mem_cons, List.not_mem_nil, or_false] at hp
    rcases hp with rfl | rfl | rfl
    · exact lay_lg hx
    · exact lay_lg hy
    · exact lay_lg hz) (fun p hp => by
    simp only [List.mem_cons, List.not_mem_nil, or_false] at hp
    rcases hp with rfl | rfl | rfl <;> exact dep_lg _) (by omega)
  have e : cNe (.fl [lgX x, lgX y, lgX z]) (.fl [lgX x, lgX y, lgX z]) μ = b2 (((dat μ deep (.fl [lgX x, lgX y, lgX z])).bind fun p => (dat μ deep (.fl [lgX x, lgX y, lgX z])).bind fun q => if SeqAt.shaped p && SeqAt.shaped q then some (p.eqv q) else none).map (!·)) μ := rfl
  rw [e, hd]
  simp only [Option.bind_some, sh, Bool.and_self, if_true]
  rw [PyData.eqv, eqvAll_same _ ly]
  rfl
theorem copy_ok (k : Nat) (μ : Mu) (x : Lg) : callF pg (k + 1) "_law_copy" [lgX x] μ = some (lgX x, μ) := by
  rw [c__law_copy]
  refine pure_rt (by rfl) (clo_lg x) ?_
  cases x with
  | fl ws => rfl
  | tp ws => rfl
  | non => rfl
theorem holds_joined (k : Nat) (μ : Mu) {x y z : Lg} (hx : SL x) (hy : SL y) (hz : SL z) : callF pg (k + 5) "holds" [.tup [.str "joined", lgX x, lgX y, lgX z], .non] μ = some (.bl (claimB x y z), μ) := by
  rw [c_holds]
  refine pure_rt (by rfl) (by simp [clD]) ?_
  have hst : start i_holds.N [.tup [.str "joined", lgX x, lgX y, lgX z], .non] = [some (.tup [.str "joined", lgX x, lgX y, lgX z]), some .non, none] := rfl
  unfold b_holds
  rw [hst, s_cons, s_if]
  have h1 : (eOr (eNot (e1 (isiD "tuple") (eVar 0))) (eOr (e2 cEq (eL lenD (lAll [(eVar 0)])) (eCon (.int 0))) (eNot (e1 (isiD "str") (e2 ixD (eVar 0) (eCon (.int 0))))))) [some (.tup [.str "joined", lgX x, lgX y, lgX z]), some .non, none] μ = some (.bl false, μ) := rfl
  have h2 : (eL tupD (lAll [(e2 ixD (eVar 0) (eCon (.int 0))), (eL lenD (lAll [(eVar 0)]))])) [some (.tup [.str "joined", lgX x, lgX y, lgX z]), some .non, none] μ = some (.tup [.str "joined", .int 4], μ) := by
    have : ∀ (ds : List D) (μ : Mu), ds.length ≤ 1000 → tupD ds μ = some (.tup ds, μ) := fun ds μ h => if_pos (sz h)
    have i0 : ∀ μ, ixD (.tup [.str "joined", lgX x, lgX y, lgX z]) (.int 0) μ = some (.str "joined", μ) := fun μ => rfl
    have l0 : ∀ μ, lenD [.tup [.str "joined", lgX x, lgX y, lgX z]] μ = some (.int 4, μ) := fun μ => rfl
    simp [i0, l0, this]
  obtain ⟨ρ, hρ⟩ : ∃ ρ : Fr, ρ = [some (.tup [.str "joined", lgX x, lgX y, lgX z]), some .non, some (.tup [.str "joined", .int 4])] := ⟨_, rfl⟩
  have ne : ∀ (s : Str) (j : Int), (∀ μ, eqD μ (.tup [.str "joined", .int 4]) (.tup [.str s, .int j]) = some false) → ∀ A B, sIf (e2 cEq (eVar 2) (eL tupD (lAll [(eCon (.str s)), (eCon (.int j))]))) A B ρ μ = B ρ μ := fun s j h A B => by
    have : (e2 cEq (eVar 2) (eL tupD (lAll [(eCon (.str s)), (eCon (.int j))]))) ρ μ = some (.bl false, μ) := by
      have t : ∀ (ds : List D) (μ : Mu), ds.length ≤ 1000 → tupD ds μ = some (.tup ds, μ) := fun ds μ h => if_pos (sz h)
      have e : ∀ μ, cEq (.tup [.str "joined", .int 4]) (.tup [.str s, .int j]) μ = some (.bl false, μ) := fun μ => by
        show b2 (eqD μ _ _) μ = _
        rw [h]
        rfl
      rw [hρ]
      simp only [a_e2, a_eL, a_cons, a_nil, a_con, a_var0, a_varS, k2_, k2b_, kC_, kCb_, kL_, t [.str s, .int j] _ (by simp), e]
    rw [s_if, this, kSif_f]
  have q1 : ∀ μ : Mu, eqD μ (.tup [.str "joined", .int 4]) (.tup [.str "rest", .int 4]) = some false := fun μ => by kernel_rfl
  have q2 : ∀ μ : Mu, eqD μ (.tup [.str "joined", .int 4]) (.tup [.str "heard", .int 6]) = some false := fun μ => by kernel_rfl
  have q3 : ∀ μ : Mu, eqD μ (.tup [.str "joined", .int 4]) (.tup [.str "still", .int 5]) = some false := fun μ => by kernel_rfl
  have q4 : ∀ μ : Mu, eqD μ (.tup [.str "joined", .int 4]) (.tup [.str "fewest", .int 4]) = some false := fun μ => by kernel_rfl
  have q5 : ∀ μ : Mu, eqD μ (.tup [.str "joined", .int 4]) (.tup [.str "joined", .int 4]) = some true := fun μ => by kernel_rfl
  have h5 : (e2 cEq (eVar 2) (eL tupD (lAll [(eCon (.str "joined")), (eCon (.int 4))]))) ρ μ = some (.bl true, μ) := by
    have t : ∀ (ds : List D) (μ : Mu), ds.length ≤ 1000 → tupD ds μ = some (.tup ds, μ) := fun ds μ h => if_pos (sz h)
    have e : ∀ μ, cEq (.tup [.str "joined", .int 4]) (.tup [.str "joined", .int 4]) μ = some (.bl true, μ) := fun μ => by
      show b2 (eqD μ _ _) μ = _
      rw [q5]
      rfl
    rw [hρ]
    simp only [a_e2, a_eL, a_cons, a_nil, a_con, a_var0, a_varS, k2_, k2b_, kC_, kCb_, kL_, t [.str "joined", .int 4] _ (by simp), e]
  rw [h1, kSif_f, s_nil, kS_n, s_cons, s_set, h2, kSet_]
  change kS _ (some (.nx [some (.tup [.str "joined", lgX x, lgX y, lgX z]), some .non, some (.tup [.str "joined", .int 4])], μ)) = _
  rw [← hρ, kS_n, s_cons, ne _ _ q1, s_nil, kS_n, s_cons, ne _ _ q2, s_nil, kS_n, s_cons, ne _ _ q3, s_nil, kS_n, s_cons, ne _ _ q4, s_nil, kS_n, s_cons, s_if, h5, kSif_t, s_cons, s_ret, a_and]
  have h6 : (e1 isNoneD (eVar 1)) ρ μ = some (.bl true, μ) := by rw [hρ]; rfl
  have h7 : (eL (callF pg (k + 4) "are_joined") (lAll [(e2 ixD (eVar 0) (eCon (.int 1))), (e2 ixD (eVar 0) (eCon (.int 2))), (e2 ixD (eVar 0) (eCon (.int 3)))])) ρ μ = callF pg (k + 4) "are_joined" [lgX x, lgX y, lgX z] μ := by rw [hρ]; rfl
  rw [h6, kAnd_t, h7, joined_ok k μ hx.1 hy.1 hz.1 hx.2 hy.2 hz.2, kRet_, kS_r, kS_r]
theorem holds_paper (k : Nat) (μ : Mu) (x y z : Lg) : callF pg (k + 1) "holds" [.tup [.str "joined", lgX x, lgX y, lgX z], .tup []] μ = some (.bl false, μ) := by
  rw [c_holds]
  refine pure_rt (by rfl) (by simp [clD]) ?_
  kernel_rfl
theorem holds_two (k : Nat) (μ : Mu) (x y : Lg) : callF pg (k + 1) "holds" [.tup [.str "joined", lgX x, lgX y], .non] μ = some (.bl false, μ) := by
  rw [c_holds]
  refine pure_rt (by rfl) (by simp [clD]) ?_
  kernel_rfl
/-- the bag -/
theorem bag_ok (k : Nat) (μ : Mu) (ns : List Int) {j : Int} (h0 : 0 ≤ j) (h1 : j < 8) : ∃ μ', callF pg (k + 1) "_law_bag" [.sc (ns.map .int), .int j] μ = some (.ref μ.length, μ') ∧ Bg μ' μ.length 100000 := by
  rw [c__law_bag]
  have hl : ∀ μ : Mu, lenD [.sc (ns.map D.int)] μ = some (.int ns.length, μ) := fun μ => by
    show some (D.int ((ns.map D.int).length : Nat), μ) = _
    rw [List.length_map]
  have ok1 : okInt (9973 : Int) = true := by decide
  have ok2 : okInt j = true := okInt_of h0 (by omega)
  have ok3 : okInt (101 : Int) = true := by decide
  have ok4 : okInt (37 : Int) = true := by decide
  have pw : ∀ μ, powD (.int 10) (.int 18) μ = some (.int 1000000000000000000, μ) := fun μ => by kernel_rfl
  have fin : ∀ c : Int, ∃ d : Int, 0 ≤ d ∧ (eL newD (lAll [(e2 mulD (eL absD (lAll [(eVar 2)])) (eL intD (lAll [(e2 cGe (eL absD (lAll [(eVar 2)])) (e2 powD (eCon (.int 10)) (eCon (.int 18))))]))), (e2 addD (e2 modD (eVar 2) (eCon (.int 2147483647))) (e2 mulD (eCon (.int 37)) (eVar 1))), (eCon (.int 0))])) [some (.sc (ns.map .int)), some (.int j), some (.int c)] μ
      = some (.ref μ.length, μ ++ [.lst [.int d, .int (c % 2147483647 + 37 * j), .int 0]]) := fun c => by
    have ab : ∀ μ, absD [.int c] μ = some (.int (if c < 0 then -c else c), μ) := fun μ => rfl
    have aI : ∀ (i j : Int) μ, addD (.int i) (.int j) μ = some (.int (i + j), μ) := fun _ _ _ => rfl
    have mo : ∀ μ, modD (.int c) (.int 2147483647) μ = some (.int (c % 2147483647), μ) := fun μ => rfl
    have mu : ∀ μ, mulD (.int 37) (.int j) μ = some (.int (37 * j), μ) := fun μ => by
      show (if okInt 37 || okInt j then some (D.int (37 * j), μ) else none) = _
      rw [ok4]
      rfl
    obtain ⟨q, hq⟩ : ∃ q : Int, q = if c < 0 then -c else c := ⟨_, rfl⟩
    have q0 : 0 ≤ q := by rw [hq]; split <;> omega
    have ge : ∀ μ, cGe (.int q) (.int 1000000000000000000) μ = some (.bl (decide ((1000000000000000000 : Int) ≤ q)), μ) := fun μ => rfl
    obtain ⟨t, ht⟩ : ∃ t : Int, t = if decide ((1000000000000000000 : Int) ≤ q) = true then 1 else 0 := ⟨_, rfl⟩
    have t0 : 0 ≤ t ∧ t ≤ 1 := by rw [ht]; split <;> omega
    have iD : ∀ μ, intD [.bl (decide ((1000000000000000000 : Int) ≤ q))] μ = some (.int t, μ) := fun μ => by rw [ht]; rfl
    have mq : ∀ μ, mulD (.int q) (.int t) μ = some (.int (q * t), μ) := fun μ => by
      show (if okInt q || okInt t then some (D.int (q * t), μ) else none) = _
      rw [okInt_of (i := t) t0.1 (by omega), Bool.or_true]
      rfl
    have nw : ∀ (ds : List D) (μ : Mu), ds.length ≤ 1000 → newD ds μ = some (.ref μ.length, μ ++ [.lst ds]) := fun ds μ h => if_pos (sz h)
    refine ⟨q * t, Int.mul_nonneg q0 t0.1, ?_⟩
    rw [← hq] at ab
    simp only [a_e2, a_eL, a_cons, a_nil, a_con, a_var0, a_varS, k2_, k2b_, kC_, kCb_, kL_, ab, pw, ge, iD, mq, mo, mu, aI, nw [.int (q * t), .int (c % 2147483647 + 37 * j), .int 0] _ (by simp)]
  have bg : ∀ (c d : Int), 0 ≤ d → Bg (μ ++ [.lst [.int d, .int (c % 2147483647 + 37 * j), .int 0]]) μ.length 100000 := fun c d hd => by
    have e1 : 0 ≤ c % 2147483647 := Int.emod_nonneg _ (by decide)
    have e2 : c % 2147483647 < 2147483647 := Int.emod_lt_of_pos _ (by decide)
    exact ⟨d, c % 2147483647 + 37 * j, 0, by simp, hd, by omega, by omega, by omega, by omega⟩
  have s1 : (e2 addD (e2 addD (e2 mulD (e2 mulD (eCon (.int 9973)) (eVar 1)) (eVar 1)) (e2 mulD (eCon (.int 101)) (eVar 1))) (eCon (.int 17))) [some (.sc (ns.map .int)), some (.int j), none] μ = some (.int (9973 * j * j + 101 * j + 17), μ) := by
    simp [mulD, addD, ok1, ok2, ok3]
  have hst : start i__law_bag.N [.sc (ns.map .int), .int j] = [some (.sc (ns.map .int)), some (.int j), none] := rfl
  by_cases hj : j < ns.length
  · obtain ⟨c, hc⟩ : ∃ c, ns[j.toNat]? = some c := ⟨_, List.getElem?_eq_getElem (show j.toNat < ns.length by omega)⟩
    obtain ⟨d, d0, e⟩ := fin c
    refine ⟨_, ?_, bg c d d0⟩
    have ix : ∀ μ, ixD (.sc (ns.map D.int)) (.int j) μ = some (.int c, μ) := fun μ => by
      show (L2.atI (ns.map D.int) j).map _ = _
      unfold L2.atI L2.ixN
      rw [if_pos h0, if_pos (by rw [List.length_map]; exact hj)]
      simp [hc]
    have hif : (e2 cLt (eVar 1) (eL lenD (lAll [(eVar 0)]))) [some (.sc (ns.map .int)), some (.int j), some (.int (9973 * j * j + 101 * j + 17))] μ = some (.bl true, μ) := by
      have : ∀ μ, cLt (.int j) (.int ns.length) μ = some (.bl true, μ) := fun μ => by
        show some (D.bl (decide (j < ns.length)), μ) = _
        rw [decide_eq_true hj]
      simp only [a_e2, a_eL, a_cons, a_nil, a_var0, a_varS, k2_, k2b_, kC_, kCb_, kL_, hl, this]
    unfold runFn b__law_bag
    rw [if_pos (by rfl), hst, s_cons, s_set, s1, kSet_]
    simp only [List.set_cons_succ, List.set_cons_zero]
    rw [kS_n, s_cons, s_if, hif, kSif_t, s_cons, s_set, a_e2, a_var0, k2_, a_varS, a_var0, k2b_, ix, kSet_]
    simp only [List.set_cons_succ, List.set_cons_zero]
    rw [kS_n, s_nil, kS_n, s_cons, s_ret, e, kRet_, kS_r]
    rfl
  · obtain ⟨d, d0, e⟩ := fin (9973 * j * j + 101 * j + 17)
    refine ⟨_, ?_, bg (9973 * j * j + 101 * j + 17) d d0⟩
    have hif : (e2 cLt (eVar 1) (eL lenD (lAll [(eVar 0)]))) [some (.sc (ns.map .int)), some (.int j), some (.int (9973 * j * j + 101 * j + 17))] μ = some (.bl false, μ) := by
      have : ∀ μ, cLt (.int j) (.int ns.length) μ = some (.bl false, μ) := fun μ => by
        show some (D.bl (decide (j < ns.length)), μ) = _
        rw [decide_eq_false hj]
      simp only [a_e2, a_eL, a_cons, a_nil, a_var0, a_varS, k2_, k2b_, kC_, kCb_, kL_, hl, this]
    unfold runFn b__law_bag
    rw [if_pos (by rfl), hst, s_cons, s_set, s1, kSet_]
    simp only [List.set_cons_succ, List.set_cons_zero]
    rw [kS_n, s_cons, s_if, hif, kSif_f, s_nil, kS_n, s_cons, s_ret, e, kRet_, kS_r]
    rfl
end G
set_option Elab.async false
set_option linter.all false
set_option maxRecDepth 100000
set_option maxHeartbeats 4000000
/-! M10: the law. -/
namespace G
open PySem L2
abbrev Ow := Option D
def someTurn (Φ : Calls) : MS := sAll [sSet 8 (eL (Φ "_law_due") (lAll [(eVar 4), (eVar 5), (eVar 7)])),
    sSet 9 (eL flD (lAll [(eL (Φ "_law_copy") (lAll [(eVar 4)])), (eL (Φ "_law_copy") (lAll [(eVar 5)])), (eL (Φ "_law_copy") (lAll [(eVar 7)]))])),
    sSet 10 (eL (Φ "holds") (lAll [(eL tupD (lAll [(eCon (.str "joined")), (e2 ixD (eVar 9) (eCon (.int 0))), (e2 ixD (eVar 9) (eCon (.int 1))), (e2 ixD (eVar 9) (eCon (.int 2)))])), (eCon .non)])),
    sIf (eOr (eNot (e1 (isiD "bool") (eVar 10))) (eOr (e2 cNe (eVar 10) (eVar 8)) (e2 cNe (eVar 9) (eL flD (lAll [(eVar 4), (eVar 5), (eVar 7)]))))) (sAll [sRet (eCon (.bl false))]) (sAll [])]
theorem flS (ds : List D) (μ : Mu) (h : ds.length ≤ 1000) : flD ds μ = some (.fl ds, μ) := if_pos (sz h)
theorem tupS (ds : List D) (μ : Mu) (h : ds.length ≤ 1000) : tupD ds μ = some (.tup ds, μ) := if_pos (sz h)
theorem neB (a b : Bool) (μ : Mu) : cNe (.bl a) (.bl b) μ = some (.bl (!decide (a = b)), μ) := rfl
theorem some_turn (k : Nat) (μ : Mu) {x y z : Lg} (hx : SL x) (hy : SL y) (hz : SL z) (w0 w1 w2 w3 w6 w8 w9 w10 w11 w12 : Ow) :
    ∃ v8 v9 v10, someTurn (callF pg (k + 5)) [w0, w1, w2, w3, some (lgX x), some (lgX y), w6, some (lgX z), w8, w9, w10, w11, w12] μ = some (.nx [w0, w1, w2, w3, some (lgX x), some (lgX y), w6, some (lgX z), v8, v9, v10, w11, w12], μ) := by
  have hdue : ∀ μ, callF pg (k + 5) "_law_due" [lgX x, lgX y, lgX z] μ = some (.bl (claimB x y z), μ) := fun μ => due_ok (k + 3) μ hx.1 hy.1 hz.1 hx.2 hy.2 hz.2
  have hcp : ∀ (v : Lg) μ, callF pg (k + 5) "_law_copy" [lgX v] μ = some (lgX v, μ) := fun v μ => copy_ok (k + 4) μ v
  have hh : ∀ μ, callF pg (k + 5) "holds" [.tup [.str "joined", lgX x, lgX y, lgX z], .non] μ = some (.bl (claimB x y z), μ) := fun μ => holds_joined k μ hx hy hz
  refine ⟨some (.bl (claimB x y z)), some (.fl [lgX x, lgX y, lgX z]), some (.bl (claimB x y z)), ?_⟩
  have f3 := fun μ => flS [lgX x, lgX y, lgX z] μ (by simp)
  have t4 := fun μ => tupS [.str "joined", lgX x, lgX y, lgX z] μ (by simp)
  have i0 : ∀ μ, ixD (.fl [lgX x, lgX y, lgX z]) (.int 0) μ = some (lgX x, μ) := fun μ => ix_fl (i := 0) rfl μ
  have i1 : ∀ μ, ixD (.fl [lgX x, lgX y, lgX z]) (.int 1) μ = some (lgX y, μ) := fun μ => ix_fl (i := 1) rfl μ
  have i2 : ∀ μ, ixD (.fl [lgX x, lgX y, lgX z]) (.int 2) μ = some (lgX z, μ) := fun μ => ix_fl (i := 2) rfl μ
  have ib : ∀ (b : Bool) μ, isiD "bool" (.bl b) μ = some (.bl true, μ) := fun b μ => rfl
  have s3 := fun μ => same3 μ hx.1 hy.1 hz.1
  generalize claimB x y z = c at *
  have nb : ∀ μ, cNe (.bl c) (.bl c) μ = some (.bl false, μ) := fun μ => by rw [neB]; simp
  unfold someTurn
  simp only [s_cons, s_nil, s_set, s_if, s_ret, kS_n, kS_r, kSet_, kSif_t, kSif_f, kRet_, a_eL, a_e1, a_e2, a_cons, a_nil, a_con, a_var0, a_varS, a_or, a_not, kOr_t, kOr_f, k1_, k2_, k2b_, kC_, kCb_, kL_, notD_, hdue, hcp, f3, List.set_cons_succ, List.set_cons_zero, i0, i1, i2, t4, hh, ib, nb, s3, Bool.not_true, Bool.not_false]
theorem some_for (k : Nat) (μ : Mu) {x y : Lg} (hx : SL x) (hy : SL y) (w0 w1 w2 w3 w6 w11 w12 : Ow) : ∀ (zs : List Lg) (w7 w8 w9 w10 : Ow), (∀ z ∈ zs, SL z) →
    ∃ v7 v8 v9 v10, forL [] (gName 7) (someTurn (callF pg (k + 5))) (zs.map lgX) [w0, w1, w2, w3, some (lgX x), some (lgX y), w6, w7, w8, w9, w10, w11, w12] μ = some (.nx [w0, w1, w2, w3, some (lgX x), some (lgX y), w6, v7, v8, v9, v10, w11, w12], μ)
  | [], w7, w8, w9, w10, _ => ⟨w7, w8, w9, w10, rfl⟩
  | z :: zs, w7, w8, w9, w10, h => by
    obtain ⟨v8, v9, v10, e⟩ := some_turn k μ hx hy (h z (List.mem_cons_self ..)) w0 w1 w2 w3 w6 w8 w9 w10 w11 w12
    obtain ⟨u7, u8, u9, u10, e2⟩ := some_for k μ hx hy w0 w1 w2 w3 w6 w11 w12 zs (some (lgX z)) v8 v9 v10 fun y hy => h y (List.mem_cons_of_mem _ hy)
    refine ⟨u7, u8, u9, u10, ?_⟩
    have hg : gName 7 (lgX z) [w0, w1, w2, w3, some (lgX x), some (lgX y), w6, w7, w8, w9, w10, w11, w12] = some [w0, w1, w2, w3, some (lgX x), some (lgX y), w6, some (lgX z), w8, w9, w10, w11, w12] := rfl
    rw [List.map_cons, forL, if_pos (by rfl : okSrc μ [] = true), hg, Option.bind_some, e, Option.bind_some]
    exact e2
/-! ### the entries -/
def QE (d y : D) : Prop := ∃ e : En, y = enD e ∧ okT e.t = true ∧ vE e = true ∧ d = .int e.n
theorem kept_en : ∀ {items ds : List D}, Kept QE true items ds → ∃ es : List En, ds = es.map enD ∧ (∀ e ∈ es, okT e.t = true ∧ vE e = true) ∧ items = es.map fun e => D.int e.n
  | _, _, .nil => ⟨[], rfl, fun _ z => (by cases z), rfl⟩
  | _, _, .keep ⟨e, e1, e2, e3, e4⟩ h => by
    obtain ⟨es, h1, h2, h3⟩ := kept_en h
    refine ⟨e :: es, by rw [e1, h1]; rfl, fun x hx => ?_, by rw [e4, h3]; rfl⟩
    rcases List.mem_cons.mp hx with rfl | hx
    · exact ⟨e2, e3⟩
    · exact h2 x hx
  | _, _, .drop z _ => nomatch z
theorem kept_sub : ∀ {items ds : List D}, Kept (fun d y => y = d) false items ds → ds.Sublist items
  | _, _, .nil => List.Sublist.refl _
  | _, _, .keep e h => by
    rw [e]
    exact (kept_sub h).cons₂ _
  | _, _, .drop _ h => (kept_sub h).cons _
theorem sub_en {es : List En} {ds : List D} (h : ds.Sublist (es.map enD)) : ∃ sub : List En, ds = sub.map enD ∧ sub.Sublist es := by
  obtain ⟨l, h1, h2⟩ := List.sublist_map_iff.mp h
  exact ⟨l, h2, h1⟩
theorem rng_nodup (n : Nat) : (rngL 0 n).Nodup := by
  unfold rngL
  refine List.Pairwise.map _ (fun a b h e => ?_) (List.nodup_range (n := n))
  simp only [D.int.injEq] at e
  omega
theorem pn_nodup {es : List En} (h : (es.map fun e => D.int e.n).Nodup) : (es.map pnD).Nodup := by
  rw [List.Nodup, List.pairwise_map] at h ⊢
  refine h.imp fun {a b} h e => h ?_
  simp only [pnD, D.tup.injEq, List.cons.injEq, D.int.injEq, and_true] at e
  rw [e.2]
theorem nodup_of_pn {es : List En} (h : (es.map pnD).Nodup) : es.Nodup := by
  rw [List.Nodup, List.pairwise_map] at h
  exact h.imp fun {a b} h e => h (by rw [e])
/-- right entries of different numbers -/
structure Es (es : List En) : Prop where
  ok : ∀ e ∈ es, okT e.t = true ∧ vE e = true
  pn : (es.map pnD).Nodup
  len : es.length ≤ 12
theorem Es.sub {es sub : List En} (h : Es es) (s : sub.Sublist es) : Es sub := ⟨fun e he => h.ok e (s.subset he), List.Nodup.sublist (s.map pnD) h.pn, Nat.le_trans s.length_le h.len⟩
theorem Es.srt {es : List En} (h : Es es) : Es (srtE es) := ⟨fun e he => h.ok e ((srt_perm es).mem_iff.mp he), ((srt_perm es).map pnD).nodup_iff.mpr h.pn, by rw [(srt_perm es).length_eq]; exact h.len⟩
theorem Es.sl {es : List En} (h : Es es) : SL (.fl (es.map Wi.ok)) := sl_fl (fun x hx => by
  obtain ⟨e, he, rfl⟩ := List.mem_map.mp hx
  exact gt_v (h.ok e he).1 (h.ok e he).2) (by rw [List.length_map]; have := h.len; omega)
theorem Es.self {es : List En} (h : Es es) : claimB (.fl ((srtE es).map Wi.ok)) (.fl ((srtE es).map Wi.ok)) (.fl ((srtE es).map Wi.ok)) = true := by
  have g : GLog (srtE es) := ⟨fun e he => gt_v (h.srt.ok e he).1 (h.srt.ok e he).2, fun e he => (h.srt.ok e he).2, srt_rise (nodup_of_pn h.pn), by have := h.srt.len; omega⟩
  have hj : joinB (srtE es) (srtE es) (srtE es) = true := by
    simp only [joinB, Bool.and_eq_true, List.all_eq_true, decide_eq_true_eq, Bool.or_eq_true]
    exact ⟨h.srt.pn, fun e he => he, fun e he => he, fun e he => .inl he⟩
  simp [claimB, isLog_of g, asE_ok, hj]
theorem Es.sorted {es : List En} (h : Es es) (μ : Mu) : sortedD [.fl (es.map enD)] μ = some (lgX (.fl ((srtE es).map Wi.ok)), μ) := by
  rw [lg_ok]
  exact sorted_en μ (fun e he => (h.ok e he).1) (by have := h.len; omega)
def oneTurn (Φ : Calls) : MS := sAll [sSet 2 (eL (Φ "_law_bag") (lAll [(eVar 0), (eVar 1)])),
    sSet 3 (eComp (iRng (lAll [(eL (Φ "_law_take") (lAll [(eVar 2), (eCon (.int 13))]))])) (gName 11) [11] (eCon (.bl true)) (eL (Φ "_law_entry") (lAll [(eVar 2), (eVar 11)])) false),
    sSet 4 (eL sortedD (lAll [(eComp (iVal (eVar 3)) (gName 12) [12] (e2 cEq (eL (Φ "_law_take") (lAll [(eVar 2), (eCon (.int 2))])) (eCon (.int 0))) (eVar 12) false)])),
    sSet 5 (eL sortedD (lAll [(eComp (iVal (eVar 3)) (gName 12) [12] (eOr (e2 cNi (eVar 12) (eVar 4)) (e2 cEq (eL (Φ "_law_take") (lAll [(eVar 2), (eCon (.int 3))])) (eCon (.int 0)))) (eVar 12) false)])),
    sIf (e2 cEq (eL (Φ "_law_take") (lAll [(eVar 2), (eCon (.int 4))])) (eCon (.int 0))) (sAll [sSet 5 (eL (Φ "_law_odd") (lAll [(eVar 2), (eVar 5)]))]) (sAll []),
    sSet 6 (eL sortedD (lAll [(eVar 3)])),
    sFor (iVal (eL flD (lAll [(eVar 6), (eL (Φ "_law_odd") (lAll [(eVar 2), (eVar 6)])), (eL (Φ "_law_odd") (lAll [(eVar 2), (eVar 6)])), (eVar 6)]))) (gName 7) (someTurn Φ),
    sIf (eOr (e2 cNe (eL (Φ "holds") (lAll [(eL tupD (lAll [(eCon (.str "joined")), (eVar 4), (eVar 4), (eVar 4)])), (eL tupD (lAll []))])) (eCon (.bl false))) (e2 cNe (eL (Φ "holds") (lAll [(eL tupD (lAll [(eCon (.str "joined")), (eVar 4), (eVar 4)])), (eCon .non)])) (eCon (.bl false)))) (sAll [sRet (eCon (.bl false))]) (sAll []),
    sIf (e2 cNe (eL (Φ "holds") (lAll [(eL tupD (lAll [(eCon (.str "joined")), (eVar 4), (eVar 4), (eVar 4)])), (eCon .non)])) (eCon (.bl true))) (sAll [sRet (eCon (.bl false))]) (sAll [])]
theorem eqI0 (r : Int) (μ : Mu) : cEq (.int r) (.int 0) μ = some (.bl (decide (r = 0)), μ) := rfl
theorem one_turn (k : Nat) (μ : Mu) (ns : List Int) {j : Int} (h0 : 0 ≤ j) (h1 : j < 8) (w2 w3 w4 w5 w6 w7 w8 w9 w10 w11 w12 : Ow) :
    ∃ v2 v3 v4 v5 v6 v7 v8 v9 v10 v11 v12 μ', oneTurn (callF pg (k + 5)) [some (.sc (ns.map .int)), some (.int j), w2, w3, w4, w5, w6, w7, w8, w9, w10, w11, w12] μ = some (.nx [some (.sc (ns.map .int)), some (.int j), v2, v3, v4, v5, v6, v7, v8, v9, v10, v11, v12], μ') := by
  obtain ⟨S, hS⟩ : ∃ S, S = D.sc (ns.map .int) := ⟨_, rfl⟩
  -- the bag
  obtain ⟨μ1, hb, bg⟩ := bag_ok (k + 4) μ ns h0 h1
  have hb : callF pg (k + 5) "_law_bag" [S, .int j] μ = some (.ref μ.length, μ1) := by rw [hS]; exact hb
  obtain ⟨b, hbb⟩ : ∃ b, b = μ.length := ⟨_, rfl⟩
  rw [← hbb] at hb bg
  have tk : ∀ {μ : Mu} {m : Nat} {q : Int}, Bg μ b (m + 1) → 1 ≤ q → q < 1000000 → ∃ (r : Int) (μ' : Mu), callF pg (k + 5) "_law_take" [.ref b, .int q] μ = some (.int r, μ') ∧ 0 ≤ r ∧ r < q ∧ Ch μ b m μ' := fun h h1 h2 => take_ok (k + 4) h h1 h2
  -- the entries
  obtain ⟨r, μ2, t1, r0, r1, ch2⟩ := tk (q := 13) (bg.le (show 99999 + 1 ≤ 100000 by omega)) (by decide) (by decide)
  have e1 : eComp (iRng (lAll [(eL (callF pg (k + 5) "_law_take") (lAll [(eVar 2), (eCon (.int 13))]))])) (gName 11) [11] (eCon (.bl true)) (eL (callF pg (k + 5) "_law_entry") (lAll [(eVar 2), (eVar 11)])) false [some S, some (.int j), some (.ref b), w3, w4, w5, w6, w7, w8, w9, w10, w11, w12] μ1 = eComp (iRng (lAll [(eL (callF pg (k + 5) "_law_take") (lAll [(eVar 2), (eCon (.int 13))]))])) (gName 11) [11] (eCon (.bl true)) (eL (callF pg (k + 5) "_law_entry") (lAll [(eVar 2), (eVar 11)])) false [some S, some (.int j), some (.ref b), w3, w4, w5, w6, w7, w8, w9, w10, w11, w12] μ1 := rfl
  have hsrc : iRng (lAll [(eL (callF pg (k + 5) "_law_take") (lAll [(eVar 2), (eCon (.int 13))]))]) [some S, some (.int j), some (.ref b), w3, w4, w5, w6, w7, w8, w9, w10, w11, w12] μ1 = some (([], rngL 0 r.toNat), μ2) := by
    have hR : okR r = true := by simp only [okR, decide_eq_true_eq]; omega
    have h1 : lAll [(eL (callF pg (k + 5) "_law_take") (lAll [(eVar 2), (eCon (.int 13))]))] [some S, some (.int j), some (.ref b), w3, w4, w5, w6, w7, w8, w9, w10, w11, w12] μ1 = some ([.int r], μ2) := by simp only [a_cons, a_eL, a_varS, a_var0, a_con, kC_, a_nil, kCb_, kL_, t1]
    unfold iRng
    rw [h1, Option.bind_some]
    simp only
    rw [if_pos hR]
  have hil : (rngL 0 r.toNat).length = r.toNat := by simp [rngL]
  obtain ⟨ds, μ3, c1, c2, ch3⟩ := comp_bag (b := b) (cost := 24) (al := true) (Q := QE) (m := 90000) (f := gName 11) (vs := [11]) (cond := eCon (.bl true)) (elt := eL (callF pg (k + 5) "_law_entry") (lAll [(eVar 2), (eVar 11)]))
    (F := fun d => [some S, some (.int j), some (.ref b), w3, w4, w5, w6, w7, w8, w9, w10, some d, w12]) hsrc (fun d => rfl) (fun d hd μ m hb => by
      obtain ⟨i, hi, rfl⟩ := List.mem_map.mp hd
      have hi := List.mem_range.mp hi
      obtain ⟨e, μ', x1, x2, x3, x4, x5⟩ := entry_ok (k + 3) (n := 0 + (i : Int)) hb (by omega) (by omega)
      have x1 : callF pg (k + 5) "_law_entry" [.ref b, .int (0 + (i : Int))] μ = some (enD e, μ') := x1
      refine ⟨true, μ, rfl, .inr ⟨rfl, enD e, μ', ?_, by simp [enD, clD, clL], ⟨e, rfl, x3, x2, by rw [x4]⟩, x5⟩⟩
      simp only [a_eL, a_cons, a_nil, a_varS, a_var0, kC_, kCb_, kL_, x1]) (by rw [hil]; exact sz (by omega)) (by rw [hil]; exact ch2.1.le (by omega))
  obtain ⟨es, rfl, g1, g2⟩ := kept_en c2
  have hes : Es es := ⟨g1, pn_nodup (by rw [← g2]; exact rng_nodup _), by
    have := congrArg List.length g2
    rw [hil, List.length_map] at this
    omega⟩
  have hel := hes.len
  -- one
  have hv3 : ∀ μ, iVal (eVar 3) [some S, some (.int j), some (.ref b), some (.fl (es.map enD)), w4, w5, w6, w7, w8, w9, w10, w11, w12] μ = some (([], es.map enD), μ) := fun μ => rfl
  obtain ⟨ds4, μ4, c4, d4, ch4⟩ := comp_bag (b := b) (cost := 1) (al := false) (Q := fun d y => y = d) (m := 80000) (f := gName 12) (vs := [12]) (cond := e2 cEq (eL (callF pg (k + 5) "_law_take") (lAll [(eVar 2), (eCon (.int 2))])) (eCon (.int 0))) (elt := eVar 12)
    (F := fun d => [some S, some (.int j), some (.ref b), some (.fl (es.map enD)), w4, w5, w6, w7, w8, w9, w10, w11, some d]) (hv3 μ3) (fun d => rfl) (fun d hd μ m hb => by
      obtain ⟨e, he, rfl⟩ := List.mem_map.mp hd
      obtain ⟨r', μ', x1, x2, x3, x4⟩ := tk (q := 2) hb (by decide) (by decide)
      refine ⟨decide (r' = 0), μ', ?_, ?_⟩
      · simp only [a_e2, a_eL, a_cons, a_nil, a_varS, a_var0, a_con, kC_, kCb_, kL_, x1, k2_, k2b_, eqI0]
      · by_cases q : r' = 0
        · exact .inr ⟨by simp [q], enD e, μ', rfl, by simp [enD, clD, clL], rfl, x4⟩
        · exact .inl ⟨by simp [q], rfl, x4⟩) (by rw [List.length_map]; exact sz (by omega)) (by rw [List.length_map]; exact ch3.1.le (by omega))
  obtain ⟨sub4, rfl, s4⟩ := sub_en (kept_sub d4)
  have e4 := hes.sub s4
  obtain ⟨x, hx⟩ : ∃ x : Lg, x = .fl ((srtE sub4).map Wi.ok) := ⟨_, rfl⟩
  have sx : SL x := by rw [hx]; exact e4.srt.sl
  have so4 : ∀ μ, sortedD [.fl (sub4.map enD)] μ = some (lgX x, μ) := fun μ => by rw [hx]; exact e4.sorted μ
  have hxl : lgX x = lgD (srtE sub4) := by rw [hx]; exact lg_ok _
  -- other
  have hv3' : ∀ μ, iVal (eVar 3) [some S, some (.int j), some (.ref b), some (.fl (es.map enD)), some (lgX x), w5, w6, w7, w8, w9, w10, w11, w12] μ = some (([], es.map enD), μ) := fun μ => rfl
  obtain ⟨ds5, μ5, c5, d5, ch5⟩ := comp_bag (b := b) (cost := 1) (al := false) (Q := fun d y => y = d) (m := 70000) (f := gName 12) (vs := [12]) (cond := eOr (e2 cNi (eVar 12) (eVar 4)) (e2 cEq (eL (callF pg (k + 5) "_law_take") (lAll [(eVar 2), (eCon (.int 3))])) (eCon (.int 0)))) (elt := eVar 12)
    (F := fun d => [some S, some (.int j), some (.ref b), some (.fl (es.map enD)), some (lgX x), w5, w6, w7, w8, w9, w10, w11, some d]) (hv3' μ4) (fun d => rfl) (fun d hd μ m hb => by
      obtain ⟨e, he, rfl⟩ := List.mem_map.mp hd
      have ni : ∀ μ, cNi (enD e) (lgX x) μ = some (.bl (!decide (e ∈ srtE sub4)), μ) := fun μ => by
        show G.b2 ((inD μ (enD e) (lgX x)).map (!·)) μ = _
        rw [hxl, inD_en μ (hes.ok e he).1 fun e' he' => (e4.srt.ok e' he').1]
        rfl
      by_cases q : e ∈ srtE sub4
      · obtain ⟨r', μ', x1, x2, x3, x4⟩ := tk (q := 3) hb (by decide) (by decide)
        have ni : ∀ μ, cNi (enD e) (lgX x) μ = some (.bl false, μ) := fun μ => by rw [ni, decide_eq_true q]; rfl
        refine ⟨decide (r' = 0), μ', ?_, ?_⟩
        · simp only [a_or, kOr_f, a_e2, a_eL, a_cons, a_nil, a_varS, a_var0, a_con, kC_, kCb_, kL_, x1, k2_, k2b_, eqI0, ni]
        · by_cases q : r' = 0
          · exact .inr ⟨by simp [q], enD e, μ', rfl, by simp [enD, clD, clL], rfl, x4⟩
          · exact .inl ⟨by simp [q], rfl, x4⟩
      · have ni : ∀ μ, cNi (enD e) (lgX x) μ = some (.bl true, μ) := fun μ => by rw [ni, decide_eq_false q]; rfl
        refine ⟨true, μ, ?_, .inr ⟨rfl, enD e, μ, rfl, by simp [enD, clD, clL], rfl, (hb.le (by omega)).ch⟩⟩
        simp only [a_or, kOr_t, a_e2, a_varS, a_var0, k2_, k2b_, ni]) (by rw [List.length_map]; exact sz (by omega)) (by rw [List.length_map]; exact ch4.1.le (by omega))
  obtain ⟨sub5, rfl, s5⟩ := sub_en (kept_sub d5)
  have e5 := hes.sub s5
  obtain ⟨y0, hy0⟩ : ∃ y : Lg, y = .fl ((srtE sub5).map Wi.ok) := ⟨_, rfl⟩
  have so5 : ∀ μ, sortedD [.fl (sub5.map enD)] μ = some (lgX y0, μ) := fun μ => by rw [hy0]; exact e5.sorted μ
  have hy0l : lgX y0 = lgD (srtE sub5) := by rw [hy0]; exact lg_ok _
  -- perhaps put otherwise
  obtain ⟨r6, μ6, t6, r60, r61, ch6⟩ := tk (q := 4) (ch5.1.le (show 69999 + 1 ≤ 70000 by omega)) (by decide) (by decide)
  have h6 : ∃ (y : Lg) (μ7 : Mu), SL y ∧ Ch μ6 b 60000 μ7 ∧ sIf (e2 cEq (eL (callF pg (k + 5) "_law_take") (lAll [(eVar 2), (eCon (.int 4))])) (eCon (.int 0))) (sAll [sSet 5 (eL (callF pg (k + 5) "_law_odd") (lAll [(eVar 2), (eVar 5)]))]) (sAll []) [some S, some (.int j), some (.ref b), some (.fl (es.map enD)), some (lgX x), some (lgX y0), w6, w7, w8, w9, w10, w11, w12] μ5
      = some (.nx [some S, some (.int j), some (.ref b), some (.fl (es.map enD)), some (lgX x), some (lgX y), w6, w7, w8, w9, w10, w11, w12], μ7) := by
    by_cases q : r6 = 0
    · obtain ⟨y, μ7, x1, x2, x3⟩ := odd_ok (k + 3) (es := srtE sub5) (ch6.1.le (show 60000 + 2 ≤ 69999 by omega)) e5.srt.ok (by have := e5.srt.len; omega)
      have x1 : callF pg (k + 5) "_law_odd" [.ref b, lgX y0] μ6 = some (lgX y, μ7) := by rw [hy0l]; exact x1
      refine ⟨y, μ7, x2, x3, ?_⟩
      have q' : ∀ μ, cEq (.int r6) (.int 0) μ = some (.bl true, μ) := fun μ => by rw [eqI0, decide_eq_true q]
      simp only [s_if, s_cons, s_nil, s_set, a_e2, a_eL, a_cons, a_nil, a_varS, a_var0, a_con, kC_, kCb_, kL_, t6, k2_, k2b_, q', kSif_t, x1, kSet_, kS_n, List.set_cons_succ, List.set_cons_zero]
    · refine ⟨y0, μ6, by rw [hy0]; exact e5.srt.sl, (ch6.1.le (by omega)).ch, ?_⟩
      have q' : ∀ μ, cEq (.int r6) (.int 0) μ = some (.bl false, μ) := fun μ => by rw [eqI0, decide_eq_false q]
      simp only [s_if, s_nil, a_e2, a_eL, a_cons, a_nil, a_varS, a_var0, a_con, kC_, kCb_, kL_, t6, k2_, k2b_, q', kSif_f]
  obtain ⟨y, μ7, sy, ch7, e6⟩ := h6
  -- the log and two that are put otherwise
  obtain ⟨z, hz⟩ : ∃ z : Lg, z = .fl ((srtE es).map Wi.ok) := ⟨_, rfl⟩
  have soz : ∀ μ, sortedD [.fl (es.map enD)] μ = some (lgX z, μ) := fun μ => by rw [hz]; exact hes.sorted μ
  have hzl : lgX z = lgD (srtE es) := by rw [hz]; exact lg_ok _
  have sz' : SL z := by rw [hz]; exact hes.srt.sl
  obtain ⟨z1, μ8, o1, so1, ch8⟩ := odd_ok (k + 3) (es := srtE es) (ch7.1.le (show 50000 + 2 ≤ 60000 by omega)) hes.srt.ok (by have := hes.srt.len; omega)
  obtain ⟨z2, μ9, o2, so2, ch9⟩ := odd_ok (k + 3) (es := srtE es) (ch8.1.le (show 40000 + 2 ≤ 50000 by omega)) hes.srt.ok (by have := hes.srt.len; omega)
  have o1 : callF pg (k + 5) "_law_odd" [.ref b, lgX z] μ7 = some (lgX z1, μ8) := by rw [hzl]; exact o1
  have o2 : callF pg (k + 5) "_law_odd" [.ref b, lgX z] μ8 = some (lgX z2, μ9) := by rw [hzl]; exact o2
  obtain ⟨v7, v8, v9, v10, hf⟩ := some_for k μ9 sx sy (some S) (some (.int j)) (some (.ref b)) (some (.fl (es.map enD))) (some (lgX z)) w11 w12 [z, z1, z2, z] w7 w8 w9 w10 (fun u hu => by
    simp only [List.mem_cons, List.not_mem_nil, or_false] at hu
    rcases hu with rfl | rfl | rfl | rfl
    · exact sz'
    · exact so1
    · exact so2
    · exact sz')
  have hsr : iVal (eL flD (lAll [(eVar 6), (eL (callF pg (k + 5) "_law_odd") (lAll [(eVar 2), (eVar 6)])), (eL (callF pg (k + 5) "_law_odd") (lAll [(eVar 2), (eVar 6)])), (eVar 6)])) [some S, some (.int j), some (.ref b), some (.fl (es.map enD)), some (lgX x), some (lgX y), some (lgX z), w7, w8, w9, w10, w11, w12] μ7 = some (([], [z, z1, z2, z].map lgX), μ9) := by
    have f4 := fun μ => flS [lgX z, lgX z1, lgX z2, lgX z] μ (by simp)
    have sr : ∀ μ, srcD μ (.fl [lgX z, lgX z1, lgX z2, lgX z]) = some ([], [z, z1, z2, z].map lgX) := fun μ => rfl
    simp only [a_iVal, a_eL, a_cons, a_nil, a_varS, a_var0, kC_, kCb_, kL_, o1, o2, f4, kV_, sr, Option.map_some]
  -- the claims of one alone
  have p1 : ∀ μ, callF pg (k + 5) "holds" [.tup [.str "joined", lgX x, lgX x, lgX x], .tup []] μ = some (.bl false, μ) := fun μ => holds_paper (k + 4) μ x x x
  have p2 : ∀ μ, callF pg (k + 5) "holds" [.tup [.str "joined", lgX x, lgX x], .non] μ = some (.bl false, μ) := fun μ => holds_two (k + 4) μ x x
  have p3 : ∀ μ, callF pg (k + 5) "holds" [.tup [.str "joined", lgX x, lgX x, lgX x], .non] μ = some (.bl true, μ) := fun μ => by
    have := holds_joined k μ sx sx sx
    rw [this, hx, e4.self]
  have u3 := fun μ => tupS [.str "joined", lgX x, lgX x, lgX x] μ (by simp)
  have u2 := fun μ => tupS [.str "joined", lgX x, lgX x] μ (by simp)
  have u0 := fun μ => tupS [] μ (by simp)
  have nf : ∀ μ, cNe (.bl false) (.bl false) μ = some (.bl false, μ) := fun μ => rfl
  have nt : ∀ μ, cNe (.bl true) (.bl true) μ = some (.bl false, μ) := fun μ => rfl
  refine ⟨some (.ref b), some (.fl (es.map enD)), some (lgX x), some (lgX y), some (lgX z), v7, v8, v9, v10, w11, w12, μ9, ?_⟩
  rw [← hS]
  have a1 : sSet 2 (eL (callF pg (k + 5) "_law_bag") (lAll [(eVar 0), (eVar 1)])) [some S, some (.int j), w2, w3, w4, w5, w6, w7, w8, w9, w10, w11, w12] μ = some (.nx [some S, some (.int j), some (.ref b), w3, w4, w5, w6, w7, w8, w9, w10, w11, w12], μ1) := by
    simp only [s_set, a_eL, a_cons, a_nil, a_varS, a_var0, kC_, kCb_, kL_, hb, kSet_, List.set_cons_succ, List.set_cons_zero]
  unfold oneTurn
  rw [s_cons, a1, kS_n, s_cons, s_set, c1, kSet_]
  simp only [List.set_cons_succ, List.set_cons_zero]
  rw [kS_n, s_cons, s_set, a_eL, a_cons, c4, kC_, a_nil, kCb_, kL_, so4, kSet_]
  simp only [List.set_cons_succ, List.set_cons_zero]
  rw [kS_n, s_cons, s_set, a_eL, a_cons, c5, kC_, a_nil, kCb_, kL_, so5, kSet_]
  simp only [List.set_cons_succ, List.set_cons_zero]
  rw [kS_n, s_cons, e6, kS_n, s_cons, s_set, a_eL, a_cons, a_varS, a_varS, a_varS, a_var0, kC_, a_nil, kCb_, kL_, soz, kSet_]
  simp only [List.set_cons_succ, List.set_cons_zero]
  rw [kS_n, s_cons, s_for, hsr, kFor_, hf]
  simp only [s_cons, s_nil, s_if, kS_n, kSif_f, a_or, kOr_f, a_e2, a_eL, a_cons, a_nil, a_varS, a_var0, a_con, kC_, kCb_, kL_, k2_, k2b_, u3, u2, u0, p1, p2, p3, nf, nt]
end G
set_option Elab.async false
set_option linter.all false
set_option maxRecDepth 100000
set_option maxHeartbeats 4000000
/-! M11: the law's answer. -/
namespace G
open PySem L2
theorem len13 {r : Fr} (h : r.length = 11) : ∃ w2 w3 w4 w5 w6 w7 w8 w9 w10 w11 w12, r = [w2, w3, w4, w5, w6, w7, w8, w9, w10, w11, w12] := by
  match r, h with
  | [a, b, c, d, e, f, g, h, i, j, k], _ => exact ⟨a, b, c, d, e, f, g, h, i, j, k, rfl⟩
theorem law_turns (k : Nat) (ns : List Int) : ∀ (l : List Nat) (w1 : Ow) (r : Fr) (μ : Mu), r.length = 11 → (∀ i ∈ l, i < 8) →
    ∃ v1 r' μ', forL [] (gName 1) (oneTurn (callF pg (k + 5))) (l.map fun (i : Nat) => D.int (0 + (i : Int))) (some (.sc (ns.map .int)) :: w1 :: r) μ = some (.nx (some (.sc (ns.map .int)) :: v1 :: r'), μ')
  | [], w1, r, μ, _, _ => ⟨w1, r, μ, rfl⟩
  | i :: l, w1, r, μ, h, hl => by
    obtain ⟨w2, w3, w4, w5, w6, w7, w8, w9, w10, w11, w12, rfl⟩ := len13 h
    have hi := hl i (List.mem_cons_self ..)
    obtain ⟨v2, v3, v4, v5, v6, v7, v8, v9, v10, v11, v12, μ1, e⟩ := one_turn k μ ns (j := 0 + (i : Int)) (by omega) (by omega) w2 w3 w4 w5 w6 w7 w8 w9 w10 w11 w12
    obtain ⟨u1, r', μ2, e2⟩ := law_turns k ns l (some (.int (0 + (i : Int)))) [v2, v3, v4, v5, v6, v7, v8, v9, v10, v11, v12] μ1 rfl fun j hj => hl j (List.mem_cons_of_mem _ hj)
    refine ⟨u1, r', μ2, ?_⟩
    have hg : gName 1 (.int (0 + (i : Int))) (some (.sc (ns.map .int)) :: w1 :: [w2, w3, w4, w5, w6, w7, w8, w9, w10, w11, w12]) = some [some (.sc (ns.map .int)), some (.int (0 + (i : Int))), w2, w3, w4, w5, w6, w7, w8, w9, w10, w11, w12] := rfl
    rw [List.map_cons, forL, if_pos (by rfl : okSrc μ [] = true), hg, Option.bind_some, e, Option.bind_some]
    exact e2
theorem law_ok (k : Nat) (ns : List Int) (hn : ns.length ≤ 1000) : ∃ μ', callF pg (k + 6) "law" [.sc (ns.map .int)] [] = some (.bl true, μ') := by
  rw [c_law]
  have hst : start i_law.N [.sc (ns.map .int)] = some (.sc (ns.map .int)) :: none :: [none, none, none, none, none, none, none, none, none, none, none] := rfl
  obtain ⟨q, hq, q1⟩ : ∃ q : Nat, (∀ μ : Mu, iRng (lAll [(eL maxD (lAll [(eCon (.int 1)), (eL minD (lAll [(eCon (.int 8)), (eL lenD (lAll [(eVar 0)]))]))]))]) (some (.sc (ns.map .int)) :: none :: [none, none, none, none, none, none, none, none, none, none, none]) μ = some (([], rngL 0 q), μ)) ∧ q ≤ 8 := by
    obtain ⟨n, hn'⟩ : ∃ n : Int, n = ns.length := ⟨_, rfl⟩
    have hl : ∀ μ : Mu, lenD [.sc (ns.map D.int)] μ = some (.int n, μ) := fun μ => by
      show some (D.int ((ns.map D.int).length : Nat), μ) = _
      rw [List.length_map, hn']
    obtain ⟨a, ha⟩ : ∃ a : Int, a = if n < 8 then n else 8 := ⟨_, rfl⟩
    obtain ⟨c, hc⟩ : ∃ c : Int, c = if a > 1 then a else 1 := ⟨_, rfl⟩
    have h1 : ∀ μ, minD [.int 8, .int n] μ = some (.int a, μ) := fun μ => by rw [ha]; rfl
    have h2 : ∀ μ, maxD [.int 1, .int a] μ = some (.int c, μ) := fun μ => by rw [hc]; rfl
    have a8 : a ≤ 8 := by rw [ha]; split <;> omega
    have c8 : 1 ≤ c ∧ c ≤ 8 := by rw [hc]; split <;> omega
    refine ⟨c.toNat, fun μ => ?_, by omega⟩
    have hR : okR c = true := by simp only [okR, decide_eq_true_eq]; omega
    have h3 : lAll [(eL maxD (lAll [(eCon (.int 1)), (eL minD (lAll [(eCon (.int 8)), (eL lenD (lAll [(eVar 0)]))]))]))] (some (.sc (ns.map .int)) :: none :: [none, none, none, none, none, none, none, none, none, none, none]) μ = some ([.int c], μ) := by
      simp only [a_cons, a_eL, a_varS, a_var0, a_con, kC_, a_nil, kCb_, kL_, hl, h1, h2]
    unfold iRng
    rw [h3, Option.bind_some]
    simp only
    rw [if_pos hR]
  obtain ⟨v1, r', μ', e⟩ := law_turns k ns (List.range q) none [none, none, none, none, none, none, none, none, none, none, none] [] rfl fun i hi => by
    have := List.mem_range.mp hi
    omega
  have hbody : b_law (callF pg (k + 5)) (start i_law.N [.sc (ns.map .int)]) [] = some (.rt (.bl true), μ') := by
    unfold b_law
    rw [hst, s_cons, s_for, hq, kFor_]
    change kS _ (forL [] (gName 1) (oneTurn (callF pg (k + 5))) (rngL 0 q) _ []) = _
    unfold rngL
    rw [e, kS_n]
    rfl
  refine ⟨[], (runFn_rt (by rfl) hbody).trans ?_⟩
  show finish 0 [] (.bl true) μ' = _
  have h1 : okPre 0 [] μ' = true := by simp [okPre]
  unfold finish
  rw [if_pos h1]
  rfl
theorem law_done (ns : List Int) (hl : ns.length ≤ 63) : ∃ μ', callF pg 20 "law" [.sc (ns.map .int)] [] = some (.bl true, μ') := law_ok 14 ns (by omega)
end G
set_option Elab.async false
set_option linter.all false
set_option maxRecDepth 100000
set_option maxHeartbeats 0
namespace G
open PySem L2
def nm0 : List PySem.Str := ["LETTERS", "MOST_LETTERS", "is_whole", "is_name", "rises", "are_rising", "are_whole", "is_written", "KINDS", "TOLD_BY", "OPENER", "MOST_ADDRESS_plans", "MOST_DEVICES", "MOST_LOOPS", "MOST_PLACES", "MOST_SPUR", "MOST_ZONES", "is_device", "is_place", "is_loop", "is_zone", "are_zones", "is_plan", "devices", "stretches"]
def nm1 : List PySem.Str := ["openers", "parts", "told_twice", "crowded", "zone_at_odds", "wrong", "is_let_by", "spur_come_to", "come_to", "steps_of", "feels", "all_rest", "MOST_OF", "MOST_KEY", "MOST_HOUR", "MOST_BACK", "MOST_ADDRESS_rules", "MOST_RULES", "MOST_WARNED", "MOST_BEATS", "is_brought", "is_history", "in_hours", "MOST_ROWS", "is_row"]
def nm2 : List PySem.Str := ["is_out", "is_table", "Runner", "HOWS", "ENDS", "MOST_NUMBER", "MOST_WEIGHTS", "MOST_WEIGHT", "MOST_STAMP", "MOST_TEXT", "is_text_of", "is_fault", "are_faults", "is_opener", "are_openers", "all_so", "is_spot", "goes_on", "is_heard", "beside", "is_of_fence", "is_shut", "is_still", "are_spans", "are_fewest"]
def nm3 : List PySem.Str := ["is_entry", "is_log", "are_joined", "are_said", "holds", "_law_bag", "_law_take", "_law_entry", "_law_odd", "_law_is_log", "_law_copy", "_law_due"]
def names : List PySem.Str := nm0 ++ nm1 ++ nm2 ++ nm3
def numL : List (Str × Int) := [("MOST_STAMP", 999), ("MOST_TEXT", 20)]
theorem sc__law_bag : FnScope i__law_bag.N i__law_bag.params (defScope i__law_bag.st) := ⟨rfl, rfl, rfl, by decide +kernel, rfl, by decide +kernel, by decide +kernel⟩
theorem bd__law_bag : BindOk ("_law_bag", i__law_bag) := fun _ _ _ _ _ _ us hl => match us, hl with | [_, _], _ => rfl
theorem sc__law_take : FnScope i__law_take.N i__law_take.params (defScope i__law_take.st) := ⟨rfl, rfl, rfl, by decide +kernel, rfl, by decide +kernel, by decide +kernel⟩
theorem bd__law_take : BindOk ("_law_take", i__law_take) := fun _ _ _ _ _ _ us hl => match us, hl with | [_, _], _ => rfl
theorem sc__law_entry : FnScope i__law_entry.N i__law_entry.params (defScope i__law_entry.st) := ⟨rfl, rfl, rfl, by decide +kernel, rfl, by decide +kernel, by decide +kernel⟩
theorem bd__law_entry : BindOk ("_law_entry", i__law_entry) := fun _ _ _ _ _ _ us hl => match us, hl with | [_, _], _ => rfl
theorem sc__law_odd : FnScope i__law_odd.N i__law_odd.params (defScope i__law_odd.st) := ⟨rfl, rfl, rfl, by decide +kernel, rfl, by decide +kernel, by decide +kernel⟩
theorem bd__law_odd : BindOk ("_law_odd", i__law_odd) := fun _ _ _ _ _ _ us hl => match us, hl with | [_, _], _ => rfl
theorem sc__law_is_log : FnScope i__law_is_log.N i__law_is_log.params (defScope i__law_is_log.st) := ⟨rfl, rfl, rfl, by decide +kernel, rfl, by decide +kernel, by decide +kernel⟩
theorem bd__law_is_log : BindOk ("_law_is_log", i__law_is_log) := fun _ _ _ _ _ _ us hl => match us, hl with | [_], _ => rfl
theorem sc__law_due : FnScope i__law_due.N i__law_due.params (defScope i__law_due.st) := ⟨rfl, rfl, rfl, by decide +kernel, rfl, by decide +kernel, by decide +kernel⟩
theorem bd__law_due : BindOk ("_law_due", i__law_due) := fun _ _ _ _ _ _ us hl => match us, hl with | [_, _, _], _ => rfl
theorem sc__law_copy : FnScope i__law_copy.N i__law_copy.params (defScope i__law_copy.st) := ⟨rfl, rfl, rfl, by decide +kernel, rfl, by decide +kernel, by decide +kernel⟩
theorem bd__law_copy : BindOk ("_law_copy", i__law_copy) := fun _ _ _ _ _ _ us hl => match us, hl with | [_], _ => rfl
theorem sc_all_so : FnScope i_all_so.N i_all_so.params (defScope i_all_so.st) := ⟨rfl, rfl, rfl, by decide +kernel, rfl, by decide +kernel, by decide +kernel⟩
theorem bd_all_so : BindOk ("all_so", i_all_so) := fun _ _ _ _ _ _ us hl => match us, hl with | [_, _, _], _ => rfl
theorem sc_is_heard : FnScope i_is_heard.N i_is_heard.params (defScope i_is_heard.st) := ⟨rfl, rfl, rfl, by decide +kernel, rfl, by decide +kernel, by decide +kernel⟩
theorem bd_is_heard : BindOk ("is_heard", i_is_heard) := fun _ _ _ _ _ _ us hl => match us, hl with | [_, _], _ => rfl
theorem sc_is_still : FnScope i_is_still.N i_is_still.params (defScope i_is_still.st) := ⟨rfl, rfl, rfl, by decide +kernel, rfl, by decide +kernel, by decide +kernel⟩
theorem bd_is_still : BindOk ("is_still", i_is_still) := fun _ _ _ _ _ _ us hl => match us, hl with | [_, _], _ => rfl
theorem sc_are_fewest : FnScope i_are_fewest.N i_are_fewest.params (defScope i_are_fewest.st) := ⟨rfl, rfl, rfl, by decide +kernel, rfl, by decide +kernel, by decide +kernel⟩
theorem bd_are_fewest : BindOk ("are_fewest", i_are_fewest) := fun _ _ _ _ _ _ us hl => match us, hl with | [_, _], _ => rfl
theorem sc_is_whole : FnScope i_is_whole.N i_is_whole.params (defScope i_is_whole.st) := ⟨rfl, rfl, rfl, by decide +kernel, rfl, by decide +kernel, by decide +kernel⟩
theorem bd_is_whole : BindOk ("is_whole", i_is_whole) := fun _ _ _ _ _ _ us hl => match us, hl with | [_, _, _], _ => rfl
theorem sc_is_written : FnScope i_is_written.N i_is_written.params (defScope i_is_written.st) := ⟨rfl, rfl, rfl, by decide +kernel, rfl, by decide +kernel, by decide +kernel⟩
theorem bd_is_written : BindOk ("is_written", i_is_written) := fun _ _ _ _ _ _ us hl => match us, hl with | [_, _, _], _ => rfl
theorem sc_is_entry : FnScope i_is_entry.N i_is_entry.params (defScope i_is_entry.st) := ⟨rfl, rfl, rfl, by decide +kernel, rfl, by decide +kernel, by decide +kernel⟩
theorem bd_is_entry : BindOk ("is_entry", i_is_entry) := fun _ _ _ _ _ _ us hl => match us, hl with | [_], _ => rfl
theorem sc_rises : FnScope i_rises.N i_rises.params (defScope i_rises.st) := ⟨rfl, rfl, rfl, by decide +kernel, rfl, by decide +kernel, by decide +kernel⟩
theorem bd_rises : BindOk ("rises", i_rises) := fun _ _ _ _ _ _ us hl => match us, hl with | [_], _ => rfl
theorem sc_is_log : FnScope i_is_log.N i_is_log.params (defScope i_is_log.st) := ⟨rfl, rfl, rfl, by decide +kernel, rfl, by decide +kernel, by decide +kernel⟩
theorem bd_is_log : BindOk ("is_log", i_is_log) := fun _ _ _ _ _ _ us hl => match us, hl with | [_], _ => rfl
theorem sc_are_joined : FnScope i_are_joined.N i_are_joined.params (defScope i_are_joined.st) := ⟨rfl, rfl, rfl, by decide +kernel, rfl, by decide +kernel, by decide +kernel⟩
theorem bd_are_joined : BindOk ("are_joined", i_are_joined) := fun _ _ _ _ _ _ us hl => match us, hl with | [_, _, _], _ => rfl
theorem sc_are_said : FnScope i_are_said.N i_are_said.params (defScope i_are_said.st) := ⟨rfl, rfl, rfl, by decide +kernel, rfl, by decide +kernel, by decide +kernel⟩
theorem bd_are_said : BindOk ("are_said", i_are_said) := fun _ _ _ _ _ _ us hl => match us, hl with | [_, _, _], _ => rfl
theorem sc_holds : FnScope i_holds.N i_holds.params (defScope i_holds.st) := ⟨rfl, rfl, rfl, by decide +kernel, rfl, by decide +kernel, by decide +kernel⟩
theorem bd_holds : BindOk ("holds", i_holds) := fun _ _ _ _ _ _ us hl => match us, hl with | [_, _], _ => rfl
theorem sc_law : FnScope i_law.N i_law.params (defScope i_law.st) := ⟨rfl, rfl, rfl, by decide +kernel, rfl, by decide +kernel, by decide +kernel⟩
theorem bd_law : BindOk ("law", i_law) := fun _ _ _ _ _ _ us hl => match us, hl with | [_], _ => rfl
theorem all_bd : ∀ p ∈ tabL, BindOk p := fun p hp => by
  rcases List.mem_cons.mp hp with rfl | hp
  · exact bd__law_bag
  rcases List.mem_cons.mp hp with rfl | hp
  · exact bd__law_take
  rcases List.mem_cons.mp hp with rfl | hp
  · exact bd__law_entry
  rcases List.mem_cons.mp hp with rfl | hp
  · exact bd__law_odd
  rcases List.mem_cons.mp hp with rfl | hp
  · exact bd__law_is_log
  rcases List.mem_cons.mp hp with rfl | hp
  · exact bd__law_due
  rcases List.mem_cons.mp hp with rfl | hp
  · exact bd__law_copy
  rcases List.mem_cons.mp hp with rfl | hp
  · exact bd_all_so
  rcases List.mem_cons.mp hp with rfl | hp
  · exact bd_is_heard
  rcases List.mem_cons.mp hp with rfl | hp
  · exact bd_is_still
  rcases List.mem_cons.mp hp with rfl | hp
  · exact bd_are_fewest
  rcases List.mem_cons.mp hp with rfl | hp
  · exact bd_is_whole
  rcases List.mem_cons.mp hp with rfl | hp
  · exact bd_is_written
  rcases List.mem_cons.mp hp with rfl | hp
  · exact bd_is_entry
  rcases List.mem_cons.mp hp with rfl | hp
  · exact bd_rises
  rcases List.mem_cons.mp hp with rfl | hp
  · exact bd_is_log
  rcases List.mem_cons.mp hp with rfl | hp
  · exact bd_are_joined
  rcases List.mem_cons.mp hp with rfl | hp
  · exact bd_are_said
  rcases List.mem_cons.mp hp with rfl | hp
  · exact bd_holds
  rcases List.mem_cons.mp hp with rfl | hp
  · exact bd_law
  cases hp
theorem all_sc : ∀ p ∈ tabL, FnScope p.2.N p.2.params (defScope p.2.st) := fun p hp => by
  rcases List.mem_cons.mp hp with rfl | hp
  · exact sc__law_bag
  rcases List.mem_cons.mp hp with rfl | hp
  · exact sc__law_take
  rcases List.mem_cons.mp hp with rfl | hp
  · exact sc__law_entry
  rcases List.mem_cons.mp hp with rfl | hp
  · exact sc__law_odd
  rcases List.mem_cons.mp hp with rfl | hp
  · exact sc__law_is_log
  rcases List.mem_cons.mp hp with rfl | hp
  · exact sc__law_due
  rcases List.mem_cons.mp hp with rfl | hp
  · exact sc__law_copy
  rcases List.mem_cons.mp hp with rfl | hp
  · exact sc_all_so
  rcases List.mem_cons.mp hp with rfl | hp
  · exact sc_is_heard
  rcases List.mem_cons.mp hp with rfl | hp
  · exact sc_is_still
  rcases List.mem_cons.mp hp with rfl | hp
  · exact sc_are_fewest
  rcases List.mem_cons.mp hp with rfl | hp
  · exact sc_is_whole
  rcases List.mem_cons.mp hp with rfl | hp
  · exact sc_is_written
  rcases List.mem_cons.mp hp with rfl | hp
  · exact sc_is_entry
  rcases List.mem_cons.mp hp with rfl | hp
  · exact sc_rises
  rcases List.mem_cons.mp hp with rfl | hp
  · exact sc_is_log
  rcases List.mem_cons.mp hp with rfl | hp
  · exact sc_are_joined
  rcases List.mem_cons.mp hp with rfl | hp
  · exact sc_are_said
  rcases List.mem_cons.mp hp with rfl | hp
  · exact sc_holds
  rcases List.mem_cons.mp hp with rfl | hp
  · exact sc_law
  cases hp
theorem cst_num : ∀ (x : Str) (d : D), cstL.lookup x = some d → ∃ i, d = .int i ∧ (x, i) ∈ numL := fun x d e => by
  have m := lookup_mem e
  rcases List.mem_cons.mp m with e | m
  · cases e; exact ⟨999, rfl, by simp [numL]⟩
  rcases List.mem_cons.mp m with e | m
  · cases e; exact ⟨20, rfl, by simp [numL]⟩
  cases m
abbrev RR : PySem.W.OpenRow := PySem.W.OpenLaw.row PySem.Challenge.rw_warnloop_k55_joined_claims
abbrev hk : PySem.W.Hook := He.hookD 4 (faOf tabL freeL numL) (tabL.map defOf)
def ob (s : PySem.W.SharedT) : He.AlD := He.obsDG 4 (faOf tabL freeL numL) (tabL.map defOf) (HandSHeadRun.getT s)
theorem ob_eq (s : PySem.W.SharedT) : ob s = hk.obs s.abs := He.obsDG_eq (HandSHeadRun.getT_eq s)
theorem run (w : World) : HandSHeadRun.RunEq RR (PySem.W.view RR.prog [94]) hk ob 4000 names w := by
  intro os
  kernel_rfl
end G
open PySem PySem.W PySem.Calls PyProof.Rows
theorem PySem.Challenge.cw_warnloop_k55_joined_claims_holds : PySem.Challenge.rw_warnloop_k55_joined_claims.Holds := by
  w_on; o_law
  refine HandSHeadRun.head_any (r := OpenLaw.row PySem.Challenge.rw_warnloop_k55_joined_claims) (q := view (OpenLaw.row PySem.Challenge.rw_warnloop_k55_joined_claims).prog [94]) (H := G.hk) (ob := G.ob) (M := 4000) (loose := G.names) (d := HandSHeadRun.topDef (OpenLaw.row PySem.Challenge.rw_warnloop_k55_joined_claims).prog 94) (kwd := []) G.ob_eq
    (by kernel_rfl) (fun s => by kernel_rfl) G.run (by kernel_rfl) (by kernel_rfl) (by kernel_rfl) (by rfl) (by first | assumption | decide +kernel) (by decide +kernel) ⟨rfl, rfl, rfl, rfl, rfl, by decide +kernel⟩ ?hw ?hc
  case hw => w_witness2
  case hc =>
    refine L2.walk_ofE (l := PySem.Challenge.rw_warnloop_k55_joined_claims) (n := 63) (k := 20 + 1) (x := "_law_script") (CX := L2.CX0) rfl (by decide) (by kernel_rfl) ⟨rfl, by decide, by decide⟩ ?F (fun _ _ _ _ z => z)
    intro w mg fa h Y G0 hmg0
    obtain ⟨K, KX, c⟩ := Y
    have hmg : mg ("law" : PySem.Str) = some (.ref fa) := by
      have e : (HandSHeadRun.topDef (OpenLaw.row PySem.Challenge.rw_warnloop_k55_joined_claims).prog 94).name = ("law" : PySem.Str) := by kernel_rfl
      rw [← e]
      exact hmg0
    obtain ⟨fd, hb, hF⟩ := G.law_facts (Pr := (PySem.Challenge.rw_warnloop_k55_joined_claims).prog) (w := w) (n := 20) (x := "_law_script") (fi := G.i_law) (cst := fun x => G.cstL.lookup x) (md := fun p => G.newL.contains (p.line, p.col)) KX G0 hmg c G.all_bd G.all_sc G.cst_num (by kernel_rfl) rfl
    exact ⟨K, fd, _, KX, hb, fun H a ns hl O hS => G.law_sp (m := 63) (fun ns hl => G.law_done ns hl) H a ns hl O hS, hF⟩
